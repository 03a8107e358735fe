import PyProof.Rows.All
import Wide.All
import OpenK.AllK
import Wide.FinOn
import PySem.Challenge.RW_sj0178_01
open PySem PySem.W PyProof.Rows PySem.Calls
set_option Elab.async false
set_option linter.all false
set_option maxRecDepth 100000
set_option maxHeartbeats 8000000
namespace Rl
section
/- the kit's k_head writes the heap's fragment (Rl.hd.heap_1) out; the theorem itself says nothing -/
local macro_rules | `(tactic| o_head $_) => `(tactic| assumption)
theorem hd (h : PySem.Challenge.rw_sj0178_01.row.Holds) : PySem.Challenge.rw_sj0178_01.row.Holds := by k_head
end
/- the library's quick twins, where it holds them -/
noncomputable def qStep : { f // f = @stepT } := by first | exact ⟨PySem.W.Fast.tw10156331382660048174, PySem.W.Fast.te10156331382660048174.symm⟩ | exact ⟨@stepT, rfl⟩
noncomputable def qDen : { f // f = @denote } := by first | exact ⟨PySem.W.Fast.tw11892475500146522536, PySem.W.Fast.te11892475500146522536.symm⟩ | exact ⟨@denote, rfl⟩
noncomputable def qTab : { f // f = treeTable } := by first | exact ⟨PySem.W.Fast.tw14364793385576792824, PySem.W.Fast.te14364793385576792824.symm⟩ | exact ⟨treeTable, rfl⟩
noncomputable def qOk : { f // f = @stepOk } := by first | exact ⟨PySem.W.Fast.tw6613529449190102663, PySem.W.Fast.te6613529449190102663.symm⟩ | exact ⟨@stepOk, rfl⟩
noncomputable def qSeen : { f // f = @openSeen } := by first | exact ⟨PySem.W.Fast.tw4187177175401517315, PySem.W.Fast.te4187177175401517315.symm⟩ | exact ⟨@openSeen, rfl⟩
noncomputable def qMods : { f // f = @importedModules } := by first | exact ⟨PySem.W.Fast.tw5923862056798008813, PySem.W.Fast.te5923862056798008813.symm⟩ | exact ⟨@importedModules, rfl⟩
noncomputable def qSaid : { f // f = @OpenLaw.wellSaid } := by first | exact ⟨PySem.W.Fast.tw9446332074065402090, PySem.W.Fast.te9446332074065402090.symm⟩ | exact ⟨@OpenLaw.wellSaid, rfl⟩
noncomputable abbrev lawRow : RowW := PySem.Challenge.rw_sj0178_01.row.toRowW
noncomputable def isAsgn : Stmt → Bool
  | .Assign .. => true
  | _ => false
noncomputable def view : Program := { lawRow.prog with main := { lawRow.prog.main with body := lawRow.prog.main.body.filter fun s => !isAsgn s } }
noncomputable def adrs : List Addr := [2, 3, 15, 17, 18, 20, 21, 22, 24, 25, 27, 28, 29, 31, 32, 34, 35, 36, 38, 39, 41, 42, 43, 46, 47, 48, 50, 51, 53, 54, 55, 58, 59, 60, 62, 63, 65, 66, 67, 70, 71, 72, 75, 76, 77, 79, 80, 82, 83, 84, 86, 87, 89, 90, 91, 93, 94, 96, 97, 98, 100, 101, 103, 104, 105, 107, 108, 110, 111, 112, 114, 115, 117, 118, 119, 121, 122, 124, 125, 126, 128, 129, 131, 132, 133, 135, 136, 138, 139, 140, 142, 143, 145, 146, 147, 149, 150, 152, 153, 154, 156, 157, 159, 160, 168, 170, 171, 173, 174, 175, 177, 178, 180, 181, 182, 184, 185, 187, 188, 189, 191, 192, 194, 195, 196, 198, 199, 201, 202, 203, 205, 206, 208, 209, 210, 211, 212, 213, 214, 217, 219, 220, 222, 223, 224, 226, 227, 229, 230, 231, 234, 235, 236, 238, 239, 241, 242, 243, 246, 247, 248, 251, 252]
theorem adrs_of : ∀ P, adrs = (hd.heap_1 P).map (·.1) := fun _ => by kernel_rfl
noncomputable abbrev hook : Hook := kHook hd.heap_1 adrs adrs_of
noncomputable abbrev seenX (s : Shared) : Bool := xlAt view [] s && recOk (RowW.records lawRow) s
noncomputable def mkT (l : List Obj) : Nat → Nat → Nat → BT
  | 0, _, _ => .nil
  | f + 1, a, b => match l[b]? with
    | some o => .node o (mkT l f (2 * a) (a + b)) (mkT l f (2 * a) (2 * a + b))
    | none => .nil
noncomputable def runT (st : SharedT → Thread → Option (SharedT × Thread)) (ok : Thread → Bool) : Nat → SharedT → Thread → Option SharedT
  | 0, _, _ => none
  | n + 1, s, t => match through t with
    | true => some s
    | false => match ok t with
      | false => none
      | true => match st s t with
        | some (s', t') => runT st ok n s' t'
        | none => none
theorem runT_of {tb : String → Option Builtin} {p : Program} {w : World} {n₀ : Nat} {ann : Option Value} : ∀ (n : Nat) (s : SharedT) (t : Thread) (s' : SharedT),
    runT (stepT (denote tb) p w) (stepOk n₀ ann) n s t = some s' → topRun tb p w n₀ ann n s.abs t = some s'.abs
  | 0, _, _, _, h => nomatch h
  | n + 1, s, t, s', h => by
    unfold runT at h
    unfold topRun
    cases ht : through t with
    | true => rw [ht] at h; cases h; rfl
    | false =>
      rw [ht] at h
      cases hk : stepOk n₀ ann t with
      | false => rw [hk] at h; cases h
      | true =>
        rw [hk] at h
        cases hs : stepT (denote tb) p w s t with
        | none => rw [hs] at h; cases h
        | some r => obtain ⟨s₂, t₂⟩ := r; rw [hs] at h; rw [stepT_spec hs]; exact runT_of n _ _ _ h
noncomputable abbrev boot (w : World) (os : OsState) : Shared := ⟨boot_heap w.params, Array.mk [], boot_drawn, boot_toks, os⟩
noncomputable def T0 (w : World) (os : OsState) : SharedT := ⟨mkT (boot_heap w.params).objs.toList 20 1 0, 11, (boot_heap w.params).life, Array.mk [], boot_drawn, boot_toks, os⟩
theorem T0_abs (w : World) (os : OsState) : (T0 w os).abs = boot w os := by kernel_rfl
theorem boot_is : ∀ w : World, (fencedOpening treeTable lawRow.prog w 2664).map (fun s => (s.heap, s.gens, s.drawn, s.toks)) = some (boot_heap w.params, Array.mk [], boot_drawn, boot_toks) :=
  boot_open (by kernel_rfl) (by decide) (fun s => by kernel_rfl)
theorem boot_size (w : World) : ((boot_heap w.params).isNs mainGlobals && (Array.mk [] : Array GenState).size == 0, (boot_heap w.params).objs.size, (boot_heap w.params).nsMap mainGlobals "__annotations__") = (true, 11, some (.ref 6)) := by kernel_rfl
theorem ran (w : World) (os : OsState) : (runT (qStep.1 (qDen.1 qTab.1) lawRow.prog w) (qOk.1 11 (some (.ref 6))) 2664 (T0 w os) (topStub lawRow.prog)).map (fun T =>
    (staticsOk (qMods.1 lawRow.prog.main.body) (boot_heap w.params) T.abs.heap && namesBound lawRow.prog T.abs.heap && gensDone T.abs && laidKept (boot_heap w.params) T.abs.heap,
      qSeen.1 view [] (qMods.1 lawRow.prog.main.body) seenX true T.abs, (Hook.obs hook) T.abs)) = some (true, openGood view [], (Hook.val hook) w) := by kernel_rfl
theorem left_of {p q : Program} {loose : List Str} {Xt : Shared → Bool} {α : Type} {Yf : Shared → α} {Ya : World → α} {N m₀ : Nat} {ann : Option Value} {H : Params → Heap} {gs : Array GenState} {d : Drawn} {k : Nat} {T : World → OsState → SharedT}
    (open_ : ∀ w : World, (fencedOpening treeTable p w N).map (fun s => (s.heap, s.gens, s.drawn, s.toks)) = some (H w.params, gs, d, k))
    (size : ∀ w : World, ((H w.params).isNs mainGlobals && gs.size == 0, (H w.params).objs.size, (H w.params).nsMap mainGlobals "__annotations__") = (true, m₀, ann))
    (abs0 : ∀ w os, (T w os).abs = ⟨H w.params, gs, d, k, os⟩)
    (run : ∀ w os, (runT (stepT (denote treeTable) p w) (stepOk m₀ ann) N (T w os) (topStub p)).map (fun T =>
      (staticsOk (importedModules p.main.body) (H w.params) T.abs.heap && namesBound p T.abs.heap && gensDone T.abs && laidKept (H w.params) T.abs.heap,
        openSeen q loose (importedModules p.main.body) Xt true T.abs, Yf T.abs)) = some (true, openGood q loose, Ya w)) : LeftO p q loose Xt Yf Ya N := fun w => by
  obtain ⟨s, e, e'⟩ := Option.map_eq_some_iff.mp (open_ w)
  have hs : s = ⟨H w.params, gs, d, k, s.os⟩ := by
    simp only [Prod.mk.injEq] at e'
    rw [← e'.1, ← e'.2.1, ← e'.2.2.1, ← e'.2.2.2]
  obtain ⟨S, r, l⟩ := Option.map_eq_some_iff.mp (run w s.os)
  have r := abs0 w s.os ▸ runT_of _ _ _ _ r
  have z := size w
  rw [hs] at e
  simp only [Prod.mk.injEq] at l z
  simp only [openEnds, e, Option.bind_some, topFrom, z.1, z.2.1, z.2.2, r, l.1, Option.map_some, l.2.1, l.2.2]
theorem left : LeftO lawRow.prog view [] seenX (Hook.obs hook) (Hook.val hook) 2664 := by
  have R := ran
  rw [qStep.2, qDen.2, qTab.2, qOk.2, qMods.2, qSeen.2] at R
  exact left_of boot_is boot_size T0_abs R
theorem said (h : PySem.Challenge.rw_sj0178_01.row.wellSaid = true → PySem.Challenge.rw_sj0178_01.row.Holds) : PySem.Challenge.rw_sj0178_01.Holds := by
  o_law
  exact h (by assumption)
theorem hdef : (defOf view lawRow.name).isSome = true := by kernel_rfl
noncomputable abbrev lawDef : DefRec := ((defOf view lawRow.name).get hdef).1
theorem hdef1 : defOf view lawRow.name = some (lawDef, []) := by kernel_rfl
theorem hdef2 : lawRow.prog.theDef lawRow.name = some (lawDef.params, lawDef.body, lawDef.scope) := by kernel_rfl
theorem head (walk : WalkO view [] (XL view []) (Hook.says hook) lawRow lawDef [] fun f vs => call f vs) : PySem.Challenge.rw_sj0178_01.Holds :=
  said fun k => holds_open (q := view) (loose := []) (Xt := seenX) (XP := XL view []) (Yf := Hook.obs hook) (Ya := Hook.val hook) (YP := Hook.says hook) (N := 2664) left (Hook.of hook) (Hook.keeps hook)
    (fun s e => xl_of s (Bool.and_eq_true_iff.mp e).1) XL.keeps hdef1 hdef2 (by kernel_rfl) (fun s e => recFacts_of (Bool.and_eq_true_iff.mp e).2) (by kernel_rfl) k (by decide +kernel) ⟨rfl, rfl, rfl, rfl, rfl, by decide +kernel⟩ (by w_witness2) walk
set_option maxHeartbeats 200000
end Rl
open PySem.Spec
namespace Rl
mutual
inductive RD (X : Addr → Prop) (h : Heap) : Value → PyData → Prop
  | none : RD X h .none .none
  | bool (b : Bool) : RD X h (.bool b) (.bool b)
  | int (i : Int) (t : Tok) : RD X h (.int i t) (.int i)
  | tuple {a : Addr} {vs : List Value} {n : Nat} {xs : List PyData} : ¬ X a → h.get? a = some { cls := .type "tuple", data := .seq vs.toArray n } → RDs X h vs xs → RD X h (.ref a) (.tuple xs)
  | list {a : Addr} {vs : List Value} {n : Nat} {xs : List PyData} : ¬ X a → h.get? a = some { cls := .type "list", data := .seq vs.toArray n } → RDs X h vs xs → RD X h (.ref a) (.list xs)
inductive RDs (X : Addr → Prop) (h : Heap) : List Value → List PyData → Prop
  | nil : RDs X h [] []
  | cons {v : Value} {vs : List Value} {d : PyData} {ds : List PyData} : RD X h v d → RDs X h vs ds → RDs X h (v :: vs) (d :: ds)
end

section
variable {X X' : Addr → Prop} {h h' : Heap}
noncomputable def NoDict (o : Obj) : Prop := ∀ es ep, o.data ≠ .dict es ep
theorem NoDict.seq {o : Obj} {vs : Array Value} {n : Nat} (e : o.data = .seq vs n) : NoDict o := fun _ _ q => by rw [e] at q; cases q
theorem NoDict.plain {o : Obj} (e : o.data = .plain) : NoDict o := fun _ _ q => by rw [e] at q; cases q
mutual
theorem RD.monoD (k : ∀ a o, NoDict o → ¬ X a → h.get? a = some o → ¬ X' a ∧ h'.get? a = some o) : ∀ {v : Value} {d : PyData}, RD X h v d → RD X' h' v d
  | _, _, .none => .none
  | _, _, .bool b => .bool b
  | _, _, .int i t => .int i t
  | _, _, .tuple n e r => .tuple (k _ _ (.seq rfl) n e).1 (k _ _ (.seq rfl) n e).2 (RDs.monoD k r)
  | _, _, .list n e r => .list (k _ _ (.seq rfl) n e).1 (k _ _ (.seq rfl) n e).2 (RDs.monoD k r)
theorem RDs.monoD (k : ∀ a o, NoDict o → ¬ X a → h.get? a = some o → ¬ X' a ∧ h'.get? a = some o) : ∀ {vs : List Value} {ds : List PyData}, RDs X h vs ds → RDs X' h' vs ds
  | _, _, .nil => .nil
  | _, _, .cons a b => .cons (RD.monoD k a) (RDs.monoD k b)
end
theorem RD.mono (k : ∀ a o, ¬ X a → h.get? a = some o → ¬ X' a ∧ h'.get? a = some o) {v : Value} {d : PyData} (r : RD X h v d) : RD X' h' v d := r.monoD fun a o _ => k a o
theorem RDs.mono (k : ∀ a o, ¬ X a → h.get? a = some o → ¬ X' a ∧ h'.get? a = some o) {vs : List Value} {ds : List PyData} (r : RDs X h vs ds) : RDs X' h' vs ds := r.monoD fun a o _ => k a o
mutual
theorem RD.reads : ∀ {v : Value} {d : PyData}, RD X h v d → ∃ as, Reads h v d as
  | _, _, .none => ⟨_, .none⟩
  | _, _, .bool b => ⟨_, .bool b⟩
  | _, _, .int i t => ⟨_, .int i t⟩
  | _, _, .tuple _ e r => by
    obtain ⟨as, q⟩ := RDs.reads r
    exact ⟨as, reads_tuple_at e rfl rfl (by simpa using q)⟩
  | _, _, .list _ e r => by
    obtain ⟨as, q⟩ := RDs.reads r
    exact ⟨_, reads_list_at e rfl rfl (by simpa using q)⟩
theorem RDs.reads : ∀ {vs : List Value} {ds : List PyData}, RDs X h vs ds → ∃ as, ReadsAll h vs ds as
  | _, _, .nil => ⟨_, .nil⟩
  | _, _, .cons a b => by
    obtain ⟨as, p⟩ := RD.reads a
    obtain ⟨bs, q⟩ := RDs.reads b
    exact ⟨_, .cons p q⟩
end
theorem RDs.length {vs : List Value} {ds : List PyData} (r : RDs X h vs ds) : vs.length = ds.length := by
  induction vs generalizing ds with
  | nil => cases r; rfl
  | cons v vs ih => cases r with | cons a b => simp [ih b]
theorem RDs.get {vs : List Value} {ds : List PyData} (r : RDs X h vs ds) {i : Nat} {d : PyData} (e : ds[i]? = some d) : ∃ v, vs[i]? = some v ∧ RD X h v d := by
  induction vs generalizing ds i with
  | nil => cases r; simp at e
  | cons v vs ih =>
    cases r with
    | cons a b =>
      cases i with
      | zero => simp at e; subst e; exact ⟨v, by simp, a⟩
      | succ i => simp at e; obtain ⟨u, p, q⟩ := ih b e; exact ⟨u, by simpa using p, q⟩
theorem RDs.append {vs ws : List Value} {ds es : List PyData} (r : RDs X h vs ds) (q : RDs X h ws es) : RDs X h (vs ++ ws) (ds ++ es) := by
  induction vs generalizing ds with
  | nil => cases r; exact q
  | cons v vs ih => cases r with | cons a b => exact .cons a (ih b)
theorem RD.sub {v : Value} {d : PyData} (r : RD X h v d) (k : ∀ a, X' a → X a) : RD X' h v d := r.mono fun _ _ n e => ⟨fun x => n (k _ x), e⟩
end

/-- what a name holds -/
inductive V where
  | d (x : PyData)
  | box
  | tab

structure Mut where
  box : Option (Addr × List Int × Int) := none
  tab : Option (Addr × Addr × Int × PyData) := none

noncomputable def Mut.M (μ : Mut) (a : Addr) : Prop := (∃ q, μ.box = some (a, q)) ∨ (∃ i q, μ.tab = some (i, a, q))
noncomputable def Mut.Same (μ μ' : Mut) : Prop := (μ'.box.map (·.1) = μ.box.map (·.1)) ∧ (μ'.tab.map fun x => (x.1, x.2.1)) = (μ.tab.map fun x => (x.1, x.2.1))
theorem Mut.Same.refl (μ : Mut) : μ.Same μ := ⟨rfl, rfl⟩
theorem Mut.Same.trans {μ₁ μ₂ μ₃ : Mut} (a : μ₁.Same μ₂) (b : μ₂.Same μ₃) : μ₁.Same μ₃ := ⟨b.1.trans a.1, b.2.trans a.2⟩
theorem Mut.Same.M {μ μ' : Mut} (s : μ.Same μ') (a : Addr) : μ'.M a ↔ μ.M a := by
  obtain ⟨b, t⟩ := μ
  obtain ⟨b', t'⟩ := μ'
  obtain ⟨h1, h2⟩ := s
  simp only at h1 h2
  unfold Mut.M
  simp only
  have e1 : (∃ q, b' = some (a, q)) ↔ (∃ q, b = some (a, q)) := by
    rcases b' with _ | ⟨b1, b2, b3⟩ <;> rcases b with _ | ⟨c1, c2, c3⟩ <;> simp_all
  have e2 : (∃ i q, t' = some (i, a, q)) ↔ (∃ i q, t = some (i, a, q)) := by
    rcases t' with _ | ⟨b1, b2, b3, b4⟩ <;> rcases t with _ | ⟨c1, c2, c3, c4⟩ <;> simp_all
  rw [e1, e2]

/-- the class FibTree -/
noncomputable abbrev fibC : Addr := 212

noncomputable def HasBox (X : Addr → Prop) (h : Heap) : Option (Addr × List Int × Int) → Prop
  | none => True
  | some (a, ns, k) => X a ∧ ∃ l t n, h.get? a = some { cls := .type "list", data := .seq #[.ref l, .int k t] n } ∧ RD X h (.ref l) (.list (ns.map .int))
noncomputable def HasTab (X : Addr → Prop) (h : Heap) : Option (Addr × Addr × Int × PyData) → Prop
  | none => True
  | some (i, d, b, t) => ¬ X i ∧ X d ∧ (∃ sl, h.get? i = some ⟨.ref fibC, some d, .plain, sl⟩) ∧
      ∃ h1 t1 tb h2 t2 v n, h.get? d = some (dictOf [⟨h1, .str "bits" t1, .int b tb⟩, ⟨h2, .str "tree" t2, v⟩] n) ∧ RD X h v t
structure HasMut (X : Addr → Prop) (h : Heap) (μ : Mut) : Prop where
  box : HasBox X h μ.box
  tab : HasTab X h μ.tab

theorem HasMut.inX {X : Addr → Prop} {h : Heap} {μ : Mut} (H : HasMut X h μ) {a : Addr} (m : μ.M a) : X a := by
  rcases m with ⟨q, e⟩ | ⟨i, q, e⟩
  · have := H.box; rw [e] at this; exact this.1
  · have := H.tab; rw [e] at this; exact this.2.1

noncomputable def RV (X : Addr → Prop) (h : Heap) (μ : Mut) (v : Value) : V → Prop
  | .d x => RD X h v x
  | .box => ∃ a q, μ.box = some (a, q) ∧ v = .ref a
  | .tab => ∃ a q, μ.tab = some (a, q) ∧ v = .ref a

noncomputable def Ext (N : Addr → Prop) (h h' : Heap) : Prop := (∀ b o, ¬ N b → h.get? b = some o → h'.get? b = some o) ∧ ∀ b o, h.get? b = some o → ∃ o', h'.get? b = some o'
theorem Ext.refl (N : Addr → Prop) (h : Heap) : Ext N h h := ⟨fun _ _ _ e => e, fun _ o e => ⟨o, e⟩⟩
theorem Ext.trans {N : Addr → Prop} {h₁ h₂ h₃ : Heap} (a : Ext N h₁ h₂) (b : Ext N h₂ h₃) : Ext N h₁ h₃ :=
  ⟨fun c o n e => b.1 c o n (a.1 c o n e), fun c o e => by obtain ⟨o', e'⟩ := a.2 c o e; exact b.2 c o' e'⟩
theorem Ext.sub {N N' : Addr → Prop} {h₁ h₂ : Heap} (a : Ext N h₁ h₂) (k : ∀ b o, h₁.get? b = some o → N b → N' b) : Ext N' h₁ h₂ :=
  ⟨fun c o n e => a.1 c o (fun x => n (k c o e x)) e, a.2⟩
theorem Ext.keeps {N : Addr → Prop} {h h' : Heap} (k : ∀ b o, h.get? b = some o → h'.get? b = some o) : Ext N h h' := ⟨fun b o _ e => k b o e, fun b o e => ⟨o, k b o e⟩⟩
theorem Ext.push {N : Addr → Prop} {h : Heap} (o : Obj) : Ext N h (h.push o) := .keeps fun _ _ e => Heap.get?_push_of_some o e

theorem RD.ext {X N : Addr → Prop} {h h' : Heap} {v : Value} {d : PyData} (r : RD X h v d) (E : Ext N h h') (k : ∀ a, N a → X a) : RD X h' v d :=
  r.mono fun a o n e => ⟨n, E.1 a o (fun x => n (k a x)) e⟩

theorem RV.ext {X N : Addr → Prop} {h h' : Heap} {μ μ' : Mut} {v : Value} {U : V} (r : RV X h μ v U) (E : Ext N h h') (k : ∀ a, N a → X a) (S : μ.Same μ') : RV X h' μ' v U := by
  obtain ⟨b, t⟩ := μ
  obtain ⟨b', t'⟩ := μ'
  obtain ⟨h1, h2⟩ := S
  cases U with
  | d x => exact RD.ext r E k
  | box =>
    obtain ⟨a, q, e, rfl⟩ := r
    simp only at h1 e
    subst e
    cases b' with
    | none => simp at h1
    | some p => obtain ⟨a', q'⟩ := p; simp at h1; subst h1; exact ⟨_, q', rfl, rfl⟩
  | tab =>
    obtain ⟨a, q, e, rfl⟩ := r
    simp only at h2 e
    subst e
    cases t' with
    | none => simp at h2
    | some p => obtain ⟨a', q'⟩ := p; simp at h2; obtain ⟨h2, _⟩ := h2; subst h2; exact ⟨_, q', rfl, rfl⟩

/-- what an expression or a call does to the heap -/
structure Nxt (X : Addr → Prop) (μ : Mut) (h : Heap) (μ' : Mut) (h' : Heap) : Prop where
  ext : Ext μ.M h h'
  mu : HasMut X h' μ'
  same : μ.Same μ'

theorem Nxt.refl {X : Addr → Prop} {μ : Mut} {h : Heap} (H : HasMut X h μ) : Nxt X μ h μ h := ⟨.refl _ _, H, .refl _⟩
theorem Nxt.trans {X : Addr → Prop} {μ₁ μ₂ μ₃ : Mut} {h₁ h₂ h₃ : Heap} (a : Nxt X μ₁ h₁ μ₂ h₂) (b : Nxt X μ₂ h₂ μ₃ h₃) : Nxt X μ₁ h₁ μ₃ h₃ :=
  ⟨a.ext.trans (b.ext.sub fun c _ _ m => (a.same.M c).mp m), b.mu, a.same.trans b.same⟩

theorem HasBox.map {X X' : Addr → Prop} {h h' : Heap} (k : ∀ a o, NoDict o → ¬ X a → h.get? a = some o → ¬ X' a ∧ h'.get? a = some o) :
    ∀ {q : Option (Addr × List Int × Int)}, (∀ a r o, NoDict o → q = some (a, r) → h.get? a = some o → X' a ∧ h'.get? a = some o) → HasBox X h q → HasBox X' h' q
  | none, _, _ => trivial
  | some (_, _, _), m, H => let ⟨_, l, t, n, e, r⟩ := H; ⟨(m _ _ _ (.seq rfl) rfl e).1, l, t, n, (m _ _ _ (.seq rfl) rfl e).2, r.monoD k⟩
theorem HasTab.map {X X' : Addr → Prop} {h h' : Heap} (k : ∀ a o, NoDict o → ¬ X a → h.get? a = some o → ¬ X' a ∧ h'.get? a = some o) :
    ∀ {q : Option (Addr × Addr × Int × PyData)}, (∀ i a r o, q = some (i, a, r) → h.get? a = some o → X' a ∧ h'.get? a = some o) → HasTab X h q → HasTab X' h' q
  | none, _, _ => trivial
  | some (_, _, _, _), m, H => let ⟨hi, _, ⟨sl, ei⟩, q1, t1, tb, q2, t2, v, n, e, r⟩ := H; ⟨(k _ _ (.plain rfl) hi ei).1, (m _ _ _ _ rfl e).1, ⟨sl, (k _ _ (.plain rfl) hi ei).2⟩, q1, t1, tb, q2, t2, v, n, (m _ _ _ _ rfl e).2, r.monoD k⟩
theorem HasMut.mapD {X X' : Addr → Prop} {h h' : Heap} {μ : Mut} (H : HasMut X h μ) (m : ∀ a o, μ.M a → h.get? a = some o → X' a ∧ h'.get? a = some o) (k : ∀ a o, NoDict o → ¬ X a → h.get? a = some o → ¬ X' a ∧ h'.get? a = some o) : HasMut X' h' μ :=
  ⟨H.box.map k fun a r o _ e => m a o (.inl ⟨r, e⟩), H.tab.map k fun i a r o e => m a o (.inr ⟨i, r, e⟩)⟩
theorem HasMut.map {X X' : Addr → Prop} {h h' : Heap} {μ : Mut} (H : HasMut X h μ) (m : ∀ a o, μ.M a → h.get? a = some o → X' a ∧ h'.get? a = some o) (k : ∀ a o, ¬ X a → h.get? a = some o → ¬ X' a ∧ h'.get? a = some o) : HasMut X' h' μ :=
  H.mapD m fun a o _ => k a o
theorem HasMut.ext {X N : Addr → Prop} {h h' : Heap} {μ : Mut} (H : HasMut X h μ) (E : Ext N h h') (k : ∀ a, N a → X a) (km : ∀ a, N a → ¬ μ.M a) : HasMut X h' μ :=
  H.map (fun a o m e => ⟨H.inX m, E.1 a o (fun x => km a x m) e⟩) fun a o n e => ⟨n, E.1 a o (fun x => n (k a x)) e⟩
theorem Nxt.keeps {X : Addr → Prop} {h h' : Heap} {μ : Mut} (H : HasMut X h μ) (k : ∀ b o, h.get? b = some o → h'.get? b = some o) : Nxt X μ h μ h' :=
  ⟨.keeps k, H.ext (N := fun _ => False) (.keeps k) (fun _ x => x.elim) (fun _ x => x.elim), .refl _⟩
theorem Nxt.push {X : Addr → Prop} {h : Heap} {μ : Mut} (H : HasMut X h μ) (o : Obj) : Nxt X μ h μ (h.push o) := .keeps H fun _ _ e => Heap.get?_push_of_some o e
theorem Nxt.sameHeap {X : Addr → Prop} {h : Heap} {μ : Mut} (H : HasMut X h μ) : Nxt X μ h μ h := .refl H

theorem RV.nxt {X : Addr → Prop} {h h' : Heap} {μ μ' : Mut} {v : Value} {U : V} (r : RV X h μ v U) (H : HasMut X h μ) (n : Nxt X μ h μ' h') : RV X h' μ' v U :=
  r.ext n.ext (fun _ m => H.inX m) n.same

/-- the names of a frame -/
noncomputable def Bound (X : Addr → Prop) (h : Heap) (μ : Mut) (env : Env) (m : Str → Option Value) (x : Str) (U : V) : Prop :=
  (env.kindOf x = some .local ∧ ∃ v, m x = some v ∧ RV X h μ v U) ∨
  ((env.kindOf x = some .cell ∨ env.kindOf x = some .free) ∧ ∃ c o v, env.cells.lookup x = some c ∧ h.get? c = some o ∧ o.data = .cell (some v) ∧ RV X h μ v U)

/-- what a call finds -/
structure Cs (hb : Heap) (X : Addr → Prop) (μ : Mut) (h : Heap) : Prop where
  base : ∀ b o, hb.get? b = some o → h.get? b = some o
  xs : ∀ a, X a → hb.get? a = none ∧ ∃ o, h.get? a = some o
  mu : HasMut X h μ

structure Fm (X : Addr → Prop) (env : Env) (ρ : Str → Option V) (μ : Mut) (h : Heap) : Prop where
  kind : env.scope.kind = .function
  glob : env.globals = mainGlobals
  blt : env.builtins = builtinsNs
  loc : X env.locals ∧ ¬ μ.M env.locals
  cells : ∀ x c, env.cells.lookup x = some c → X c ∧ ¬ μ.M c ∧ c ≠ env.locals ∧ ∃ o v, h.get? c = some o ∧ o.data = .cell v
  cinj : (∀ x y c, env.cells.lookup x = some c → env.cells.lookup y = some c → x = y) ∧ ∀ x, env.kindOf x = some .cell → ∃ c, env.cells.lookup x = some c
  ns : ∃ m, h.Ns env.locals m ∧ ∀ x U, ρ x = some U → Bound X h μ env m x U

theorem Cs.nxt {hb : Heap} {X : Addr → Prop} {μ μ' : Mut} {h h' : Heap} (C : Cs hb X μ h) (n : Nxt X μ h μ' h') : Cs hb X μ' h' where
  base := fun b o e => n.ext.1 b o (fun m => by have h1 := (C.xs b (C.mu.inX m)).1; rw [h1] at e; cases e) (C.base b o e)
  xs := fun a x => ⟨(C.xs a x).1, by obtain ⟨o, e⟩ := (C.xs a x).2; exact n.ext.2 a o e⟩
  mu := n.mu

theorem Fm.nxt {X : Addr → Prop} {env : Env} {ρ : Str → Option V} {μ μ' : Mut} {h h' : Heap} (F : Fm X env ρ μ h) (H : HasMut X h μ) (n : Nxt X μ h μ' h') : Fm X env ρ μ' h' where
  kind := F.kind
  glob := F.glob
  blt := F.blt
  loc := ⟨F.loc.1, fun m => F.loc.2 ((n.same.M _).mp m)⟩
  cells := fun x c e => by
    obtain ⟨h1, h2, h3, o, v, h4, h5⟩ := F.cells x c e
    exact ⟨h1, fun m => h2 ((n.same.M _).mp m), h3, o, v, n.ext.1 c o h2 h4, h5⟩
  cinj := F.cinj
  ns := by
    obtain ⟨m, ⟨o, es, ep, e, r⟩, k⟩ := F.ns
    refine ⟨m, ⟨o, es, ep, n.ext.1 _ _ F.loc.2 e, r⟩, fun x U hx => ?_⟩
    rcases k x U hx with ⟨h1, v, h2, h3⟩ | ⟨h1, c, o, v, h2, h3, h4, h5⟩
    · exact .inl ⟨h1, v, h2, h3.nxt H n⟩
    · exact .inr ⟨h1, c, o, v, h2, n.ext.1 c o (F.cells x c h2).2.1 h3, h4, h5.nxt H n⟩

/-- room for k more frames -/
structure Room (A : Around) (k : Nat) : Prop where
  handled : A.handled = none
  depth : A.depth + k < 900
  units : A.units + 8 * k < 9000

theorem Room.less {A : Around} {k j : Nat} (R : Room A k) (h : j ≤ k) : Room A j := ⟨R.handled, by have := R.depth; omega, by have := R.units; omega⟩
theorem Room.deeper {A : Around} {k : Nat} (R : Room A (k + 1)) (env : Env) : Room (A.deeper env) k :=
  ⟨R.handled, by have := R.depth; show A.depth + 1 + k < 900; omega, by have := R.units; show A.units + 3 + 8 * k < 9000; omega⟩
theorem Room.lim {A : Around} {k : Nat} (R : Room A k) : A.depth < recursionLimit := by have := R.depth; show A.depth < 1000; omega
theorem Room.cl {A : Around} {k : Nat} (R : Room A k) : A.units + 64 < cLine := by have := R.units; rw [cLine_is]; omega

/-- an expression: whatever is asked behind it holds, if it holds of what P says -/
noncomputable def WE (prog : Program) (w : World) (hb : Heap) (k : Nat) (sc : Scope) (e : Expr) (ρ : Str → Option V) (μ : Mut) (P : V → Mut → Prop) : Prop :=
  ∀ (A : Around) (env : Env) (X : Addr → Prop) (s : Shared) (Q E : Value → Shared → Prop), env.scope = sc → Room A k → Cs hb X μ s.heap → Fm X env ρ μ s.heap →
    (∀ v h' tk U μ', P U μ' → Nxt X μ s.heap μ' h' → RV X h' μ' v U → Q v { s with heap := h', toks := tk }) →
    wpAny (model prog w) A (eval e env) Q E s

/-- several -/
inductive All2 {α β : Type} (R : α → β → Prop) : List α → List β → Prop
  | nil : All2 R [] []
  | cons {a b as bs} : R a b → All2 R as bs → All2 R (a :: as) (b :: bs)

noncomputable def WEs (prog : Program) (w : World) (hb : Heap) (k : Nat) (sc : Scope) (es : List Expr) (ρ : Str → Option V) (μ : Mut) (P : List V → Mut → Prop) : Prop :=
  ∀ (A : Around) (env : Env) (X : Addr → Prop) (s : Shared) (pos : Pos) (Q : List Value → Shared → Prop) (E : Value → Shared → Prop), env.scope = sc → Room A k → Cs hb X μ s.heap → Fm X env ρ μ s.heap →
    (∀ vs h' tk Us μ', P Us μ' → Nxt X μ s.heap μ' h' → All2 (RV X h' μ') vs Us → Q vs { s with heap := h', toks := tk }) →
    wpAny (model prog w) A (spliced (backTo pos (starEach es env))) Q E s

/-- a test -/
noncomputable def WT (prog : Program) (w : World) (hb : Heap) (k : Nat) (sc : Scope) (e : Expr) (ρ : Str → Option V) (μ : Mut) (P : Bool → Mut → Prop) : Prop :=
  ∀ (A : Around) (env : Env) (X : Addr → Prop) (s : Shared) (Q : Bool → Shared → Prop) (E : Value → Shared → Prop), env.scope = sc → Room A k → Cs hb X μ s.heap → Fm X env ρ μ s.heap →
    (∀ b h' tk μ', P b μ' → Nxt X μ s.heap μ' h' → Q b { s with heap := h', toks := tk }) →
    wpAny (model prog w) A (isTrue e env (eval e env)) Q E s

/-- a call -/
noncomputable def WC (prog : Program) (w : World) (hb : Heap) (k : Nat) (f : Value) (args : List V) (μ : Mut) (P : V → Mut → Prop) : Prop :=
  ∀ (A : Around) (X : Addr → Prop) (s : Shared) (vs : List Value) (Q E : Value → Shared → Prop), Room A k → Cs hb X μ s.heap → All2 (RV X s.heap μ) vs args →
    (∀ v h' tk U μ', P U μ' → Nxt X μ s.heap μ' h' → RV X h' μ' v U → Q v { s with heap := h', toks := tk }) →
    wpAny (model prog w) A (call f vs) Q E s

/-- what a statement does to the heap: the frame's own names may turn -/
noncomputable def Own (env : Env) (a : Addr) : Prop := a = env.locals ∨ ∃ x, env.cells.lookup x = some a
structure NxtS (X : Addr → Prop) (env : Env) (μ : Mut) (h : Heap) (μ' : Mut) (h' : Heap) : Prop where
  ext : Ext (fun a => μ.M a ∨ Own env a) h h'
  mu : HasMut X h' μ'
  same : μ.Same μ'
theorem NxtS.refl {X : Addr → Prop} {env : Env} {μ : Mut} {h : Heap} (H : HasMut X h μ) : NxtS X env μ h μ h := ⟨.refl _ _, H, .refl _⟩
theorem NxtS.trans {X : Addr → Prop} {env : Env} {μ₁ μ₂ μ₃ : Mut} {h₁ h₂ h₃ : Heap} (a : NxtS X env μ₁ h₁ μ₂ h₂) (b : NxtS X env μ₂ h₂ μ₃ h₃) : NxtS X env μ₁ h₁ μ₃ h₃ :=
  ⟨a.ext.trans (b.ext.sub fun c _ _ m => m.elim (fun m => .inl ((a.same.M c).mp m)) .inr), b.mu, a.same.trans b.same⟩
theorem Nxt.s {X : Addr → Prop} {env : Env} {μ μ' : Mut} {h h' : Heap} (n : Nxt X μ h μ' h') : NxtS X env μ h μ' h' := ⟨n.ext.sub fun _ _ _ m => .inl m, n.mu, n.same⟩

theorem Fm.own {X : Addr → Prop} {env : Env} {ρ : Str → Option V} {μ : Mut} {h : Heap} (F : Fm X env ρ μ h) {a : Addr} (o : Own env a) : X a := by
  rcases o with rfl | ⟨x, e⟩
  · exact F.loc.1
  · exact (F.cells x a e).1
theorem Cs.nxtS {hb : Heap} {X : Addr → Prop} {env : Env} {ρ : Str → Option V} {μ μ' : Mut} {h h' : Heap} (C : Cs hb X μ h) (F : Fm X env ρ μ h) (n : NxtS X env μ h μ' h') : Cs hb X μ' h' where
  base := fun b o e => n.ext.1 b o (fun m => by
    have hx : X b := m.elim (fun m => C.mu.inX m) fun m => F.own m
    rw [(C.xs b hx).1] at e; cases e) (C.base b o e)
  xs := fun a x => ⟨(C.xs a x).1, by obtain ⟨o, e⟩ := (C.xs a x).2; exact n.ext.2 a o e⟩
  mu := n.mu

/-- statements -/
noncomputable def WS (prog : Program) (w : World) (hb : Heap) (k : Nat) (sc : Scope) (b : List Stmt) (ρ : Str → Option V) (μ : Mut) (N : (Str → Option V) → Mut → Prop) (R : V → Mut → Prop) : Prop :=
  ∀ (A : Around) (env : Env) (X : Addr → Prop) (s : Shared) (Q : Flow → Shared → Prop) (E : Value → Shared → Prop), env.scope = sc → Room A k → Cs hb X μ s.heap → Fm X env ρ μ s.heap →
    (∀ h' tk ρ' μ', N ρ' μ' → NxtS X env μ s.heap μ' h' → Fm X env ρ' μ' h' → Q .next { s with heap := h', toks := tk }) →
    (∀ v h' tk U μ', R U μ' → NxtS X env μ s.heap μ' h' → RV X h' μ' v U → Q (.ret v) { s with heap := h', toks := tk }) →
    wpAny (model prog w) A (execs b env) Q E s

noncomputable def upd (ρ : Str → Option V) (x : Str) (U : V) : Str → Option V := fun y => if y = x then some U else ρ y
theorem upd_same {ρ : Str → Option V} {x : Str} {U : V} : upd ρ x U x = some U := if_pos rfl
theorem upd_ne {ρ : Str → Option V} {x y : Str} {U : V} {r : Option V} (h : y ≠ x) (e : ρ y = r) : upd ρ x U y = r := (if_neg h).trans e
/-- the world behind the top -/
structure Wd (K : Frag) (hb : Heap) : Prop where
  kin : K.In hb
  top : ∃ p loose mg mb, TopRead p loose mg mb hb

section
variable {prog : Program} {w : World} {hb : Heap} {K : Frag} {X : Addr → Prop} {μ μ' : Mut} {h h' : Heap} {s : Shared}

theorem Cs.ns (C : Cs hb X μ h) {a : Addr} {m : Str → Option Value} (n : hb.Ns a m) : h.Ns a m := n.keeps C.base
theorem Cs.live (C : Cs hb X μ h) : ∀ a, X a → ∃ o, h.get? a = some o := fun a x => (C.xs a x).2
theorem Cs.notNew (C : Cs hb X μ h) : ¬ X h.objs.size := fun x => by
  obtain ⟨o, e⟩ := C.live _ x
  exact absurd (Heap.lt_size e) (Nat.lt_irrefl _)
theorem live_notNew (l : ∀ a, X a → ∃ o, h.get? a = some o) : ¬ X h.objs.size := fun x => by
  obtain ⟨o, e⟩ := l _ x
  exact absurd (Heap.lt_size e) (Nat.lt_irrefl _)
theorem two_ns : mainGlobals ≠ builtinsNs := by decide

/-- a pure step on data -/
noncomputable def OpD (prog : Program) (w : World) (f : Value → Value → Sem Value) (d1 d2 d : PyData) : Prop :=
  ∀ (A : Around) (X : Addr → Prop) (s : Shared) (v1 v2 : Value) (Q E : Value → Shared → Prop), Room A 0 → (∀ a, X a → ∃ o, s.heap.get? a = some o) → RD X s.heap v1 d1 → RD X s.heap v2 d2 →
    (∀ v h' tk, (∀ b o, s.heap.get? b = some o → h'.get? b = some o) → RD X h' v d → Q v { s with heap := h', toks := tk }) → wpAny (model prog w) A (f v1 v2) Q E s

noncomputable def OpI (prog : Program) (w : World) (f : Value → Value → Sem Value) (a b : Int) (d : PyData) : Prop := OpD prog w f (.int a) (.int b) d

theorem RD.int_inv {v : Value} {i : Int} (r : RD X h v (.int i)) : ∃ t, v = .int i t := by cases r; exact ⟨_, rfl⟩
theorem RD.none_inv {v : Value} (r : RD X h v .none) : v = .none := by cases r; rfl
theorem RD.bool_inv {v : Value} {b : Bool} (r : RD X h v (.bool b)) : v = .bool b := by cases r; rfl
theorem RD.tuple_inv {v : Value} {xs : List PyData} (r : RD X h v (.tuple xs)) : ∃ a vs n, v = .ref a ∧ ¬ X a ∧ h.get? a = some { cls := .type "tuple", data := .seq (List.toArray vs) n } ∧ RDs X h vs xs := by
  cases r with | tuple a b c => exact ⟨_, _, _, rfl, a, b, c⟩
theorem RD.list_inv {v : Value} {xs : List PyData} (r : RD X h v (.list xs)) : ∃ a vs n, v = .ref a ∧ ¬ X a ∧ h.get? a = some { cls := .type "list", data := .seq (List.toArray vs) n } ∧ RDs X h vs xs := by
  cases r with | list a b c => exact ⟨_, _, _, rfl, a, b, c⟩

theorem opI {f : Value → Value → Sem Value} {a b : Int} {d : PyData} (k : ∀ (A : Around) (s : Shared) (t u : Tok) (Q E : Value → Shared → Prop), Room A 0 → (∀ v tk, (∀ X h, RD X h v d) → Q v { s with toks := tk }) → wpAny (model prog w) A (f (.int a t) (.int b u)) Q E s) :
    OpD prog w f (.int a) (.int b) d := by
  intro A X s v1 v2 Q E R _ r1 r2 hQ
  obtain ⟨t, rfl⟩ := r1.int_inv
  obtain ⟨u, rfl⟩ := r2.int_inv
  exact k A s t u Q E R fun v tk rd => hQ v s.heap tk (fun _ _ e => e) (rd X _)

theorem OpD.add {a b : Int} : OpD prog w (binaryOp .Add) (.int a) (.int b) (.int (a + b)) := opI fun _ _ _ _ _ _ _ h => PyProof.Rows.add_int (h _ _ fun _ _ => .int _ _)
theorem OpD.sub {a b : Int} : OpD prog w (binaryOp .Sub) (.int a) (.int b) (.int (a - b)) := opI fun _ _ _ _ _ _ _ h => PyProof.Rows.sub_int (h _ _ fun _ _ => .int _ _)
theorem OpD.mul {a b : Int} (ha : a.natAbs < 2 ^ 60) : OpD prog w (binaryOp .Mult) (.int a) (.int b) (.int (a * b)) := opI fun _ _ _ _ _ _ _ h => PyProof.Rows.mul_int (h _ _ fun _ _ => .int _ _)
  (by mul_fits)
theorem OpD.floordiv {a b : Int} (h0 : b ≠ 0) (h1 : b.natAbs < 1073741824) : OpD prog w (binaryOp .FloorDiv) (.int a) (.int b) (.int (a.fdiv b)) :=
  opI fun _ _ _ _ _ _ _ h => PyProof.Rows.floordiv_int h0 (h _ _ fun _ _ => .int _ _) (Or.inl (PyProof.noPylong_small h1))
theorem OpD.mod {a b : Int} (h0 : b ≠ 0) : OpD prog w (binaryOp .Mod) (.int a) (.int b) (.int (a.fmod b)) := opI fun _ _ _ _ _ _ _ h => PyProof.Rows.mod_int h0 (h _ _ fun _ _ => .int _ _)
theorem OpD.lshift {a n : Int} (h0 : 0 ≤ n) (h1 : n ≤ 1000000) (h2 : a.natAbs < 2 ^ 64) : OpD prog w (binaryOp .LShift) (.int a) (.int n) (.int (a * 2 ^ n.toNat)) :=
  opI fun _ _ _ _ _ _ _ h => PyProof.Rows.lshift_int_small h0 h1 h2 (h _ _ fun _ _ => .int _ _)
theorem OpD.rshift {a n : Int} (h0 : 0 ≤ n) : OpD prog w (binaryOp .RShift) (.int a) (.int n) (.int (a.fdiv (2 ^ n.toNat))) :=
  opI fun _ _ _ _ _ _ _ h => PyProof.Rows.rshift_int h0 (h _ _ fun _ _ => .int _ _)
theorem OpD.and {a b : Int} : OpD prog w (binaryOp .BitAnd) (.int a) (.int b) (.int (Builtin.bitAnd a b)) := opI fun _ _ _ _ _ _ _ h => PyProof.Rows.and_int (h _ _ fun _ _ => .int _ _)
theorem OpD.pow {a n : Int} (h0 : 0 ≤ n) (h1 : n ≤ 1000000) (h2 : a.natAbs < 2 ^ 64) : OpD prog w (binaryOp .Pow) (.int a) (.int n) (.int (a ^ n.toNat)) :=
  opI fun _ _ _ _ _ _ _ h => PyProof.Rows.pow_int_small h0 h1 h2 (h _ _ fun _ _ => .int _ _)
theorem OpD.iadd {a b : Int} : OpD prog w (inplaceOp .Add) (.int a) (.int b) (.int (a + b)) := opI fun _ _ _ _ _ _ _ h => PyProof.Rows.iadd_int (h _ _ fun _ _ => .int _ _)
theorem OpD.lt {a b : Int} : OpD prog w (compareOp .Lt) (.int a) (.int b) (.bool (decide (a < b))) := opI fun _ _ _ _ _ _ _ h => PyProof.Rows.lt_int (h _ _ fun _ _ => .bool _)
theorem OpD.le {a b : Int} : OpD prog w (compareOp .LtE) (.int a) (.int b) (.bool (decide (a ≤ b))) := opI fun _ _ _ _ _ _ _ h => PyProof.Rows.le_int (h _ _ fun _ _ => .bool _)
theorem OpD.gt {a b : Int} : OpD prog w (compareOp .Gt) (.int a) (.int b) (.bool (decide (b < a))) := opI fun _ _ _ _ _ _ _ h => PyProof.Rows.gt_int (h _ _ fun _ _ => .bool _)
theorem OpD.ge {a b : Int} : OpD prog w (compareOp .GtE) (.int a) (.int b) (.bool (decide (b ≤ a))) := opI fun _ _ _ _ _ _ _ h => PyProof.Rows.ge_int (h _ _ fun _ _ => .bool _)

theorem OpD.eq {d1 d2 : PyData} (h1 : SeqAt.shaped d1 = true) (h2 : SeqAt.shaped d2 = true) : OpD prog w (compareOp .Eq) d1 d2 (.bool (PyData.eqv d1 d2)) := by
  intro A X s v1 v2 Q E R _ r1 r2 hQ
  obtain ⟨as, q1⟩ := r1.reads
  obtain ⟨bs, q2⟩ := r2.reads
  exact SeqAt.compareEq_shaped q1 q2 h1 h2 (Room.cl R) (hQ _ s.heap s.toks (fun _ _ e => e) (.bool _))
theorem OpD.ne {d1 d2 : PyData} (h1 : SeqAt.shaped d1 = true) (h2 : SeqAt.shaped d2 = true) : OpD prog w (compareOp .NotEq) d1 d2 (.bool (!PyData.eqv d1 d2)) := by
  intro A X s v1 v2 Q E R _ r1 r2 hQ
  obtain ⟨as, q1⟩ := r1.reads
  obtain ⟨bs, q2⟩ := r2.reads
  exact SeqAt.compareNe_shaped q1 q2 h1 h2 (Room.cl R) (hQ _ s.heap s.toks (fun _ _ e => e) (.bool _))
theorem OpD.isIn {d : PyData} {xs : List PyData} (h1 : SeqAt.shaped d = true) (h2 : SeqAt.shaped (.list xs) = true) : OpD prog w (compareOp .In) d (.list xs) (.bool (xs.any fun y => PyData.eqv y d)) := by
  intro A X s v1 v2 Q E R _ r1 r2 hQ
  obtain ⟨as, q1⟩ := r1.reads
  obtain ⟨bs, q2⟩ := r2.reads
  have c2 := SeqAt.canLay_of_shaped h2
  have e2 := SeqAt.depth_of_shaped h1
  simp only [PyData.canLay0] at c2
  refine SeqAt.in_list_reads q2 q1 c2 (SeqAt.canLay_of_shaped h1) ?_ (hQ _ s.heap s.toks (fun _ _ e => e) (.bool _))
  have := Nat.min_le_right (PyData.depthAll xs) d.depth
  have := R.units
  rw [cLine_is]
  omega
theorem OpD.notIn {d : PyData} {xs : List PyData} (h1 : SeqAt.shaped d = true) (h2 : SeqAt.shaped (.list xs) = true) : OpD prog w (compareOp .NotIn) d (.list xs) (.bool (!xs.any fun y => PyData.eqv y d)) := by
  intro A X s v1 v2 Q E R _ r1 r2 hQ
  obtain ⟨as, q1⟩ := r1.reads
  obtain ⟨bs, q2⟩ := r2.reads
  have c2 := SeqAt.canLay_of_shaped h2
  have e2 := SeqAt.depth_of_shaped h1
  simp only [PyData.canLay0] at c2
  refine SeqAt.notIn_list_reads q2 q1 c2 (SeqAt.canLay_of_shaped h1) ?_ (hQ _ s.heap s.toks (fun _ _ e => e) (.bool _))
  have := Nat.min_le_right (PyData.depthAll xs) d.depth
  have := R.units
  rw [cLine_is]
  omega
noncomputable def isNone : PyData → Bool
  | .none => true
  | _ => false
theorem OpD.isN {d : PyData} : OpD prog w (compareOp .Is) d .none (.bool (isNone d)) := by
  intro A X s v1 v2 Q E R _ r1 r2 hQ
  have e2 := r2.none_inv; subst e2
  cases d with
  | none => have e := r1.none_inv; subst e; exact wpAny_is_self rfl (hQ _ s.heap s.toks (fun _ _ e => e) (.bool _))
  | _ => cases r1 <;> exact wpAny_is_other rfl (by intro e; cases e) (hQ _ s.heap s.toks (fun _ _ e => e) (.bool _))
theorem OpD.isNotN {d : PyData} : OpD prog w (compareOp .IsNot) d .none (.bool (!isNone d)) := by
  intro A X s v1 v2 Q E R _ r1 r2 hQ
  have e2 := r2.none_inv; subst e2
  cases d with
  | none => have e := r1.none_inv; subst e; exact wpAny_isNot_self rfl (hQ _ s.heap s.toks (fun _ _ e => e) (.bool _))
  | _ => cases r1 <;> exact wpAny_isNot_other rfl (by intro e; cases e) (hQ _ s.heap s.toks (fun _ _ e => e) (.bool _))
theorem OpD.cat {xs ys : List PyData} (hz : xs.length + ys.length ≤ 1000) : OpD prog w (binaryOp .Add) (.list xs) (.list ys) (.list (xs ++ ys)) := by
  intro A X s v1 v2 Q E R live r1 r2 hQ
  obtain ⟨a, vs, n, rfl, n1, e1, q1⟩ := r1.list_inv
  obtain ⟨b, ws, m, rfl, n2, e2, q2⟩ := r2.list_inv
  have l1 := q1.length
  have l2 := q2.length
  refine PySem.P.add_list (items := vs.toArray) (items2 := ws.toArray) e1 e2 ?_ (by rw [List.size_toArray, List.size_toArray, sizeLine_eq]; omega)
  have up : ∀ b o, s.heap.get? b = some o → (s.heap.push { cls := .type "list", data := .seq (vs ++ ws).toArray }).get? b = some o := fun b o e => Heap.get?_push_of_some _ e
  have hq := hQ (.ref s.heap.objs.size) (s.heap.push { cls := .type "list", data := .seq (vs ++ ws).toArray }) s.toks up
    (.list (live_notNew live) (Heap.get?_push_size _ rfl) ((q1.append q2).mono fun a o n e => ⟨n, up a o e⟩))
  simpa using hq


variable {k : Nat} {sc : Scope} {ρ : Str → Option V} {P : V → Mut → Prop} {pos : Pos}

/-- what is asked behind a part: sealed words, so that terms stay small -/
noncomputable def opK (prog : Program) (w : World) (f : Value → Value → Sem Value) (P : V → Mut → Prop) (U1 U2 : V) (μ : Mut) : Prop := ∃ d1 d2 d, U1 = .d d1 ∧ U2 = .d d2 ∧ OpD prog w f d1 d2 d ∧ P (.d d) μ
noncomputable def sndK (prog : Program) (w : World) (hb : Heap) (k : Nat) (sc : Scope) (f : Value → Value → Sem Value) (r : Expr) (ρ : Str → Option V) (P : V → Mut → Prop) (U1 : V) (μ1 : Mut) : Prop := WE prog w hb k sc r ρ μ1 (opK prog w f P U1)
noncomputable def boolK (T : Bool → Mut → Prop) (U : V) (μ : Mut) : Prop := ∃ b, U = .d (.bool b) ∧ T b μ
noncomputable def notK (T : Bool → Mut → Prop) (b : Bool) (μ : Mut) : Prop := T (!b) μ
noncomputable def twoK (A B : Mut → Prop) (c : Bool) (μ : Mut) : Prop := (c = true → A μ) ∧ (c = false → B μ)
noncomputable def owtK (A B : Mut → Prop) (c : Bool) (μ : Mut) : Prop := (c = false → A μ) ∧ (c = true → B μ)
noncomputable def expK (prog : Program) (w : World) (hb : Heap) (k : Nat) (sc : Scope) (e : Expr) (ρ : Str → Option V) (P : V → Mut → Prop) (μ : Mut) : Prop := WE prog w hb k sc e ρ μ P
noncomputable def pushK (Ps : List V → Mut → Prop) (U : V) (Us : List V) (μ : Mut) : Prop := Ps (U :: Us) μ
noncomputable def consK (prog : Program) (w : World) (hb : Heap) (k : Nat) (sc : Scope) (es : List Expr) (ρ : Str → Option V) (Ps : List V → Mut → Prop) (U : V) (μ1 : Mut) : Prop := WEs prog w hb k sc es ρ μ1 (pushK Ps U)
noncomputable def tupK (P : V → Mut → Prop) (Us : List V) (μ : Mut) : Prop := ∃ ds, Us = ds.map V.d ∧ ds.length ≤ 1000 ∧ P (.d (.tuple ds)) μ
noncomputable def lstK (P : V → Mut → Prop) (Us : List V) (μ : Mut) : Prop := ∃ ds, Us = ds.map V.d ∧ ds.length ≤ 1000 ∧ P (.d (.list ds)) μ
noncomputable def callK (prog : Program) (w : World) (hb : Heap) (k : Nat) (f : Value) (P : V → Mut → Prop) (Us : List V) (μ : Mut) : Prop := WC prog w hb k f Us μ P
section
variable {f : Value → Value → Sem Value} {T : Bool → Mut → Prop} {A B : Mut → Prop} {Ps : List V → Mut → Prop} {U U1 U2 : V} {Us : List V} {d d1 d2 x0 x1 x2 x3 : PyData} {c : Bool} {i j : Int} {xs : List PyData} {e r value slice : Expr} {es : List Expr}
theorem opK.mk (o : OpD prog w f d1 d2 d) (h : P (.d d) μ) : opK prog w f P (.d d1) (.d d2) μ := ⟨_, _, _, rfl, rfl, o, h⟩
theorem sndK.mk (h : WE prog w hb k sc r ρ μ (opK prog w f P U1)) : sndK prog w hb k sc f r ρ P U1 μ := h
theorem boolK.mk (h : T c μ) : boolK T (.d (.bool c)) μ := ⟨_, rfl, h⟩
theorem notK.mk (h : T (!c) μ) : notK T c μ := h
theorem twoK.mk (h : (c = true → A μ) ∧ (c = false → B μ)) : twoK A B c μ := h
theorem owtK.mk (h : (c = false → A μ) ∧ (c = true → B μ)) : owtK A B c μ := h
theorem twoK.yes (e : c = true) (h : A μ) : twoK A B c μ := ⟨fun _ => h, fun q => by rw [e] at q; cases q⟩
theorem twoK.no (e : c = false) (h : B μ) : twoK A B c μ := ⟨fun q => (by rw [e] at q; cases q), fun _ => h⟩
theorem owtK.yes (e : c = true) (h : B μ) : owtK A B c μ := ⟨fun q => (by rw [e] at q; cases q), fun _ => h⟩
theorem owtK.no (e : c = false) (h : A μ) : owtK A B c μ := ⟨fun _ => h, fun q => by rw [e] at q; cases q⟩
theorem expK.mk (h : WE prog w hb k sc e ρ μ P) : expK prog w hb k sc e ρ P μ := h
theorem pushK.mk (h : Ps (U :: Us) μ) : pushK Ps U Us μ := h
theorem consK.mk (h : WEs prog w hb k sc es ρ μ (pushK Ps U)) : consK prog w hb k sc es ρ Ps U μ := h
theorem callK.mk {f : Value} (h : WC prog w hb k f Us μ P) : callK prog w hb k f P Us μ := h
theorem tupK.n0 (h : P (.d (.tuple [])) μ) : tupK P [] μ := ⟨[], rfl, by decide, h⟩
theorem tupK.n1 (h : P (.d (.tuple [x0])) μ) : tupK P [.d x0] μ := ⟨[_], rfl, by simp, h⟩
theorem tupK.n2 (h : P (.d (.tuple [x0, x1])) μ) : tupK P [.d x0, .d x1] μ := ⟨[_, _], rfl, by simp, h⟩
theorem tupK.n3 (h : P (.d (.tuple [x0, x1, x2])) μ) : tupK P [.d x0, .d x1, .d x2] μ := ⟨[_, _, _], rfl, by simp, h⟩
theorem tupK.n4 (h : P (.d (.tuple [x0, x1, x2, x3])) μ) : tupK P [.d x0, .d x1, .d x2, .d x3] μ := ⟨[_, _, _, _], rfl, by simp, h⟩
theorem lstK.n0 (h : P (.d (.list [])) μ) : lstK P [] μ := ⟨[], rfl, by decide, h⟩
theorem lstK.n1 (h : P (.d (.list [x0])) μ) : lstK P [.d x0] μ := ⟨[_], rfl, by simp, h⟩
theorem opK.add (h : P (.d (.int (i + j))) μ) : opK prog w (binaryOp .Add) P (.d (.int i)) (.d (.int j)) μ := opK.mk OpD.add h
theorem opK.sub (h : P (.d (.int (i - j))) μ) : opK prog w (binaryOp .Sub) P (.d (.int i)) (.d (.int j)) μ := opK.mk OpD.sub h
theorem opK.and (h : P (.d (.int (Builtin.bitAnd i j))) μ) : opK prog w (binaryOp .BitAnd) P (.d (.int i)) (.d (.int j)) μ := opK.mk OpD.and h
theorem opK.lt (h : P (.d (.bool (decide (i < j)))) μ) : opK prog w (compareOp .Lt) P (.d (.int i)) (.d (.int j)) μ := opK.mk OpD.lt h
theorem opK.le (h : P (.d (.bool (decide (i ≤ j)))) μ) : opK prog w (compareOp .LtE) P (.d (.int i)) (.d (.int j)) μ := opK.mk OpD.le h
theorem opK.gt (h : P (.d (.bool (decide (j < i)))) μ) : opK prog w (compareOp .Gt) P (.d (.int i)) (.d (.int j)) μ := opK.mk OpD.gt h
theorem opK.ge (h : P (.d (.bool (decide (j ≤ i)))) μ) : opK prog w (compareOp .GtE) P (.d (.int i)) (.d (.int j)) μ := opK.mk OpD.ge h
theorem opK.isN (h : P (.d (.bool (isNone d))) μ) : opK prog w (compareOp .Is) P (.d d) (.d .none) μ := opK.mk OpD.isN h
theorem opK.isNotN (h : P (.d (.bool (!isNone d))) μ) : opK prog w (compareOp .IsNot) P (.d d) (.d .none) μ := opK.mk OpD.isNotN h
end
theorem WE.mono {P' : V → Mut → Prop} {e : Expr} (H : WE prog w hb k sc e ρ μ P) (g : ∀ U μ', P U μ' → P' U μ') : WE prog w hb k sc e ρ μ P' :=
  fun A env X s Q E h1 h2 h3 h4 hQ => H A env X s Q E h1 h2 h3 h4 fun v h' tk U μ' p => hQ v h' tk U μ' (g _ _ p)

theorem WE.cint {i : Int} {kk : Nat} (hP : P (.d (.int i)) μ) : WE prog w hb k sc (.Constant (.int i) kk pos) ρ μ P :=
  fun _ _ _ s _ _ _ _ C _ hQ => wpAny_Constant_int (hQ _ s.heap _ _ _ hP (.refl C.mu) (.int _ _))
theorem WE.cnone {kk : Nat} (hP : P (.d .none) μ) : WE prog w hb k sc (.Constant .none kk pos) ρ μ P :=
  fun _ _ _ s _ _ _ _ C _ hQ => wpAny_Constant_none (hQ _ s.heap s.toks _ _ hP (.refl C.mu) .none)
theorem WE.cbool {b : Bool} {kk : Nat} (hP : P (.d (.bool b)) μ) : WE prog w hb k sc (.Constant (.bool b) kk pos) ρ μ P :=
  fun _ _ _ s _ _ _ _ C _ hQ => wpAny_Constant_bool (hQ _ s.heap s.toks _ _ hP (.refl C.mu) (.bool _))

theorem Fm.load {env : Env} {x : Str} {U : V} {M : Model} {A : Around} {Q E : Value → Shared → Prop} (F : Fm X env ρ μ s.heap) (hx : ρ x = some U) (hc : (x == ("__classdict__" : Str)) = false) (hQ : ∀ v, RV X s.heap μ v U → Q v s) :
    wpAny M A (loadName env x) Q E s := by
  obtain ⟨m, hn, hm⟩ := F.ns
  rcases hm x U hx with ⟨h1, v, h2, h3⟩ | ⟨h1, c, o, v, h2, h3, h4, h5⟩
  · exact wpAny_loadName_local F.kind h1 hn h2 (hQ v h3)
  · rcases h1 with h1 | h1
    · exact wpAny_loadName_cell F.kind h1 h2 ⟨o, h3, h4⟩ (hQ v h5)
    · exact wpAny_loadName_free F.kind h1 h2 ⟨o, h3, h4⟩ (hQ v h5) hc
theorem WE.name {x : Str} {U : V} (hP : P U μ) (hx : ρ x = some U := by walk_at "p") (hd : (x == ("__debug__" : Str)) = false := by decide) (hc : (x == ("__classdict__" : Str)) = false := by decide) : WE prog w hb k sc (.Name x pos) ρ μ P :=
  fun _ _ _ s _ _ _ _ C F hQ => wpAny_Name (F.load hx hc fun v r => hQ v s.heap s.toks U μ hP (.refl C.mu) r) hd

/-- the two sides of a pure step -/
theorem WE.two {l r : Expr} {f : Value → Value → Sem Value} {A : Around} {env : Env} {s : Shared} {Q E : Value → Shared → Prop}
    (H : WE prog w hb k sc l ρ μ (sndK prog w hb k sc f r ρ P))
    (h1 : env.scope = sc) (h2 : Room A k) (C : Cs hb X μ s.heap) (F : Fm X env ρ μ s.heap)
    (hQ : ∀ v h' tk U μ', P U μ' → Nxt X μ s.heap μ' h' → RV X h' μ' v U → Q v { s with heap := h', toks := tk }) :
    wpAny (model prog w) A (eval l env) (fun a s₁ => wpAny (model prog w) A (eval r env) (fun b s₂ => wpAny (model prog w) A (f a b) Q E s₂) E s₁) E s := by
  refine H A env X s _ E h1 h2 C F ?_
  intro v1 g1 tk1 U1 μ1 p1 n1 r1
  refine p1 A env X _ _ E h1 h2 (C.nxt n1) (F.nxt C.mu n1) ?_
  rintro v2 g2 tk2 U2 μ2 ⟨d1, d2, d, rfl, rfl, op, p⟩ n2 r2
  refine op A X _ v1 v2 _ E (h2.less (Nat.zero_le _)) (((C.nxt n1).nxt n2).live) (RV.nxt r1 n1.mu n2) r2 ?_
  intro v h' tk kk rd
  exact hQ v h' tk (.d d) μ2 p ((n1.trans n2).trans (.keeps n2.mu kk)) rd

theorem WE.bin {l r : Expr} {op : Operator}
    (H : WE prog w hb k sc l ρ μ (sndK prog w hb k sc (binaryOp op) r ρ P)) :
    WE prog w hb k sc (.BinOp l op r pos) ρ μ P := fun A env X s Q E h1 h2 C F hQ => wpAny_BinOp (WE.two H h1 h2 C F hQ)
theorem WE.cmp {l r : Expr} {op : CmpOp}
    (H : WE prog w hb k sc l ρ μ (sndK prog w hb k sc (compareOp op) r ρ P))
    (hm : behindInMarks op r = false := by with_unfolding_all rfl) :
    WE prog w hb k sc (.Compare l [op] [r] pos) ρ μ P := fun A env X s Q E h1 h2 C F hQ => wpAny_Compare1 (WE.two H h1 h2 C F hQ) hm

section
variable {T : Bool → Mut → Prop}
theorem WT.cmp {l r : Expr} {op : CmpOp} (H : WE prog w hb k sc l ρ μ (sndK prog w hb k sc (compareOp op) r ρ (boolK T)))
    (hm : behindInMarks op r = false := by with_unfolding_all rfl) :
    WT prog w hb k sc (.Compare l [op] [r] pos) ρ μ T := fun A env X s Q E h1 h2 C F hQ => by
  refine wpAny_isTrue_Compare1 (WE.two H h1 h2 C F ?_) hm
  rintro v h' tk U μ' ⟨b, rfl, t⟩ n r
  have e := RD.bool_inv r; subst e
  exact wpAny_truthy_bool (hQ b h' tk μ' t n)
theorem WT.val {e : Expr} (H : WE prog w hb k sc e ρ μ (boolK T))
    (he : ∀ (env : Env) (whole : Sem Value), isTrue e env whole = (do let v ← whole; standAt e.pos; holding [v] (truthy v)) := by intro _ _; with_unfolding_all rfl) : WT prog w hb k sc e ρ μ T := fun A env X s Q E h1 h2 C F hQ => by
  refine wpAny_isTrue_value (H A env X s _ E h1 h2 C F ?_) (he _ _)
  rintro v h' tk U μ' ⟨b, rfl, t⟩ n r
  have e := RD.bool_inv r; subst e
  exact wpAny_truthy_bool (hQ b h' tk μ' t n)
theorem WT.not {e : Expr} (H : WT prog w hb k sc e ρ μ (notK T)) : WT prog w hb k sc (.UnaryOp .Not e pos) ρ μ T := fun A env X s Q E h1 h2 C F hQ =>
  wpAny_isTrue_Not (H A env X s _ E h1 h2 C F fun b h' tk μ' t n => hQ _ h' tk μ' t n)
noncomputable def WTs (prog : Program) (w : World) (hb : Heap) (k : Nat) (sc : Scope) (op : BoolOp) (es : List Expr) (ρ : Str → Option V) (μ : Mut) (P : Bool → Mut → Prop) : Prop :=
  ∀ (A : Around) (env : Env) (X : Addr → Prop) (s : Shared) (Q : Bool → Shared → Prop) (E : Value → Shared → Prop), env.scope = sc → Room A k → Cs hb X μ s.heap → Fm X env ρ μ s.heap →
    (∀ b h' tk μ', P b μ' → Nxt X μ s.heap μ' h' → Q b { s with heap := h', toks := tk }) →
    wpAny (model prog w) A (allTrue op es env) Q E s
noncomputable def allK (prog : Program) (w : World) (hb : Heap) (k : Nat) (sc : Scope) (op : BoolOp) (es : List Expr) (ρ : Str → Option V) (T : Bool → Mut → Prop) (μ : Mut) : Prop := WTs prog w hb k sc op es ρ μ T
theorem allK.mk {op : BoolOp} {es : List Expr} (h : WTs prog w hb k sc op es ρ μ T) : allK prog w hb k sc op es ρ T μ := h
theorem WT.bop {op : BoolOp} {es : List Expr} (H : WTs prog w hb k sc op es ρ μ T) : WT prog w hb k sc (.BoolOp op es pos) ρ μ T := fun A env X s Q E h1 h2 C F hQ =>
  wpAny_isTrue_BoolOp (H A env X s Q E h1 h2 C F hQ)
theorem WTs.nil {op : BoolOp} (t : T (op == .And) μ) : WTs prog w hb k sc op [] ρ μ T := fun A env X s Q E h1 h2 C F hQ => by
  cases op with
  | And => exact wpAny_allTrue_And_nil (hQ _ s.heap s.toks μ t (.refl C.mu))
  | Or => exact wpAny_allTrue_Or_nil (hQ _ s.heap s.toks μ t (.refl C.mu))
theorem WTs.and {e : Expr} {es : List Expr} (H : WT prog w hb k sc e ρ μ (twoK (allK prog w hb k sc .And es ρ T) (T false))) : WTs prog w hb k sc .And (e :: es) ρ μ T := fun A env X s Q E h1 h2 C F hQ => by
  refine wpAny_allTrue_And_cons (H A env X s _ E h1 h2 C F ?_)
  rintro b h' tk μ' ⟨t1, t2⟩ n
  cases b with
  | true => exact t1 rfl A env X _ _ _ h1 h2 (C.nxt n) (F.nxt C.mu n) fun b g tk' μ2 t n2 => hQ b g tk' μ2 t (n.trans n2)
  | false => exact hQ false h' tk μ' (t2 rfl) n
theorem WTs.or {e : Expr} {es : List Expr} (H : WT prog w hb k sc e ρ μ (owtK (allK prog w hb k sc .Or es ρ T) (T true))) : WTs prog w hb k sc .Or (e :: es) ρ μ T := fun A env X s Q E h1 h2 C F hQ => by
  refine wpAny_allTrue_Or_cons (H A env X s _ E h1 h2 C F ?_)
  rintro b h' tk μ' ⟨t1, t2⟩ n
  cases b with
  | false => exact t1 rfl A env X _ _ _ h1 h2 (C.nxt n) (F.nxt C.mu n) fun b g tk' μ2 t n2 => hQ b g tk' μ2 t (n.trans n2)
  | true => exact hQ true h' tk μ' (t2 rfl) n
end
theorem WE.ife {t b o : Expr} (H : WT prog w hb k sc t ρ μ (twoK (expK prog w hb k sc b ρ P) (expK prog w hb k sc o ρ P))) : WE prog w hb k sc (.IfExp t b o pos) ρ μ P := fun A env X s Q E h1 h2 C F hQ => by
  refine wpAny_IfExp (H A env X s _ E h1 h2 C F ?_)
  rintro c h' tk μ' ⟨t1, t2⟩ n
  cases c with
  | true => exact t1 rfl A env X _ _ _ h1 h2 (C.nxt n) (F.nxt C.mu n) fun v g tk' U μ2 p n2 r => hQ v g tk' U μ2 p (n.trans n2) r
  | false => exact t2 rfl A env X _ _ _ h1 h2 (C.nxt n) (F.nxt C.mu n) fun v g tk' U μ2 p n2 r => hQ v g tk' U μ2 p (n.trans n2) r
theorem WE.and2 {x y : Expr} (H : WE prog w hb k sc x ρ μ (boolK (twoK (expK prog w hb k sc y ρ P) (P (.d (.bool false)))))) : WE prog w hb k sc (.BoolOp .And [x, y] pos) ρ μ P := fun A env X s Q E h1 h2 C F hQ => by
  refine wpAny_And2 (H A env X s _ E h1 h2 C F ?_)
  rintro v h' tk U μ' ⟨b, rfl, t1, t2⟩ n r
  have e := RD.bool_inv r; subst e
  refine wpAny_truthy_bool ?_
  cases b with
  | true => exact t1 rfl A env X _ _ _ h1 h2 (C.nxt n) (F.nxt C.mu n) fun v g tk' U μ2 p n2 r => hQ v g tk' U μ2 p (n.trans n2) r
  | false => exact hQ _ h' tk _ μ' (t2 rfl) n (.bool _)

/-- displays -/
theorem WEs.nil {Ps : List V → Mut → Prop} (hP : Ps [] μ) : WEs prog w hb k sc [] ρ μ Ps := fun _ _ _ s _ _ _ _ _ C _ hQ => spliced_nil (hQ [] s.heap s.toks [] μ hP (.refl C.mu) .nil)
theorem All2.nxt {vs : List Value} {Us : List V} (a : All2 (RV X h μ) vs Us) (H : HasMut X h μ) (n : Nxt X μ h μ' h') : All2 (RV X h' μ') vs Us := by
  induction a with
  | nil => exact .nil
  | cons r _ ih => exact .cons (r.nxt H n) ih
theorem WEs.cons {e : Expr} {es : List Expr} {Ps : List V → Mut → Prop} (H : WE prog w hb k sc e ρ μ (consK prog w hb k sc es ρ Ps))
    (he : ∀ env, starEach (e :: es) env = (false, eval e env) :: starEach es env := by intro _; with_unfolding_all rfl) : WEs prog w hb k sc (e :: es) ρ μ Ps := fun A env X s pos Q E h1 h2 C F hQ => by
  rw [he env]
  refine spliced_cons (H A env X s _ E h1 h2 C F ?_)
  intro v g tk U μ1 p n r
  refine p A env X _ pos _ E h1 h2 (C.nxt n) (F.nxt C.mu n) ?_
  intro vs g2 tk2 Us μ2 p2 n2 rs
  exact hQ _ g2 tk2 _ μ2 p2 (n.trans n2) (.cons (r.nxt n.mu n2) rs)
theorem all2_rds {vs : List Value} {ds : List PyData} (a : All2 (RV X h μ) vs (ds.map V.d)) : RDs X h vs ds := by
  induction ds generalizing vs with
  | nil => cases a; exact .nil
  | cons d ds ih => cases a with | cons r b => exact .cons r (ih b)
theorem rds_all2 {vs : List Value} {ds : List PyData} (a : RDs X h vs ds) : All2 (RV X h μ) vs (ds.map V.d) := by
  induction ds generalizing vs with
  | nil => cases a; exact .nil
  | cons d ds ih => cases a with | cons r b => exact .cons r (ih b)
theorem All2.length {α β : Type} {R : α → β → Prop} {as : List α} {bs : List β} (a : All2 R as bs) : as.length = bs.length := by
  induction a with
  | nil => rfl
  | cons _ _ ih => simp [ih]
theorem WE.tup {es : List Expr} {kk : Nat} (H : WEs prog w hb k sc es ρ μ (tupK P)) : WE prog w hb k sc (.Tuple es kk pos) ρ μ P := fun A env X s Q E h1 h2 C F hQ => by
  refine Tuple_ (H A env X s pos _ E h1 h2 C F ?_)
  rintro vs g tk Us μ' ⟨ds, rfl, hz, p⟩ n rs
  have q := all2_rds rs
  have up : ∀ b o, g.get? b = some o → (g.push { cls := .type "tuple", data := .seq vs.toArray }).get? b = some o := fun b o e => Heap.get?_push_of_some _ e
  refine wpAny_newObj_type (hQ (.ref g.objs.size) _ tk (.d (.tuple ds)) μ' p (n.trans (.push n.mu _)) ?_) (by show vs.toArray.size ≤ sizeLine; rw [List.size_toArray, sizeLine_eq, q.length]; omega)
  exact .tuple (C.nxt n).notNew (Heap.get?_push_size _ rfl) (q.mono fun a o n e => ⟨n, up a o e⟩)
theorem WE.lst {es : List Expr} (H : WEs prog w hb k sc es ρ μ (lstK P)) : WE prog w hb k sc (.List es pos) ρ μ P := fun A env X s Q E h1 h2 C F hQ => by
  refine List_ (H A env X s pos _ E h1 h2 C F ?_)
  rintro vs g tk Us μ' ⟨ds, rfl, hz, p⟩ n rs
  have q := all2_rds rs
  have up : ∀ b o, g.get? b = some o → (g.push { cls := .type "list", data := .seq vs.toArray }).get? b = some o := fun b o e => Heap.get?_push_of_some _ e
  refine wpAny_newObj_type (hQ (.ref g.objs.size) _ tk (.d (.list ds)) μ' p (n.trans (.push n.mu _)) ?_) (by show vs.toArray.size ≤ sizeLine; rw [List.size_toArray, sizeLine_eq, q.length]; omega)
  exact .list (C.nxt n).notNew (Heap.get?_push_size _ rfl) (q.mono fun a o n e => ⟨n, up a o e⟩)

/-- items -/
theorem OpD.item {value slice : Expr} {xs : List PyData} {i : Int} {j : Nat} {d : PyData} (h0 : i = (j : Int)) (hz : j < 1000) (hx : xs[j]? = some d)
    (hs : ∀ o k u, subscripted slice false (.ref o) (.int k u) = operate [.ref o, .int k u] (getItem (.ref o) (.int k u))) :
    OpD prog w (subscriptTail value slice) (.tuple xs) (.int i) d := by
  intro A X s v1 v2 Q E R live r1 r2 hQ
  obtain ⟨a, vs, n, rfl, n1, e1, q1⟩ := r1.tuple_inv
  obtain ⟨u, rfl⟩ := r2.int_inv
  obtain ⟨v, ev, rv⟩ := q1.get hx
  subst h0
  have hl : j < vs.length := (List.getElem?_eq_some_iff.mp ev).1
  refine item_tupleT (l := vs) (j := j) ⟨_, e1, rfl, n, rfl⟩ (by omega) (by omega) ?_ ev (hQ v s.heap s.toks (fun _ _ e => e) rv) (hs _ _ _)
  unfold seqIndex?
  have h1 : ¬ ((j : Int) < 0) := by omega
  simp [h1, hl]
theorem OpD.itemL {value slice : Expr} {xs : List PyData} {i : Int} {j : Nat} {d : PyData} (h0 : i = (j : Int)) (hz : j < 1000) (hx : xs[j]? = some d)
    (hs : ∀ o k u, subscripted slice false (.ref o) (.int k u) = operate [.ref o, .int k u] (getItem (.ref o) (.int k u))) :
    OpD prog w (subscriptTail value slice) (.list xs) (.int i) d := by
  intro A X s v1 v2 Q E R live r1 r2 hQ
  obtain ⟨a, vs, n, rfl, n1, e1, q1⟩ := r1.list_inv
  obtain ⟨u, rfl⟩ := r2.int_inv
  obtain ⟨v, ev, rv⟩ := q1.get hx
  subst h0
  have hL : s.heap.IsList a vs.toArray := ⟨_, e1, rfl, n, rfl⟩
  exact tail_any hL.typeIs slot_list_getitem.lookup (wpAny_getItem_list hL (by omega) (by omega) (by simpa using ev) (hQ v s.heap s.toks (fun _ _ e => e) rv)) (hs _ _ _)
section
variable {value slice : Expr} {xs : List PyData} {i : Int} {x0 x1 x2 x3 : PyData}
theorem opK.item0 (h : P (.d x0) μ) (h0 : i = ((0 : Nat) : Int) := by decide) (hs : ∀ o k u, subscripted slice false (.ref o) (.int k u) = operate [.ref o, .int k u] (getItem (.ref o) (.int k u)) := by intro _ _ _; with_unfolding_all rfl) :
    opK prog w (subscriptTail value slice) P (.d (.tuple (x0 :: xs))) (.d (.int i)) μ := opK.mk (OpD.item h0 (by decide) rfl hs) h
theorem opK.item1 (h : P (.d x1) μ) (h0 : i = ((1 : Nat) : Int) := by decide) (hs : ∀ o k u, subscripted slice false (.ref o) (.int k u) = operate [.ref o, .int k u] (getItem (.ref o) (.int k u)) := by intro _ _ _; with_unfolding_all rfl) :
    opK prog w (subscriptTail value slice) P (.d (.tuple (x0 :: x1 :: xs))) (.d (.int i)) μ := opK.mk (OpD.item h0 (by decide) rfl hs) h
theorem opK.item2 (h : P (.d x2) μ) (h0 : i = ((2 : Nat) : Int) := by decide) (hs : ∀ o k u, subscripted slice false (.ref o) (.int k u) = operate [.ref o, .int k u] (getItem (.ref o) (.int k u)) := by intro _ _ _; with_unfolding_all rfl) :
    opK prog w (subscriptTail value slice) P (.d (.tuple (x0 :: x1 :: x2 :: xs))) (.d (.int i)) μ := opK.mk (OpD.item h0 (by decide) rfl hs) h
theorem opK.item3 (h : P (.d x3) μ) (h0 : i = ((3 : Nat) : Int) := by decide) (hs : ∀ o k u, subscripted slice false (.ref o) (.int k u) = operate [.ref o, .int k u] (getItem (.ref o) (.int k u)) := by intro _ _ _; with_unfolding_all rfl) :
    opK prog w (subscriptTail value slice) P (.d (.tuple (x0 :: x1 :: x2 :: x3 :: xs))) (.d (.int i)) μ := opK.mk (OpD.item h0 (by decide) rfl hs) h
end
theorem WE.sub {value slice : Expr}
    (H : WE prog w hb k sc value ρ μ (sndK prog w hb k sc (subscriptTail value slice) slice ρ P)) :
    WE prog w hb k sc (.Subscript value slice pos) ρ μ P := fun A env X s Q E h1 h2 C F hQ => Subscript_ (WE.two H h1 h2 C F hQ)

/-- calls of the text's own -/
theorem WE.call {f : Str} {fp : Pos} {a : Addr} (Y : Wd K hb) {e : Expr} {es : List Expr}
    (H : WEs prog w hb k sc (e :: es) ρ μ (callK prog w hb k (.ref a) P)) (hk : sc.names.lookup f = some .globalImplicit := by with_unfolding_all rfl) (hf : nsIn K mainGlobals f = some (some (.ref a)) := by with_unfolding_all rfl) (hkp : keepIn K (.ref a) = true := by with_unfolding_all rfl) (hd : (f == ("__debug__" : Str)) = false := by decide)
    (he : ∀ env, starEach (e :: es) env = (false, eval e env) :: starEach es env := by intro _; with_unfolding_all rfl) (hp : ∀ env pos, (backTo pos (starEach es env)).any (·.1) = false := by intro _ _; with_unfolding_all rfl) :
    WE prog w hb k sc (.Call (.Name f fp) (e :: es) [] pos) ρ μ P := fun A env X s Q E h1 h2 C F hQ => by
  obtain ⟨p, loose, mg, mb, T⟩ := Y.top
  refine wpAny_Call_ofName (Name_function_global F.kind (by rw [← hk, ← h1]; rfl) (loadGlobal_global (by rw [F.glob]; exact C.ns T.g) (mg_of Y.kin T.g hf) ?_) hd)
  refine callWith_K Y.kin hkp (H A env X s pos _ E h1 h2 C F ?_) (he env) (hp env pos)
  intro vs g tk Us μ1 p1 n rs
  refine ⟨Y.kin.keeps (C.nxt n).base, ?_⟩
  rw [List.nil_append]
  exact p1 A X _ vs Q E h2 (C.nxt n) rs fun v g2 tk2 U μ2 p2 n2 r => hQ v g2 tk2 U μ2 p2 (n.trans n2) r
end
section
variable {prog : Program} {w : World} {hb : Heap} {K : Frag} {X : Addr → Prop} {μ μ' : Mut} {h h' : Heap} {s : Shared} {env : Env} {ρ : Str → Option V}

theorem RV.nxtS {v : Value} {U : V} (r : RV X h μ v U) (H : HasMut X h μ) (F : Fm X env ρ μ h) (n : NxtS X env μ h μ' h') : RV X h' μ' v U :=
  r.ext n.ext (fun a m => m.elim (fun m => H.inX m) fun o => F.own o) n.same

theorem Cs.hbNone (C : Cs hb X μ h) {a : Addr} (x : X a) : hb.get? a = none := (C.xs a x).1

theorem Fm.store {x : Str} {U : V} {v : Value} {A : Around} {Q : Unit → Shared → Prop} {E : Value → Shared → Prop} (F : Fm X env ρ μ s.heap) (C : Cs hb X μ s.heap)
    (hx : env.kindOf x = some .local ∨ (env.kindOf x = some .cell ∧ ∃ c, env.cells.lookup x = some c)) (r : RV X s.heap μ v U)
    (hQ : ∀ h' tk, NxtS X env μ s.heap μ h' → Fm X env (upd ρ x U) μ h' → Q () { s with heap := h', toks := tk }) : wpAny (model prog w) A (storeName env x v) Q E s := by
  obtain ⟨m, hn, hm⟩ := F.ns
  rcases hx with hx | ⟨hx, c, hc⟩
  · refine wpAny_storeName_local hx hn (fun g hn' hs => ?_) (by rw [F.kind]; rfl)
    have E1 : Ext (fun a => a = env.locals) s.heap g := ⟨fun b o n e => (hs.2 b n).trans e, fun b o e => by
      by_cases q : b = env.locals
      · subst q; obtain ⟨o', _, _, e', _⟩ := hn'; exact ⟨o', e'⟩
      · exact ⟨o, (hs.2 b q).trans e⟩⟩
    have kX : ∀ a, a = env.locals → X a := fun a e => e ▸ F.loc.1
    have H' : HasMut X g μ := C.mu.ext E1 kX fun a e m => F.loc.2 (e ▸ m)
    refine hQ g _ ⟨E1.sub fun b o _ e => .inr (.inl e), H', .refl _⟩ ?_
    refine ⟨F.kind, F.glob, F.blt, F.loc, fun y c e => ?_, F.cinj, _, hn', fun y U' hy => ?_⟩
    · obtain ⟨h1, h2, h3, o, v0, h4, h5⟩ := F.cells y c e
      exact ⟨h1, h2, h3, o, v0, E1.1 c o h3 h4, h5⟩
    · unfold upd at hy
      by_cases q : y = x
      · subst q
        rw [if_pos rfl] at hy; cases hy
        exact .inl ⟨hx, v, by simp, r.ext E1 kX (.refl _)⟩
      · rw [if_neg q] at hy
        rcases hm y U' hy with ⟨k1, v1, k2, k3⟩ | ⟨k1, c, o, v1, k2, k3, k4, k5⟩
        · exact .inl ⟨k1, v1, by simp [q, k2], k3.ext E1 kX (.refl _)⟩
        · exact .inr ⟨k1, c, o, v1, k2, E1.1 c o (F.cells y c k2).2.2.1 k3, k4, k5.ext E1 kX (.refl _)⟩
  · obtain ⟨xc, nc, lc, o0, v0, g0, d0⟩ := F.cells x c hc
    refine wpAny_storeName_cell F.kind hx hc ⟨o0, g0, d0⟩ (fun g hv hs => ?_)
    obtain ⟨o', e', d'⟩ := hv
    have E1 : Ext (fun a => a = c) s.heap g := ⟨fun b o n e => (hs.2 b n).trans e, fun b o e => by
      by_cases q : b = c
      · subst q; exact ⟨o', e'⟩
      · exact ⟨o, (hs.2 b q).trans e⟩⟩
    have kX : ∀ a, a = c → X a := fun a e => e ▸ xc
    have H' : HasMut X g μ := C.mu.ext E1 kX fun a e m => nc (e ▸ m)
    refine hQ g s.toks ⟨E1.sub fun b o _ e => .inr (.inr ⟨x, e ▸ hc⟩), H', .refl _⟩ ?_
    refine ⟨F.kind, F.glob, F.blt, F.loc, fun y c2 e => ?_, F.cinj, m, hn.sameBut hs (Ne.symm lc), fun y U' hy => ?_⟩
    · obtain ⟨h1, h2, h3, o, v1, h4, h5⟩ := F.cells y c2 e
      by_cases q : c2 = c
      · subst q; exact ⟨h1, h2, h3, o', _, e', d'⟩
      · exact ⟨h1, h2, h3, o, v1, E1.1 c2 o q h4, h5⟩
    · unfold upd at hy
      by_cases q : y = x
      · subst q
        rw [if_pos rfl] at hy; cases hy
        exact .inr ⟨.inl hx, c, o', v, hc, e', d', r.ext E1 kX (.refl _)⟩
      · rw [if_neg q] at hy
        rcases hm y U' hy with ⟨k1, v1, k2, k3⟩ | ⟨k1, c2, o, v1, k2, k3, k4, k5⟩
        · exact .inl ⟨k1, v1, k2, k3.ext E1 kX (.refl _)⟩
        · have q2 : c2 ≠ c := fun e => q (F.cinj.1 y x c2 k2 (e ▸ hc))
          exact .inr ⟨k1, c2, o, v1, k2, E1.1 c2 o q2 k3, k4, k5.ext E1 kX (.refl _)⟩

/-- one statement -/
noncomputable def WX (prog : Program) (w : World) (hb : Heap) (k : Nat) (sc : Scope) (b : Stmt) (ρ : Str → Option V) (μ : Mut) (N : (Str → Option V) → Mut → Prop) (R : V → Mut → Prop) : Prop :=
  ∀ (A : Around) (env : Env) (X : Addr → Prop) (s : Shared) (Q : Flow → Shared → Prop) (E : Value → Shared → Prop), env.scope = sc → Room A k → Cs hb X μ s.heap → Fm X env ρ μ s.heap →
    (∀ h' tk ρ' μ', N ρ' μ' → NxtS X env μ s.heap μ' h' → Fm X env ρ' μ' h' → Q .next { s with heap := h', toks := tk }) →
    (∀ v h' tk U μ', R U μ' → NxtS X env μ s.heap μ' h' → RV X h' μ' v U → Q (.ret v) { s with heap := h', toks := tk }) →
    wpAny (model prog w) A (exec b env) Q E s

variable {k : Nat} {sc : Scope} {N : (Str → Option V) → Mut → Prop} {R : V → Mut → Prop} {pos : Pos}

noncomputable def restK (prog : Program) (w : World) (hb : Heap) (k : Nat) (sc : Scope) (rest : List Stmt) (N : (Str → Option V) → Mut → Prop) (R : V → Mut → Prop) (ρ : Str → Option V) (μ : Mut) : Prop := WS prog w hb k sc rest ρ μ N R
noncomputable def stmK (prog : Program) (w : World) (hb : Heap) (k : Nat) (sc : Scope) (b : List Stmt) (ρ : Str → Option V) (N : (Str → Option V) → Mut → Prop) (R : V → Mut → Prop) (μ : Mut) : Prop := WS prog w hb k sc b ρ μ N R
noncomputable def setK (ρ : Str → Option V) (x : Str) (N : (Str → Option V) → Mut → Prop) (U : V) (μ : Mut) : Prop := N (upd ρ x U) μ
noncomputable def noneK (P : V → Mut → Prop) (_ : Str → Option V) (μ : Mut) : Prop := P (.d .none) μ
noncomputable def augK (prog : Program) (w : World) (op : Operator) (d1 : PyData) (ρ : Str → Option V) (x : Str) (N : (Str → Option V) → Mut → Prop) (U2 : V) (μ : Mut) : Prop := ∃ d2 d, U2 = .d d2 ∧ OpD prog w (inplaceOp op) d1 d2 d ∧ N (upd ρ x (.d d)) μ
noncomputable def exprK (ρ : Str → Option V) (N : (Str → Option V) → Mut → Prop) (U : V) (μ : Mut) : Prop := U = .d .none ∧ N ρ μ
theorem restK.mk {rest : List Stmt} (h : WS prog w hb k sc rest ρ μ N R) : restK prog w hb k sc rest N R ρ μ := h
theorem stmK.mk {b : List Stmt} (h : WS prog w hb k sc b ρ μ N R) : stmK prog w hb k sc b ρ N R μ := h
theorem setK.mk {x : Str} {U : V} (h : N (upd ρ x U) μ) : setK ρ x N U μ := h
theorem noneK.mk {P : V → Mut → Prop} (h : P (.d .none) μ) : noneK P ρ μ := h
theorem augK.add {i j : Int} {x : Str} (h : N (upd ρ x (.d (.int (i + j)))) μ) : augK prog w .Add (.int i) ρ x N (.d (.int j)) μ := ⟨_, _, rfl, OpD.iadd, h⟩
theorem exprK.mk (h : N ρ μ) : exprK ρ N (.d .none) μ := ⟨rfl, h⟩

theorem WS.nil (n : N ρ μ) : WS prog w hb k sc [] ρ μ N R := fun A env X s Q E h1 h2 C F hN hR => wpAny_execs_nil (hN s.heap s.toks ρ μ n (.refl C.mu) F)
theorem WS.cons {st : Stmt} {rest : List Stmt} (H : WX prog w hb k sc st ρ μ (restK prog w hb k sc rest N R) R) : WS prog w hb k sc (st :: rest) ρ μ N R := fun A env X s Q E h1 h2 C F hN hR => by
  refine wpAny_execs_cons (H A env X s _ E h1 h2 C F ?_ ?_)
  · intro g tk ρ' μ' n1 x1 F1
    refine n1 A env X _ Q E h1 h2 (C.nxtS F x1) F1 ?_ ?_
    · intro g2 tk2 ρ2 μ2 n2 x2 F2
      exact hN g2 tk2 ρ2 μ2 n2 (x1.trans x2) F2
    · intro v g2 tk2 U μ2 r2 x2 rv
      exact hR v g2 tk2 U μ2 r2 (x1.trans x2) rv
  · exact hR
theorem WS.mono {b : List Stmt} {N' : (Str → Option V) → Mut → Prop} {R' : V → Mut → Prop} (H : WS prog w hb k sc b ρ μ N R) (hn : ∀ ρ' μ', N ρ' μ' → N' ρ' μ') (hr : ∀ U μ', R U μ' → R' U μ') : WS prog w hb k sc b ρ μ N' R' :=
  fun A env X s Q E h1 h2 C F hN hR => H A env X s Q E h1 h2 C F (fun h' tk ρ' μ' n => hN h' tk ρ' μ' (hn _ _ n)) fun v h' tk U μ' r => hR v h' tk U μ' (hr _ _ r)

theorem WX.ret {e : Expr} (H : WE prog w hb k sc e ρ μ R) : WX prog w hb k sc (.Return (some e) pos) ρ μ N R := fun A env X s Q E h1 h2 C F hN hR =>
  wpAny_Return_some (H A env X s _ E h1 h2 C F fun v g tk U μ' p n r => hR v g tk U μ' p n.s r)
theorem WX.if {t : Expr} {b o : List Stmt} (H : WT prog w hb k sc t ρ μ (twoK (stmK prog w hb k sc b ρ N R) (stmK prog w hb k sc o ρ N R))) : WX prog w hb k sc (.If t b o pos) ρ μ N R := fun A env X s Q E h1 h2 C F hN hR => by
  refine wpAny_If (H A env X s _ E h1 h2 C F ?_)
  rintro c g tk μ' ⟨t1, t2⟩ n
  have go : ∀ bb, WS prog w hb k sc bb ρ μ' N R → wpAny (model prog w) A (execs bb env) Q E { s with heap := g, toks := tk } := fun bb hb' =>
    hb' A env X _ Q E h1 h2 (C.nxt n) (F.nxt C.mu n) (fun g2 tk2 ρ2 μ2 n2 x2 F2 => hN g2 tk2 ρ2 μ2 n2 (n.s.trans x2) F2) fun v g2 tk2 U μ2 r2 x2 rv => hR v g2 tk2 U μ2 r2 (n.s.trans x2) rv
  cases c with
  | true => exact go b (t1 rfl)
  | false => exact go o (t2 rfl)

theorem kind_of_sc {x : Str} {kd : NameKind} (h1 : env.scope = sc) (hk : sc.names.lookup x = some kd) : env.kindOf x = some kd := by rw [← hk, ← h1]; rfl

theorem WX.asg {x : Str} {xp : Pos} {e : Expr} (H : WE prog w hb k sc e ρ μ (setK ρ x N)) (hk : sc.names.lookup x = some .local := by with_unfolding_all rfl)
    (hs : ∀ env : Env, env.scope = sc → swapsWith e (some (.Name x xp)) pos.line env = pure false := by (intro env h; cases env; cases h; with_unfolding_all rfl)) :
    WX prog w hb k sc (.Assign [.Name x xp] e pos) ρ μ N R := fun A env X s Q E h1 h2 C F hN hR => by
  refine wpAny_Assign_Name (H A env X s _ E h1 h2 C F ?_) (hs env h1)
  intro v g tk U μ' p n r
  refine (F.nxt C.mu n).store (s := { s with heap := g, toks := tk }) (C.nxt n) (.inl (kind_of_sc h1 hk)) r ?_
  intro g2 tk2 n2 F2
  exact hN g2 tk2 _ μ' p (n.s.trans n2) F2

/-- a cell's name -/
noncomputable def HasCell (env : Env) (x : Str) : Prop := ∃ c, env.cells.lookup x = some c
theorem WX.asgC {x : Str} {xp : Pos} {e : Expr} (hk : sc.names.lookup x = some .cell) (hc : ∀ (A : Around) env X s, Fm X env ρ μ s → env.scope = sc → HasCell env x) (H : WE prog w hb k sc e ρ μ (setK ρ x N))
    (hs : ∀ env : Env, env.scope = sc → swapsWith e (some (.Name x xp)) pos.line env = pure false := by (intro env h; cases env; cases h; rfl)) :
    WX prog w hb k sc (.Assign [.Name x xp] e pos) ρ μ N R := fun A env X s Q E h1 h2 C F hN hR => by
  refine wpAny_Assign_Name (H A env X s _ E h1 h2 C F ?_) (hs env h1)
  intro v g tk U μ' p n r
  refine (F.nxt C.mu n).store (s := { s with heap := g, toks := tk }) (C.nxt n) (.inr ⟨kind_of_sc h1 hk, hc A env X _ F h1⟩) r ?_
  intro g2 tk2 n2 F2
  exact hN g2 tk2 _ μ' p (n.s.trans n2) F2

theorem WX.aug {x : Str} {xp : Pos} {op : Operator} {e : Expr} {d1 : PyData} (hk : sc.names.lookup x = some .local) (hx : ρ x = some (.d d1))
    (H : WE prog w hb k sc e ρ μ (augK prog w op d1 ρ x N)) (hc : (x == ("__classdict__" : Str)) = false := by decide) :
    WX prog w hb k sc (.AugAssign (.Name x xp) op e pos) ρ μ N R := fun A env X s Q E h1 h2 C F hN hR => by
  refine wpAny_AugAssign_Name (F.load hx hc fun v r => ?_)
  refine H A env X s _ E h1 h2 C F ?_
  rintro v2 g tk U μ2 ⟨d2, d, rfl, op, p⟩ n r2
  refine op A X _ v v2 _ E (h2.less (Nat.zero_le _)) (C.nxt n).live (RV.nxt r C.mu n) r2 ?_
  intro v3 g3 tk3 kk rd
  have n3 : Nxt X μ2 g μ2 g3 := .keeps n.mu kk
  refine ((F.nxt C.mu n).nxt n.mu n3).store (s := { s with heap := g3, toks := tk3 }) ((C.nxt n).nxt n3) (.inl (kind_of_sc h1 hk)) (U := .d d) rd ?_
  intro g4 tk4 n4 F4
  exact hN g4 tk4 _ μ2 p ((n.s.trans n3.s).trans n4) F4

theorem WX.expr {e : Expr} (H : WE prog w hb k sc e ρ μ (exprK ρ N))
    (hi : ∀ env : Env, env.scope = sc → interactive env = false := by (intro env h; cases env; cases h; rfl)) (hs : ∀ env, swapsWith e none pos.line env = pure false := by intro _; rfl) :
    WX prog w hb k sc (.Expr e pos) ρ μ N R := fun A env X s Q E h1 h2 C F hN hR => by
  refine wpAny_Expr (H A env X s _ E h1 h2 C F ?_) (hi env h1) (hs env)
  rintro v g tk U μ' ⟨rfl, n⟩ x r
  have e := RD.none_inv r; subst e
  exact hN g tk ρ μ' n x.s (F.nxt C.mu x)

/-- several names at once -/
noncomputable def updAll (ρ : Str → Option V) : List Str → List V → (Str → Option V)
  | x :: xs, U :: Us => updAll (upd ρ x U) xs Us
  | _, _ => ρ
theorem All2.imp {α β : Type} {R S : α → β → Prop} {as : List α} {bs : List β} (a : All2 R as bs) (h : ∀ x y, R x y → S x y) : All2 S as bs := by
  induction a with
  | nil => exact .nil
  | cons r _ ih => exact .cons (h _ _ r) ih
theorem All2.rev {α β : Type} {R : α → β → Prop} {as : List α} {bs : List β} (a : All2 R as bs) : All2 R as.reverse bs.reverse := by
  have app : ∀ {as : List α} {bs : List β} {cs : List α} {ds : List β}, All2 R as bs → All2 R cs ds → All2 R (as ++ cs) (bs ++ ds) := by
    intro as bs cs ds a b
    induction a with
    | nil => exact b
    | cons r _ ih => exact .cons r ih
  induction a with
  | nil => exact .nil
  | cons r _ ih => rw [List.reverse_cons, List.reverse_cons]; exact app ih (.cons r .nil)
theorem assignInOrder_cons (t : Value → Sem Unit) (ts : List (Value → Sem Unit)) (v : Value) (vs : List Value) : assignInOrder (t :: ts) (v :: vs) = (do holding vs (t v); assignInOrder ts vs) := rfl
theorem storeAll {A : Around} {E : Value → Shared → Prop} (T : Str → Value → Sem Unit) (hT : ∀ x v (Q : Unit → Shared → Prop) s, wpAny (model prog w) A (storeName env x v) Q E s → wpAny (model prog w) A (T x v) Q E s) (xs : List Str) : ∀ (vs : List Value) (Us : List V) (ρ : Str → Option V) (s : Shared) (Q : Unit → Shared → Prop),
    Fm X env ρ μ s.heap → Cs hb X μ s.heap → (∀ x ∈ xs, env.kindOf x = some .local ∨ (env.kindOf x = some .cell ∧ HasCell env x)) → xs.length = vs.length → All2 (RV X s.heap μ) vs Us →
    (∀ h' tk, NxtS X env μ s.heap μ h' → Fm X env (updAll ρ xs Us) μ h' → Q () { s with heap := h', toks := tk }) →
    wpAny (model prog w) A (assignInOrder (xs.map T) vs) Q E s := by
  induction xs with
  | nil =>
    intro vs Us ρ s Q F C _ hl a hQ
    cases vs with
    | nil => cases a; exact wpAny_pure (hQ s.heap s.toks (.refl C.mu) F)
    | cons v vs => simp at hl
  | cons x xs ih =>
    intro vs Us ρ s Q F C hk hl a hQ
    cases vs with
    | nil => simp at hl
    | cons v vs =>
      cases a with
      | cons r a =>
        rw [List.map_cons, assignInOrder_cons]
        refine wpAny_bind (wpAny_holding (hT x v _ s (F.store C (hk x (.head _)) r ?_)))
        intro g tk n F2
        have r2 := a.imp fun _ _ q => RV.nxtS q C.mu F n
        exact ih vs _ _ { s with heap := g, toks := tk } Q F2 (C.nxtS F n) (fun y hy => hk y (.tail _ hy)) (by simpa using hl) r2 fun h' tk' n' F' => hQ h' tk' (n.trans n') F'

theorem RDs.all2 {vs : List Value} {ds : List PyData} (a : RDs X h vs ds) : All2 (RV X h μ) vs (ds.map V.d) := rds_all2 a

noncomputable def unpK (names : List Str) (ρ : Str → Option V) (N : (Str → Option V) → Mut → Prop) (U : V) (μ : Mut) : Prop := ∃ ds, U = .d (.tuple ds) ∧ ds.length = names.length ∧ N (updAll ρ names.reverse (ds.map V.d).reverse) μ
theorem unpK.n2 {x y : Str} {a b : PyData} (h : N (upd (upd ρ y (.d b)) x (.d a)) μ) : unpK [x, y] ρ N (.d (.tuple [a, b])) μ := ⟨_, rfl, rfl, h⟩
theorem unpK.n3 {x y z : Str} {a b c : PyData} (h : N (upd (upd (upd ρ z (.d c)) y (.d b)) x (.d a)) μ) : unpK [x, y, z] ρ N (.d (.tuple [a, b, c])) μ := ⟨_, rfl, rfl, h⟩
noncomputable def unfK (names : List Str) (ρ : Str → Option V) (N : (Str → Option V) → Mut → Prop) (U : V) (μ : Mut) : Prop := ∃ ds, U = .d (.tuple ds) ∧ ds.length = names.length ∧ N (updAll ρ names (ds.map V.d)) μ
theorem unfK.n4 {x y z u : Str} {a b c d : PyData} (h : N (upd (upd (upd (upd ρ x (.d a)) y (.d b)) z (.d c)) u (.d d)) μ) : unfK [x, y, z, u] ρ N (.d (.tuple [a, b, c, d])) μ := ⟨_, rfl, rfl, h⟩
theorem WX.asgT {xs : List (Str × Pos)} {kk : Nat} {tp : Pos} {e : Expr} (hk : ∀ x ∈ xs, sc.names.lookup x.1 = some .local) (names : List Str) (hnm : names = xs.map (·.1))
    (H : WE prog w hb k sc e ρ μ (unpK names ρ N))
    (hs : ∀ env, swapsWithSole [.Tuple (xs.map fun q => .Name q.1 q.2) kk tp] e pos.line env = pure false)
    (hw : ∀ env : Env, env.scope = sc → swappedStores [.Tuple (xs.map fun q => .Name q.1 q.2) kk tp] e env = pure (some names)) :
    WX prog w hb k sc (.Assign [.Tuple (xs.map fun q => .Name q.1 q.2) kk tp] e pos) ρ μ N R := fun A env X s Q E h1 h2 C F hN hR => by
  refine Assign_Tuple_swapped (H A env X s _ E h1 h2 C F ?_) (hs env) (hw env h1)
  rintro v g tk U μ' ⟨ds, rfl, hl, p⟩ n r
  obtain ⟨a, vs, nn, rfl, nx, e1, q⟩ := RD.tuple_inv r
  have lv := q.length
  have hz : names.length = vs.toArray.size := by rw [List.size_toArray, lv, hl]
  rw [hz]
  refine wpAny_unpackItems_tuple h2.handled ⟨_, e1, rfl, nn, rfl⟩ ?_
  intro g2 hx2
  have up : ∀ b o, g.get? b = some o → g2.get? b = some o := fun b o e => hx2 b o (Nat.ne_of_lt (Heap.lt_size e)) e
  have n2 : Nxt X μ' g μ' g2 := .keeps n.mu up
  have C2 := (C.nxt n).nxt n2
  have F2 := (F.nxt C.mu n).nxt n.mu n2
  have q2 : All2 (RV X g2 μ') vs (ds.map V.d) := (q.mono fun a o n e => ⟨n, up a o e⟩).all2
  refine storeAll (fun x v => bindName env x v) (fun x v Q s hh => wpAny_bindName hh) names.reverse vs.toArray.toList.reverse (ds.map V.d).reverse ρ _ _ F2 C2 ?_ (by simp [lv, hl]) (by simpa using q2.rev) ?_
  · intro x hx
    rw [hnm] at hx
    obtain ⟨y, hy, rfl⟩ := List.mem_map.mp (List.mem_reverse.mp hx)
    exact .inl (kind_of_sc h1 (hk y hy))
  · intro g3 tk3 n3 F3
    exact hN g3 tk3 _ μ' p ((n.s.trans n2.s).trans n3) F3

theorem assignEach_names (env : Env) : ∀ xs : List (Str × Pos), assignEach (xs.map fun q => Expr.Name q.1 q.2) env = xs.map fun q => (false, assign (.Name q.1 q.2) env)
  | [] => rfl
  | q :: xs => by
    have := assignEach_names env xs
    show (false, assign (.Name q.1 q.2) env) :: assignEach (xs.map fun q => Expr.Name q.1 q.2) env = _
    rw [this]; rfl
theorem storeNames {A : Around} {E : Value → Shared → Prop} (xs : List (Str × Pos)) : ∀ (vs : List Value) (Us : List V) (ρ : Str → Option V) (s : Shared) (Q : Unit → Shared → Prop),
      Fm X env ρ μ s.heap → Cs hb X μ s.heap → (∀ x ∈ xs, env.kindOf x.1 = some .local ∨ (env.kindOf x.1 = some .cell ∧ HasCell env x.1)) → xs.length = vs.length → All2 (RV X s.heap μ) vs Us →
      (∀ h' tk, NxtS X env μ s.heap μ h' → Fm X env (updAll ρ (xs.map (·.1)) Us) μ h' → Q () { s with heap := h', toks := tk }) →
      wpAny (model prog w) A (assignInOrder (xs.map fun q => assign (.Name q.1 q.2) env) vs) Q E s := by
    induction xs with
    | nil =>
      intro vs Us ρ s Q F C _ hl a hQ
      cases vs with
      | nil => cases a; exact wpAny_pure (hQ s.heap s.toks (.refl C.mu) F)
      | cons v vs => simp at hl
    | cons x xs ih =>
      intro vs Us ρ s Q F C hk hl a hQ
      cases vs with
      | nil => simp at hl
      | cons v vs =>
        cases a with
        | cons r a =>
          rw [List.map_cons, assignInOrder_cons]
          refine wpAny_bind (wpAny_holding (wpAny_assign_Name (F.store C (hk x (.head _)) r ?_)))
          intro g tk n F2
          have r2 := a.imp fun _ _ q => RV.nxtS q C.mu F n
          exact ih vs _ _ { s with heap := g, toks := tk } Q F2 (C.nxtS F n) (fun y hy => hk y (.tail _ hy)) (by simpa using hl) r2 fun h' tk' n' F' => hQ h' tk' (n.trans n') F'
theorem WX.asgT4 {xs : List (Str × Pos)} {names : List Str} {kk : Nat} {tp : Pos} {e : Expr} (hk : ∀ x ∈ xs, sc.names.lookup x.1 = some .local ∨ (sc.names.lookup x.1 = some .cell ∧ ∀ (A : Around) env X s, Fm X env ρ μ s → env.scope = sc → HasCell env x.1))
    (H : WE prog w hb k sc e ρ μ (unfK names ρ N)) (hnm : xs.map (·.1) = names)
    (hs : ∀ env, swapsWithSole [.Tuple (xs.map fun q => .Name q.1 q.2) kk tp] e pos.line env = pure false)
    (hw : ∀ env : Env, env.scope = sc → swappedStores [.Tuple (xs.map fun q => .Name q.1 q.2) kk tp] e env = pure none) :
    WX prog w hb k sc (.Assign [.Tuple (xs.map fun q => .Name q.1 q.2) kk tp] e pos) ρ μ N R := fun A env X s Q E h1 h2 C F hN hR => by
  refine Assign_Tuple (H A env X s _ E h1 h2 C F ?_) (hs env) (hw env h1)
  rintro v g tk U μ' ⟨ds, rfl, hl, p⟩ n r
  obtain ⟨a, vs, nn, rfl, nx, e1, q⟩ := RD.tuple_inv r
  have lv := q.length
  have hxl : names.length = xs.length := by rw [← hnm, List.length_map]
  refine wpAny_assign_Tuple h2.handled ⟨_, e1, rfl, nn, rfl⟩ (by rw [assignEach_names, List.length_map, List.size_toArray, lv, hl, hxl]) (by rw [assignEach_names]; simp [List.findIdx?_eq_none_iff]) ?_
  intro g2 hx2
  have up : ∀ b o, g.get? b = some o → g2.get? b = some o := fun b o e => hx2 b o (Nat.ne_of_lt (Heap.lt_size e)) e
  have n2 : Nxt X μ' g μ' g2 := .keeps n.mu up
  have C2 := (C.nxt n).nxt n2
  have F2 := (F.nxt C.mu n).nxt n.mu n2
  have q2 : All2 (RV X g2 μ') vs (ds.map V.d) := (q.mono fun a o n e => ⟨n, up a o e⟩).all2
  have em : (assignEach (xs.map fun q => Expr.Name q.1 q.2) env).map (·.2) = xs.map fun q => assign (.Name q.1 q.2) env := by rw [assignEach_names, List.map_map]; rfl
  rw [em]
  refine storeNames xs _ (ds.map V.d) ρ _ _ F2 C2 ?_ (by simp [lv, hl, hxl]) (by simpa using q2) ?_
  · intro x hx
    rcases hk x hx with h | ⟨h, hc⟩
    · exact .inl (kind_of_sc h1 h)
    · exact .inr ⟨kind_of_sc h1 h, hc A env X _ F h1⟩
  · intro g3 tk3 n3 F3
    exact hN g3 tk3 _ μ' p ((n.s.trans n2.s).trans n3) (hnm ▸ F3)
end
section
variable {prog : Program} {w : World} {hb : Heap} {K : Frag} {X : Addr → Prop} {μ μ' : Mut} {h h' : Heap} {s : Shared} {env : Env} {ρ : Str → Option V}
variable {k : Nat} {sc : Scope} {N : (Str → Option V) → Mut → Prop} {R P : V → Mut → Prop} {pos : Pos}

/-- calls of builtins by name -/
theorem WE.callB {f : Str} {fp : Pos} {id : String} (Y : Wd K hb) (hk : sc.names.lookup f = some .globalImplicit) (hf : nsIn K mainGlobals f = some none) (hv : bootBuiltins f = some (.builtin id)) (hn : f ≠ "__name__") {e : Expr} {es : List Expr}
    (H : WEs prog w hb k sc (e :: es) ρ μ (callK prog w hb k (.builtin id) P)) (hd : (f == ("__debug__" : Str)) = false := by decide)
    (he : ∀ env, starEach (e :: es) env = (false, eval e env) :: starEach es env := by intro _; rfl) (hp : ∀ env pos, (backTo pos (starEach es env)).any (·.1) = false := by intro _ _; rfl) :
    WE prog w hb k sc (.Call (.Name f fp) (e :: es) [] pos) ρ μ P := fun A env X s Q E h1 h2 C F hQ => by
  obtain ⟨p, loose, mg, mb, T⟩ := Y.top
  refine wpAny_Call_ofName (Name_function_global F.kind (by rw [← hk, ← h1]; rfl) (loadGlobal_builtin (by rw [F.glob]; exact C.ns T.g) (mg_none_of Y.kin T.g hf) (by rw [F.blt]; exact C.ns T.b) ((T.builtins f hn).trans hv) ?_) hd)
  refine PyProof.Rows.callWith_builtin1 (H A env X s pos _ E h1 h2 C F ?_) (he env) (hp env pos)
  intro vs g tk Us μ1 p1 n rs
  exact p1 A X _ vs Q E h2 (C.nxt n) rs fun v g2 tk2 U μ2 p2 n2 r => hQ v g2 tk2 U μ2 p2 (n.trans n2) r
theorem WE.callT {f : Str} {fp : Pos} {id : String} (Y : Wd K hb) (hk : sc.names.lookup f = some .globalImplicit) (hf : nsIn K mainGlobals f = some none) (hv : bootBuiltins f = some (.type id)) (hn : f ≠ "__name__") {e : Expr} {es : List Expr}
    (H : WEs prog w hb k sc (e :: es) ρ μ (callK prog w hb k (.type id) P)) (hd : (f == ("__debug__" : Str)) = false := by decide)
    (he : ∀ env, starEach (e :: es) env = (false, eval e env) :: starEach es env := by intro _; rfl) (hp : ∀ env pos, (backTo pos (starEach es env)).any (·.1) = false := by intro _ _; rfl) :
    WE prog w hb k sc (.Call (.Name f fp) (e :: es) [] pos) ρ μ P := fun A env X s Q E h1 h2 C F hQ => by
  obtain ⟨p, loose, mg, mb, T⟩ := Y.top
  refine wpAny_Call_ofName (Name_function_global F.kind (by rw [← hk, ← h1]; rfl) (loadGlobal_builtin (by rw [F.glob]; exact C.ns T.g) (mg_none_of Y.kin T.g hf) (by rw [F.blt]; exact C.ns T.b) ((T.builtins f hn).trans hv) ?_) hd)
  refine PyProof.Rows.callWith_type1 (H A env X s pos _ E h1 h2 C F ?_) (he env) (hp env pos)
  intro vs g tk Us μ1 p1 n rs
  exact p1 A X _ vs Q E h2 (C.nxt n) rs fun v g2 tk2 U μ2 p2 n2 r => hQ v g2 tk2 U μ2 p2 (n.trans n2) r

theorem WC.min {a b : Int} (hP : P (.d (.int (if b < a then b else a))) μ) : WC prog w hb k (.builtin "min") [.d (.int a), .d (.int b)] μ P := by
  intro A X s vs Q E h2 C rs hQ
  cases rs with | cons r1 rs => cases rs with | cons r2 rs =>
    cases rs
    obtain ⟨t, rfl⟩ := RD.int_inv r1
    obtain ⟨u, rfl⟩ := RD.int_inv r2
    refine min_two_ints h2.handled fun g tk kk => ?_
    have q := fun tok => hQ (.int (if b < a then b else a) tok) g tk _ μ hP (.keeps C.mu kk) (.int _ tok)
    by_cases c : b < a
    · rw [if_pos c]; simp only [if_pos c] at q; exact q u
    · rw [if_neg c]; simp only [if_neg c] at q; exact q t
theorem WC.abs {a : Int} (hP : P (.d (.int (if a < 0 then -a else a))) μ) : WC prog w hb k (.builtin "abs") [.d (.int a)] μ P := by
  intro A X s vs Q E h2 C rs hQ
  cases rs with | cons r1 rs =>
    cases rs
    obtain ⟨t, rfl⟩ := RD.int_inv r1
    exact PyProof.Rows.call_abs_int fun u tk => hQ _ s.heap tk _ μ hP (.refl C.mu) (.int _ _)
theorem WC.len {xs : List PyData} (hz : xs.length ≤ 1000) (hP : P (.d (.int xs.length)) μ) : WC prog w hb k (.builtin "len") [.d (.list xs)] μ P := by
  intro A X s vs Q E h2 C rs hQ
  cases rs with | cons r1 rs =>
    cases rs
    obtain ⟨a, vs, n, rfl, n1, e1, q1⟩ := RD.list_inv r1
    have l1 := q1.length
    have hL : s.heap.IsList a vs.toArray := ⟨_, e1, rfl, n, rfl⟩
    refine PyProof.Rows.len_list hL (by rw [List.size_toArray, l1]; omega) ?_
    have q := hQ (.int ((vs.toArray.size : Nat) : Int) (s.toks + 1)) s.heap (s.toks + 1 + 1) (.d (.int xs.length)) μ hP (.refl C.mu) (by rw [List.size_toArray, l1]; exact .int _ _)
    exact q

/-- an iterator over data -/
noncomputable def ItLive : Bool → Heap → Addr → Prop
  | true, h, I => ∃ l j, h.IsListIter I l j
  | false, h, I => ∃ o, h.get? I = some o
theorem ItLive.live {B : Bool} {I : Addr} (l : ItLive B h I) : ∃ o, h.get? I = some o := by
  cases B with
  | true => obtain ⟨_, _, o, e, _⟩ := l; exact ⟨o, e⟩
  | false => exact l
structure ItAt (prog : Program) (w : World) (B : Bool) (X : Addr → Prop) (I : Addr) (ds : List PyData) (i : Nat) (h : Heap) : Prop where
  inX : X I
  walks : ∃ (fp : List Addr) (Pv : Nat → Value → Prop) (St : Nat → Heap → Prop), (∀ A : Around, A.handled = none → Walks prog w A I fp [I] ds.length Pv St) ∧ St i h ∧ (∀ b ∈ fp, b = I ∨ (¬ X b ∧ ∃ o, h.get? b = some o)) ∧ (∀ j v, Pv j v → ∃ d, ds[j]? = some d ∧ RD X h v d) ∧ (∀ j h, St j h → ItLive B h I)
theorem ItAt.live {B : Bool} {I : Addr} {ds : List PyData} {i : Nat} (T : ItAt prog w B X I ds i h) : ItLive B h I := by
  obtain ⟨x, fp, Pv, St, W, st, hf, hv, hl⟩ := T
  exact hl _ _ st
theorem ItAt.ext {B : Bool} {Z : Addr → Prop} {I : Addr} {ds : List PyData} {i : Nat} (T : ItAt prog w B X I ds i h) (E : Ext Z h h') (k : ∀ a, Z a → X a) (hI : ¬ Z I) : ItAt prog w B X I ds i h' := by
  obtain ⟨x, fp, Pv, St, W, st, hf, hv, hl⟩ := T
  refine ⟨x, fp, Pv, St, W, ?_, fun b hb => ?_, fun j v p => ?_, hl⟩
  · refine (W { handled := .none } rfl).frame i h h' st fun b hb o e => E.1 b o (fun nb => ?_) e
    rcases hf b hb with rfl | ⟨nx, _⟩
    · exact hI nb
    · exact nx (k b nb)
  · rcases hf b hb with rfl | ⟨nx, o, e⟩
    · exact .inl rfl
    · exact .inr ⟨nx, o, E.1 b o (fun q => nx (k b q)) e⟩
  · obtain ⟨d, ed, rd⟩ := hv j v p
    exact ⟨d, ed, rd.ext E k⟩
theorem ItAt.next {B : Bool} {I : Addr} {ds : List PyData} {i : Nat} {A : Around} {Q : Option Value → Shared → Prop} {E : Value → Shared → Prop} (T : ItAt prog w B X I ds i s.heap) (hA : A.handled = none) (hi : i ≤ ds.length)
    (h1 : ∀ v d h' tk, ds[i]? = some d → (∀ b o, b ≠ I → s.heap.get? b = some o → h'.get? b = some o) → RD X h' v d → ItAt prog w B X I ds (i + 1) h' → Q (some v) { s with heap := h', toks := tk })
    (h0 : ∀ h' tk, i = ds.length → (∀ b o, b ≠ I → s.heap.get? b = some o → h'.get? b = some o) → Q none { s with heap := h', toks := tk }) :
    wpAny (model prog w) A (pyNext (.ref I)) Q E s := by
  obtain ⟨x, fp, Pv, St, W, st, hf, hv, hl⟩ := T
  by_cases c : i < ds.length
  · refine (W A hA).item i s Q E c st fun v h' tk pv st' hk => ?_
    have hk' : ∀ b o, b ≠ I → s.heap.get? b = some o → h'.get? b = some o := fun b o n e => hk b o (by simp [n]) e
    obtain ⟨d, ed, rd⟩ := hv i v pv
    have up : ∀ v d, RD X s.heap v d → RD X h' v d := fun v d r => r.mono fun a o n e => ⟨n, hk' a o (fun q => n (q ▸ x)) e⟩
    refine h1 v d h' tk ed hk' (up v d rd) ⟨x, fp, Pv, St, W, st', fun b hb => ?_, fun j u p => ?_, hl⟩
    · rcases hf b hb with rfl | ⟨nx, o, e⟩
      · exact .inl rfl
      · exact .inr ⟨nx, o, hk' b o (fun q => nx (q ▸ x)) e⟩
    · obtain ⟨d', ed', rd'⟩ := hv j u p
      exact ⟨d', ed', up u d' rd'⟩
  · have hi' : i = ds.length := by omega
    subst hi'
    exact (W A hA).done s Q E st fun h' tk hk => h0 h' tk rfl fun b o n e => hk b o (by simp [n]) e

/-- what a loop runs over -/
noncomputable abbrev plus (X : Addr → Prop) (I : Addr) : Addr → Prop := fun a => X a ∨ a = I
noncomputable def WI (prog : Program) (w : World) (hb : Heap) (B : Bool) (k : Nat) (sc : Scope) (e : Expr) (ρ : Str → Option V) (μ : Mut) (P : List PyData → Mut → Prop) : Prop :=
  ∀ (A : Around) (env : Env) (X : Addr → Prop) (s : Shared) (Q E : Value → Shared → Prop), env.scope = sc → Room A k → Cs hb X μ s.heap → Fm X env ρ μ s.heap →
    (∀ I h' tk ds μ', P ds μ' → Nxt X μ s.heap μ' h' → HasMut (plus X I) h' μ' → s.heap.get? I = none → hb.get? I = none → ItAt prog w B (plus X I) I ds 0 h' → Q (.ref I) { s with heap := h', toks := tk }) →
    wpAny (model prog w) A (eval e env) (fun xv s₁ => wpAny (model prog w) A (pyIter xv) Q E s₁) E s

theorem RD.plus {I : Addr} {v : Value} {d : PyData} (r : RD X h v d) (n : h.get? I = .none) : RD (plus X I) h v d :=
  r.mono fun a o nx e => ⟨fun q => q.elim nx fun q => (by rw [q, n] at e; cases e), e⟩
theorem RDs.plus {I : Addr} {vs : List Value} {ds : List PyData} (r : RDs X h vs ds) (n : h.get? I = .none) : RDs (plus X I) h vs ds :=
  r.mono fun a o nx e => ⟨fun q => q.elim nx fun q => (by rw [q, n] at e; cases e), e⟩
theorem HasMut.plus {I : Addr} (H : HasMut X h μ) (n : h.get? I = .none) : HasMut (plus X I) h μ :=
  H.map (fun _ _ m e => ⟨.inl (H.inX m), e⟩) fun a o nx e => ⟨fun q => q.elim nx fun q => (by rw [q, n] at e; cases e), e⟩
theorem HasMut.unplus {X' : Addr → Prop} (H : HasMut X' h μ) (k : ∀ a, X a → X' a) (m : ∀ a, μ.M a → X a) : HasMut X h μ :=
  H.map (fun a _ q e => ⟨m a q, e⟩) fun a o n e => ⟨fun q => n (k a q), e⟩
theorem RV.plus {I : Addr} {v : Value} {U : V} (r : RV X h μ v U) (n : h.get? I = .none) : RV (plus X I) h μ v U := by
  cases U with
  | d x => exact RD.plus r n
  | box => exact r
  | tab => exact r
theorem RV.sub {X' : Addr → Prop} {v : Value} {U : V} (r : RV X' h μ v U) (k : ∀ a, X a → X' a) : RV X h μ v U := by
  cases U with
  | d x => exact RD.sub r k
  | box => exact r
  | tab => exact r
theorem Fm.plus {I : Addr} (F : Fm X env ρ μ h) (n : h.get? I = .none) : Fm (plus X I) env ρ μ h where
  kind := F.kind
  glob := F.glob
  blt := F.blt
  loc := ⟨.inl F.loc.1, F.loc.2⟩
  cells := fun x c e => by obtain ⟨a, b⟩ := F.cells x c e; exact ⟨.inl a, b⟩
  cinj := F.cinj
  ns := by
    obtain ⟨m, hn, k⟩ := F.ns
    refine ⟨m, hn, fun x U hx => ?_⟩
    rcases k x U hx with ⟨h1, v, h2, h3⟩ | ⟨h1, c, o, v, h2, h3, h4, h5⟩
    · exact .inl ⟨h1, v, h2, h3.plus n⟩
    · exact .inr ⟨h1, c, o, v, h2, h3, h4, h5.plus n⟩
theorem Fm.unplus {X' : Addr → Prop} (F : Fm X' env ρ μ h) (k : ∀ a, X a → X' a) (o : ∀ a, Own env a → X a) : Fm X env ρ μ h where
  kind := F.kind
  glob := F.glob
  blt := F.blt
  loc := ⟨o _ (.inl rfl), F.loc.2⟩
  cells := fun x c e => by obtain ⟨a, b⟩ := F.cells x c e; exact ⟨o _ (.inr ⟨x, e⟩), b⟩
  cinj := F.cinj
  ns := by
    obtain ⟨m, hn, kk⟩ := F.ns
    refine ⟨m, hn, fun x U hx => ?_⟩
    rcases kk x U hx with ⟨h1, v, h2, h3⟩ | ⟨h1, c, o, v, h2, h3, h4, h5⟩
    · exact .inl ⟨h1, v, h2, h3.sub k⟩
    · exact .inr ⟨h1, c, o, v, h2, h3, h4, h5.sub k⟩
theorem newGet (h : Heap) : h.get? h.objs.size = .none := Heap.get?_none_of_le (Nat.le_refl _)
theorem ItAt.plus {B : Bool} {J I : Addr} {ds : List PyData} {i : Nat} (T : ItAt prog w B X I ds i h) (n : h.get? J = .none) : ItAt prog w B (plus X J) I ds i h := by
  obtain ⟨x, fp, Pv, St, W, st, hf, hv, hl⟩ := T
  refine ⟨.inl x, fp, Pv, St, W, st, fun b hb => ?_, fun j v p => ?_, hl⟩
  · rcases hf b hb with rfl | ⟨nx, o, e⟩
    · exact .inl rfl
    · exact .inr ⟨fun q => q.elim nx fun q => (by rw [q, n] at e; cases e), o, e⟩
  · obtain ⟨d, e, r⟩ := hv j v p
    exact ⟨d, e, r.plus n⟩
theorem Cs.fresh (C : Cs hb X μ h) {a : Addr} (n : h.get? a = .none) : hb.get? a = .none := by
  cases q : hb.get? a with
  | none => rfl
  | some o => rw [C.base a o q] at n; cases n
theorem Nxt.fresh {a : Addr} (x : Nxt X μ h μ' h') (n : h'.get? a = .none) : h.get? a = .none := by
  cases q : h.get? a with
  | none => rfl
  | some o => obtain ⟨o', e⟩ := x.ext.2 a o q; rw [e] at n; cases n
noncomputable def listK (P : List PyData → Mut → Prop) (U : V) (μ : Mut) : Prop := ∃ ds, U = .d (.list ds) ∧ P ds μ
noncomputable def tuplK (P : List PyData → Mut → Prop) (U : V) (μ : Mut) : Prop := ∃ ds, U = .d (.tuple ds) ∧ P ds μ
noncomputable def rangeK (P : List PyData → Mut → Prop) (U : V) (μ : Mut) : Prop := ∃ n : Nat, U = .d (.int n) ∧ n ≤ 1000 ∧ P ((List.range n).map fun i => .int (i : Nat)) μ
theorem listK.mk {P : List PyData → Mut → Prop} {ds : List PyData} (h : P ds μ) : listK P (.d (.list ds)) μ := ⟨_, rfl, h⟩
theorem tuplK.mk {P : List PyData → Mut → Prop} {ds : List PyData} (h : P ds μ) : tuplK P (.d (.tuple ds)) μ := ⟨_, rfl, h⟩
theorem rangeK.mk {P : List PyData → Mut → Prop} {i : Int} {n : Nat} (e : i = n) (h : n ≤ 1000 ∧ P ((List.range n).map fun i => .int (i : Nat)) μ) : rangeK P (.d (.int i)) μ := ⟨n, by rw [e], h⟩
theorem WI.list {e : Expr} {P : List PyData → Mut → Prop} (H : WE prog w hb k sc e ρ μ (listK P)) : WI prog w hb true k sc e ρ μ P := fun A env X s Q E h1 h2 C F hQ => by
  refine H A env X s _ E h1 h2 C F ?_
  rintro v g tk U μ' ⟨ds, rfl, p⟩ n r
  obtain ⟨a, vs, nn, rfl, nx, e1, q⟩ := RD.list_inv r
  have hL : g.IsList a vs.toArray := ⟨_, e1, rfl, nn, rfl⟩
  refine wpAny_pyIter_list (s := { s with heap := g, toks := tk }) hL ?_
  have Cg := C.nxt n
  have up : ∀ b o, g.get? b = some o → (g.push { cls := .type "list_iterator", data := .fields #[.ref a, .int 0 0] }).get? b = some o := fun b o e => Heap.get?_push_of_some _ e
  have hne : a ≠ g.objs.size := Nat.ne_of_lt (Heap.lt_size e1)
  have hlen := q.length
  have hW : ∀ A' : Around, A'.handled = Option.none → Walks prog w A' g.objs.size [g.objs.size, a] [g.objs.size] ds.length (fun i v => vs.toArray[i]? = some v) (fun i h => h.IsListIter g.objs.size a i ∧ h.IsList a vs.toArray) := fun A' hA' => by
    have := Walks.list (prog := prog) (w := w) (A := A') hA' g.objs.size a hne vs.toArray
    rw [show vs.toArray.size = ds.length by rw [List.size_toArray, hlen]] at this
    exact this
  refine hQ g.objs.size _ tk ds μ' p (n.trans (.push n.mu _)) (Nxt.push (n.mu.plus (newGet g)) _).mu (n.fresh (newGet g)) (Cg.fresh (newGet g)) ⟨.inr rfl, [g.objs.size, a], _, _, hW, ⟨⟨_, Heap.get?_push_size _ rfl, rfl, rfl⟩, ⟨_, up _ _ e1, rfl, nn, rfl⟩⟩, ?_, ?_, ?_⟩
  · intro b hb
    simp only [List.mem_cons, List.not_mem_nil, or_false] at hb
    rcases hb with rfl | rfl
    · exact .inl rfl
    · exact .inr ⟨fun x => x.elim nx fun x => hne x, _, up _ _ e1⟩
  · intro j v hv
    have hj : j < vs.length := by
      have := (Array.getElem?_eq_some_iff.mp hv).1
      simpa using this
    have hd : ds[j]? = some (ds[j]'(hlen ▸ hj)) := by simp [hlen ▸ hj]
    obtain ⟨v', ev, rv⟩ := q.get hd
    have hv' : v' = v := by
      have : vs[j]? = some v := by simpa using hv
      rw [ev] at this; exact Option.some.inj this
    subst hv'
    exact ⟨_, hd, (rv.plus (newGet g)).mono fun a o n e => ⟨n, up a o e⟩⟩
  · rintro j h ⟨hi, _⟩
    exact ⟨_, _, hi⟩
theorem WI.tuple {e : Expr} {P : List PyData → Mut → Prop} (H : WE prog w hb k sc e ρ μ (tuplK P)) : WI prog w hb false k sc e ρ μ P := fun A env X s Q E h1 h2 C F hQ => by
  refine H A env X s _ E h1 h2 C F ?_
  rintro v g tk U μ' ⟨ds, rfl, p⟩ n r
  obtain ⟨a, vs, nn, rfl, nx, e1, q⟩ := RD.tuple_inv r
  have hL : g.IsTuple a vs.toArray := ⟨_, e1, rfl, nn, rfl⟩
  refine wpAny_pyIter_tuple (s := { s with heap := g, toks := tk }) hL ?_
  have Cg := C.nxt n
  have up : ∀ b o, g.get? b = some o → (g.push { cls := .type "tuple_iterator", data := .fields #[.ref a, .int 0 0] }).get? b = some o := fun b o e => Heap.get?_push_of_some _ e
  have hne : a ≠ g.objs.size := Nat.ne_of_lt (Heap.lt_size e1)
  have hlen := q.length
  have hW : ∀ A' : Around, A'.handled = Option.none → Walks prog w A' g.objs.size [g.objs.size, a] [g.objs.size] ds.length (fun i v => vs.toArray[i]? = some v) (fun i h => h.IsTupleIter g.objs.size a i ∧ h.IsTuple a vs.toArray) := fun A' hA' => by
    have := Walks.tuple (prog := prog) (w := w) (A := A') hA' g.objs.size a hne vs.toArray
    rw [show vs.toArray.size = ds.length by rw [List.size_toArray, hlen]] at this
    exact this
  refine hQ g.objs.size _ tk ds μ' p (n.trans (.push n.mu _)) (Nxt.push (n.mu.plus (newGet g)) _).mu (n.fresh (newGet g)) (Cg.fresh (newGet g)) ⟨.inr rfl, [g.objs.size, a], _, _, hW, ⟨⟨_, Heap.get?_push_size _ rfl, rfl, rfl⟩, ⟨_, up _ _ e1, rfl, nn, rfl⟩⟩, ?_, ?_, ?_⟩
  · intro b hb
    simp only [List.mem_cons, List.not_mem_nil, or_false] at hb
    rcases hb with rfl | rfl
    · exact .inl rfl
    · exact .inr ⟨fun x => x.elim nx fun x => hne x, _, up _ _ e1⟩
  · intro j v hv
    have hj : j < vs.length := by
      have := (Array.getElem?_eq_some_iff.mp hv).1
      simpa using this
    have hd : ds[j]? = some (ds[j]'(hlen ▸ hj)) := by simp [hlen ▸ hj]
    obtain ⟨v', ev, rv⟩ := q.get hd
    have hv' : v' = v := by
      have : vs[j]? = some v := by simpa using hv
      rw [ev] at this; exact Option.some.inj this
    subst hv'
    exact ⟨_, hd, (rv.plus (newGet g)).mono fun a o n e => ⟨n, up a o e⟩⟩
  · rintro j h ⟨⟨o, ho, _⟩, _⟩
    exact ⟨o, ho⟩
theorem WI.range {fp : Pos} {e : Expr} {P : List PyData → Mut → Prop} (Y : Wd K hb) (hk : sc.names.lookup ("range" : Str) = some .globalImplicit) (hf : nsIn K mainGlobals ("range" : Str) = some .none)
    (H : WE prog w hb k sc e ρ μ (rangeK P))
    (he : ∀ env, starEach [e] env = (false, eval e env) :: starEach [] env := by intro _; rfl) : WI prog w hb false k sc (.Call (.Name ("range" : Str) fp) [e] [] pos) ρ μ P := fun A env X s Q E h1 h2 C F hQ => by
  obtain ⟨p, loose, mg, mb, T⟩ := Y.top
  refine wpAny_Call_ofName (Name_function_global F.kind (by rw [← hk, ← h1]; rfl) (loadGlobal_builtin (by rw [F.glob]; exact C.ns T.g) (mg_none_of Y.kin T.g hf) (by rw [F.blt]; exact C.ns T.b) ((T.builtins ("range" : Str) (by decide)).trans rfl) ?_))
  refine PyProof.Rows.callWith_type1 ?_ (he env) rfl
  rw [he env]
  refine spliced_cons (H A env X s _ E h1 h2 C F ?_)
  rintro v g tk U μ' ⟨n, rfl, hn, p⟩ x r
  obtain ⟨t, rfl⟩ := RD.int_inv r
  refine spliced_nil (call_range_1 ?_)
  have hr : IsRange (g.push { cls := .type "range", data := .fields #[.int 0 tk, .int n t, .int 1 (tk + 1)] }) g.objs.size 0 n 1 tk t (tk + 1) := Heap.get?_push_size _ rfl
  refine wpAny_pyIter_range (s := { s with heap := g.push { cls := .type "range", data := .fields #[.int 0 tk, .int n t, .int 1 (tk + 1)] }, toks := tk + 1 + 1 }) hr (small_one (by decide) (by decide) (by omega) (by omega)) ?_
  have e0 : Builtin.Range.rangeSize 0 (n : Int) 1 = (n : Int) := by rw [rangeSize_one]; split <;> omega
  rw [e0]
  have n1 : Nxt X μ' g μ' (g.push { cls := .type "range", data := .fields #[.int 0 tk, .int n t, .int 1 (tk + 1)] }) := .push x.mu _
  have n2 : Nxt X μ' g μ' ((g.push { cls := .type "range", data := .fields #[.int 0 tk, .int n t, .int 1 (tk + 1)] }).push { cls := .type "range_iterator", data := .fields #[rawInt 0, rawInt n, rawInt 1] }) := n1.trans (.push n1.mu _)
  have hW : ∀ A' : Around, A'.handled = Option.none → Walks prog w A' (g.push { cls := .type "range", data := .fields #[.int 0 tk, .int n t, .int 1 (tk + 1)] }).objs.size [(g.push { cls := .type "range", data := .fields #[.int 0 tk, .int n t, .int 1 (tk + 1)] }).objs.size] [(g.push { cls := .type "range", data := .fields #[.int 0 tk, .int n t, .int 1 (tk + 1)] }).objs.size] (((List.range n).map fun i => PyData.int (i : Nat))).length (fun i v => i < n ∧ ∃ t, v = .int (0 + i * 1) t) (fun i h => IsRangeIter h (g.push { cls := .type "range", data := .fields #[.int 0 tk, .int n t, .int 1 (tk + 1)] }).objs.size (0 + (i : Nat) * 1) ((n : Int) - (i : Nat)) 1) := fun A' hA' => by
    have := (Walks.range (prog := prog) (w := w) (A := A') hA' (g.push { cls := .type "range", data := .fields #[.int 0 tk, .int n t, .int 1 (tk + 1)] }).objs.size 0 1 n).bound
    simpa using this
  refine hQ _ _ _ _ μ' p (x.trans n2) (Nxt.push (n1.mu.plus (newGet _)) _).mu (x.fresh (n1.fresh (newGet _))) ((C.nxt (x.trans n1)).fresh (newGet _)) ⟨.inr rfl, _, _, _, hW, ?_, ?_, ?_, ?_⟩
  · have := Heap.get?_push_size (g.push { cls := .type "range", data := .fields #[.int 0 tk, .int n t, .int 1 (tk + 1)] }) (o := { cls := .type "range_iterator", data := .fields #[rawInt 0, rawInt n, rawInt 1] }) rfl
    simpa [IsRangeIter] using this
  · intro b hb
    simp only [List.mem_cons, List.not_mem_nil, or_false] at hb
    exact .inl hb
  · rintro j v ⟨hj, t', rfl⟩
    exact ⟨.int (j : Nat), by simp [hj], by simpa using RD.int (j : Int) t'⟩
  · intro j h hi
    exact ⟨_, hi⟩
end
section
variable {prog : Program} {w : World} {hb : Heap} {K : Frag} {X : Addr → Prop} {μ μ' : Mut} {h h' : Heap} {s : Shared} {env : Env} {ρ : Str → Option V}
variable {k : Nat} {sc : Scope} {N : (Str → Option V) → Mut → Prop} {R P : V → Mut → Prop} {pos : Pos}

theorem Cs.isLive (C : Cs hb X μ h) {a : Addr} (m : X a) : h.get? a ≠ none := by
  obtain ⟨o, e⟩ := C.live a m
  rw [e]; intro c; cases c

noncomputable abbrev ZI (env : Env) (μ0 : Mut) (I : Addr) : Addr → Prop := fun a => μ0.M a ∨ Own env a ∨ a = I

/-- the state inside a loop that began at g with μ0 -/
structure InLoop (prog : Program) (w : World) (hb : Heap) (B : Bool) (X : Addr → Prop) (env : Env) (I : Addr) (ds : List PyData) (μ0 : Mut) (g : Heap) (i : Nat) (ρ' : Str → Option V) (μ' : Mut) (h' : Heap) : Prop where
  cs : Cs hb (plus X I) μ' h'
  fm : Fm (plus X I) env ρ' μ' h'
  it : ItAt prog w B (plus X I) I ds i h'
  ext : Ext (ZI env μ0 I) g h'
  same : μ0.Same μ'

variable {B : Bool} {I : Addr} {ds : List PyData} {μ0 : Mut} {g g1 : Heap} {i : Nat} {ρ' : Str → Option V}

/-- entering -/
theorem InLoop.enter (C : Cs hb X μ s.heap) (F : Fm X env ρ μ s.heap) (nx : Nxt X μ s.heap μ0 g) (hm : HasMut (plus X I) g μ0) (fr : s.heap.get? I = none) (hbI : hb.get? I = none)
    (it : ItAt prog w B (plus X I) I ds 0 g) : InLoop prog w hb B X env I ds μ0 g 0 ρ μ0 g := by
  have Cg := C.nxt nx
  refine ⟨⟨Cg.base, fun a x => ?_, hm⟩, ?_, it, .refl _ _, .refl _⟩
  · rcases x with x | rfl
    · exact Cg.xs a x
    · exact ⟨hbI, it.live.live⟩
  · exact (F.plus fr).nxt (C.mu.plus fr) ⟨nx.ext, hm, nx.same⟩
/-- I is nothing of the frame's -/
theorem InLoop.apart (C : Cs hb X μ s.heap) (F : Fm X env ρ μ s.heap) (nx : Nxt X μ s.heap μ0 g) (fr : s.heap.get? I = none) : ∀ a, μ0.M a ∨ Own env a → a ≠ I := by
  intro a m e
  have x : X a := m.elim (fun m => C.mu.inX ((nx.same.M a).mp m)) fun o => F.own o
  exact C.isLive x (e ▸ fr)
/-- the iterator's step -/
theorem InLoop.next (L : InLoop prog w hb B X env I ds μ0 g i ρ' μ h) (hI : ∀ a, μ0.M a ∨ Own env a → a ≠ I) (kk : ∀ b o, b ≠ I → h.get? b = some o → g1.get? b = some o) (lv : ∃ o, g1.get? I = some o) :
    Cs hb (plus X I) μ g1 ∧ Fm (plus X I) env ρ' μ g1 ∧ Ext (ZI env μ0 I) g g1 := by
  have E1 : Ext (fun a => a = I) h g1 := ⟨fun b o n e => kk b o n e, fun b o e => by
    by_cases q : b = I
    · subst q; exact lv
    · exact ⟨o, kk b o q e⟩⟩
  have hI' : ∀ a, μ.M a ∨ Own env a → a ≠ I := fun a m => hI a (m.imp (L.same.M a).mp id)
  have hm : HasMut (plus X I) g1 μ := L.cs.mu.ext E1 (fun a e => .inr e) fun a e m => hI' a (.inl m) e
  refine ⟨⟨fun b o e => kk b o (fun q => ?_) (L.cs.base b o e), fun a x => ⟨(L.cs.xs a x).1, ?_⟩, hm⟩, ?_, L.ext.trans (E1.sub fun b o _ e => .inr (.inr e))⟩
  · have := (L.cs.xs b (.inr q)).1
    rw [this] at e; cases e
  · obtain ⟨o, e⟩ := (L.cs.xs a x).2; exact E1.2 a o e
  · have F := L.fm
    refine ⟨F.kind, F.glob, F.blt, F.loc, fun x c e => ?_, F.cinj, ?_⟩
    · obtain ⟨a, b, cc, o, v, d, e'⟩ := F.cells x c e
      exact ⟨a, b, cc, o, v, kk c o (hI' c (.inr (.inr ⟨x, e⟩))) d, e'⟩
    · obtain ⟨m, ⟨o, es, ep, e, r⟩, kf⟩ := F.ns
      refine ⟨m, ⟨o, es, ep, kk _ o (hI' _ (.inr (.inl rfl))) e, r⟩, fun x U hx => ?_⟩
      have up : ∀ v U, RV (plus X I) h μ v U → RV (plus X I) g1 μ v U := fun v U r => r.ext E1 (fun a e => .inr e) (.refl _)
      rcases kf x U hx with ⟨h1, v, h2, h3⟩ | ⟨h1, c, o, v, h2, h3, h4, h5⟩
      · exact .inl ⟨h1, v, h2, up _ _ h3⟩
      · exact .inr ⟨h1, c, o, v, h2, kk c o (hI' c (.inr (.inr ⟨x, h2⟩))) h3, h4, up _ _ h5⟩
/-- leaving -/
theorem InLoop.leave {μ1 : Mut} {h1 : Heap} (C : Cs hb X μ s.heap) (F : Fm X env ρ μ s.heap) (nx : Nxt X μ s.heap μ0 g) (fr : s.heap.get? I = none) (ex : Ext (ZI env μ0 I) g h1) (sm : μ0.Same μ1) (hm : HasMut (plus X I) h1 μ1) : NxtS X env μ s.heap μ1 h1 := by
  refine ⟨⟨fun b o n e => ?_, fun b o e => ?_⟩, hm.unplus (fun _ a => .inl a) fun a m => C.mu.inX ((nx.same.M a).mp ((sm.M a).mp m)), nx.same.trans sm⟩
  · refine ex.1 b o (fun z => ?_) (nx.ext.1 b o (fun m => n (.inl m)) e)
    rcases z with z | z | z
    · exact n (.inl ((nx.same.M b).mp z))
    · exact n (.inr z)
    · rw [z, fr] at e; cases e
  · obtain ⟨o', e'⟩ := nx.ext.2 b o e
    exact ex.2 b o' e'
theorem InLoop.body {μ1 μ2 : Mut} {g2 : Heap} {ρ2 : Str → Option V} (hI : ∀ a, μ0.M a ∨ Own env a → a ≠ I) (hX : ∀ a, μ0.M a ∨ Own env a → X a) (C1 : Cs hb (plus X I) μ1 g1) (F1 : Fm (plus X I) env ρ' μ1 g1) (it : ItAt prog w B (plus X I) I ds i g1) (ex : Ext (ZI env μ0 I) g g1) (sm : μ0.Same μ1)
    (n : NxtS (plus X I) env μ1 g1 μ2 g2) (F2 : Fm (plus X I) env ρ2 μ2 g2) : InLoop prog w hb B X env I ds μ0 g i ρ2 μ2 g2 := by
  have tr : ∀ a, μ1.M a ∨ Own env a → μ0.M a ∨ Own env a := fun a m => m.imp (sm.M a).mp id
  refine ⟨C1.nxtS F1 n, F2, it.ext n.ext (fun a m => .inl (hX a (tr a m))) (fun m => hI I (tr I m) rfl), ex.trans (n.ext.sub fun b o _ m => ?_), sm.trans n.same⟩
  rcases tr b m with m | m
  · exact .inl m
  · exact .inr (.inl m)

theorem InLoop.exit (L : InLoop prog w hb B X env I ds μ0 g i ρ' μ' h') (C : Cs hb X μ s.heap) (F : Fm X env ρ μ s.heap) (nx : Nxt X μ s.heap μ0 g) (fr : s.heap.get? I = none) (ap : ∀ a, μ0.M a ∨ Own env a → a ≠ I) (hX : ∀ a, μ0.M a ∨ Own env a → X a) (kk : ∀ b o, b ≠ I → h'.get? b = some o → g1.get? b = some o) :
    NxtS X env μ s.heap μ' g1 ∧ Fm X env ρ' μ' g1 := by
  have Fo := L.fm
  have hI' : ∀ a, μ'.M a ∨ Own env a → a ≠ I := fun a m => ap a (m.imp (L.same.M a).mp id)
  have up : ∀ v d, RD (plus X I) h' v d → RD (plus X I) g1 v d := fun v d r => r.mono fun a o n e => ⟨n, kk a o (fun q => n (.inr q)) e⟩
  have upV : ∀ v U, RV (plus X I) h' μ' v U → RV (plus X I) g1 μ' v U := fun v U r => by
    cases U with
    | d x => exact up v x r
    | box => exact r
    | tab => exact r
  have hm1 : HasMut (plus X I) g1 μ' := L.cs.mu.map (fun a o m e => ⟨L.cs.mu.inX m, kk a o (hI' a (.inl m)) e⟩) fun a o n e => ⟨n, kk a o (fun q => n (.inr q)) e⟩
  have Xm : ∀ a, μ'.M a → X a := fun a m => hX a (.inl ((L.same.M a).mp m))
  refine ⟨⟨⟨fun b o n e => ?_, fun b o e => ?_⟩, hm1.unplus (fun _ a => .inl a) Xm, nx.same.trans L.same⟩, ?_⟩
  · have hb' := (InLoop.leave C F nx fr L.ext L.same L.cs.mu).ext.1 b o n e
    exact kk b o (fun q => by rw [q, fr] at e; cases e) hb'
  · obtain ⟨o', e'⟩ := (InLoop.leave C F nx fr L.ext L.same L.cs.mu).ext.2 b o e
    exact ⟨o', kk b o' (fun q => by rw [q, fr] at e; cases e) e'⟩
  refine ⟨F.kind, F.glob, F.blt, ⟨F.loc.1, Fo.loc.2⟩, fun x c e => ?_, F.cinj, ?_⟩
  · obtain ⟨a, b, cc, o, v, d, e'⟩ := Fo.cells x c e
    exact ⟨(F.cells x c e).1, b, cc, o, v, kk c o (hI' c (.inr (.inr ⟨x, e⟩))) d, e'⟩
  · obtain ⟨m, ⟨o, es, ep, e, r⟩, kf⟩ := Fo.ns
    refine ⟨m, ⟨o, es, ep, kk _ o (hI' _ (.inr (.inl rfl))) e, r⟩, fun x U hx => ?_⟩
    rcases kf x U hx with ⟨q1, v, q2, q3⟩ | ⟨q1, c, o, v, q2, q3, q4, q5⟩
    · exact .inl ⟨q1, v, q2, (upV _ _ q3).sub fun _ a => .inl a⟩
    · exact .inr ⟨q1, c, o, v, q2, kk c o (hI' c (.inr (.inr ⟨x, q2⟩))) q3, q4, (upV _ _ q5).sub fun _ a => .inl a⟩

theorem WX.for {x : Str} {xp : Pos} {iter : Expr} {body : List Stmt} (hk : sc.names.lookup x = some .local ∨ sc.names.lookup x = some .cell)
    (H : WI prog w hb B k sc iter ρ μ fun ds μ0 => ∃ Inv : Nat → (Str → Option V) → Mut → Prop, Inv 0 ρ μ0 ∧
      (∀ i d ρ' μ', ds[i]? = some d → Inv i ρ' μ' → WS prog w hb k sc body (upd ρ' x (.d d)) μ' (Inv (i + 1)) R) ∧ ∀ ρ' μ', Inv ds.length ρ' μ' → N ρ' μ')
    (hs : ∀ env x, foldedSetIterable iter env x = pure x := by intro _ _; rfl) : WX prog w hb k sc (.For (.Name x xp) iter body [] pos) ρ μ N R := fun A env X s Q E h1 h2 C F hN hR => by
  refine wpAny_For (H A env X s _ E h1 h2 C F ?_) (hs env)
  rintro I g tk ds μ0 ⟨Inv, i0, step, fin⟩ nx hm fr hbI it
  have ap := InLoop.apart C F nx fr
  have hX : ∀ a, μ0.M a ∨ Own env a → X a := fun a m => m.elim (fun m => C.mu.inX ((nx.same.M a).mp m)) fun o => F.own o
  refine codeAny_forLoop (fun n s' => ∃ i h' tk' ρ' μ', s' = { s with heap := h', toks := tk' } ∧ n = ds.length + 1 - i ∧ i ≤ ds.length ∧ Inv i ρ' μ' ∧ InLoop prog w hb B X env I ds μ0 g i ρ' μ' h') ?_ (ds.length + 1)
    ⟨0, g, tk, ρ, μ0, rfl, rfl, Nat.zero_le _, i0, InLoop.enter C F nx hm fr hbI it⟩
  rintro n s' ⟨i, h', tk', ρ', μ', rfl, rfl, hi, inv, L⟩
  refine L.it.next (s := { s with heap := h', toks := tk' }) h2.handled hi ?_ ?_
  · intro v d g1 tk1 ed kk rd it1
    obtain ⟨C1, F1, ex1⟩ := L.next ap kk it1.live.live
    have hlt : i < ds.length := (List.getElem?_eq_some_iff.mp ed).1
    refine wpAny_assign_Name (F1.store (s := { s with heap := g1, toks := tk1 }) C1 (hk.elim (fun h => .inl (kind_of_sc h1 h)) fun h => .inr ⟨kind_of_sc h1 h, F1.cinj.2 _ (kind_of_sc h1 h)⟩) (U := .d d) rd ?_)
    intro g2 tk2 n2 F2
    have L2 := InLoop.body ap hX C1 F1 it1 ex1 L.same n2 F2
    refine step i d ρ' μ' ed inv A env _ { s with heap := g2, toks := tk2 } _ _ h1 h2 L2.cs F2 ?_ ?_
    · intro g3 tk3 ρ3 μ3 inv3 n3 F3
      exact ⟨ds.length + 1 - (i + 1), by omega, i + 1, g3, tk3, ρ3, μ3, rfl, rfl, hlt, inv3, InLoop.body ap hX L2.cs F2 L2.it L2.ext L2.same n3 F3⟩
    · intro v3 g3 tk3 U μ3 r3 n3 rv
      have L3e : Ext (ZI env μ0 I) g g3 := L2.ext.trans (n3.ext.sub fun b o _ m => by
        rcases m with m | m
        · exact .inl ((L2.same.M b).mp m)
        · exact .inr (.inl m))
      exact hR v3 g3 tk3 U μ3 r3 (InLoop.leave C F nx fr L3e (L2.same.trans n3.same) n3.mu) (rv.sub fun _ a => .inl a)
  · intro g1 tk1 ei kk
    subst ei
    refine wpAny_execs_nil ?_
    obtain ⟨x1, F1⟩ := L.exit C F nx fr ap hX kk
    exact hN g1 tk1 ρ' μ' (fin ρ' μ' inv) x1 F1

theorem WX.forT {xs : List (Str × Pos)} {kk0 : Nat} {tp : Pos} {iter : Expr} {body : List Stmt} (hk : ∀ x ∈ xs, sc.names.lookup x.1 = some .local ∨ (sc.names.lookup x.1 = some .cell ∧ ∀ (A : Around) env X s ρ μ, Fm X env ρ μ s → env.scope = sc → HasCell env x.1))
    (H : WI prog w hb true k sc iter ρ μ fun ds μ0 => ∃ Inv : Nat → (Str → Option V) → Mut → Prop, Inv 0 ρ μ0 ∧
      (∀ i d ρ' μ', ds[i]? = some d → Inv i ρ' μ' → ∃ es, d = .tuple es ∧ es.length = xs.length ∧ WS prog w hb k sc body (updAll ρ' (xs.map (·.1)) (es.map V.d)) μ' (Inv (i + 1)) R) ∧ ∀ ρ' μ', Inv ds.length ρ' μ' → N ρ' μ')
    (hs : ∀ env x, foldedSetIterable iter env x = pure x := by intro _ _; rfl) : WX prog w hb k sc (.For (.Tuple (xs.map fun q => .Name q.1 q.2) kk0 tp) iter body [] pos) ρ μ N R := fun A env X s Q E h1 h2 C F hN hR => by
  refine wpAny_For (H A env X s _ E h1 h2 C F ?_) (hs env)
  rintro I g tk ds μ0 ⟨Inv, i0, step, fin⟩ nx hm fr hbI it
  have ap := InLoop.apart C F nx fr
  have hX : ∀ a, μ0.M a ∨ Own env a → X a := fun a m => m.elim (fun m => C.mu.inX ((nx.same.M a).mp m)) fun o => F.own o
  refine codeAny_forLoop_any (fun n s' => ∃ i h' tk' ρ' μ', s' = { s with heap := h', toks := tk' } ∧ n = ds.length + 1 - i ∧ i ≤ ds.length ∧ Inv i ρ' μ' ∧ InLoop prog w hb true X env I ds μ0 g i ρ' μ' h') ?_ (ds.length + 1)
    ⟨0, g, tk, ρ, μ0, rfl, rfl, Nat.zero_le _, i0, InLoop.enter C F nx hm fr hbI it⟩
  rintro n s' ⟨i, h', tk', ρ', μ', rfl, rfl, hi, inv, L⟩
  refine L.it.next (s := { s with heap := h', toks := tk' }) h2.handled hi ?_ ?_
  · intro v d g1 tk1 ed kk rd it1
    obtain ⟨C1, F1, ex1⟩ := L.next ap kk it1.live.live
    have hlt : i < ds.length := (List.getElem?_eq_some_iff.mp ed).1
    obtain ⟨es, rfl, hl, st⟩ := step i d ρ' μ' ed inv
    obtain ⟨a, vs, nn, rfl, nxa, e1, q⟩ := RD.tuple_inv rd
    have lv := q.length
    obtain ⟨l, j, hli⟩ := it1.live
    refine wpAny_letOwnedTupleGo_listiter (s := { s with heap := g1, toks := tk1 }) hli ?_
    refine wpAny_assign_Tuple h2.handled ⟨_, e1, rfl, nn, rfl⟩ (by rw [assignEach_names, List.length_map, List.size_toArray, lv, hl]) (by rw [assignEach_names]; simp [List.findIdx?_eq_none_iff]) ?_
    intro g1b hx2
    have up : ∀ b o, g1.get? b = some o → g1b.get? b = some o := fun b o e => hx2 b o (Nat.ne_of_lt (Heap.lt_size e)) e
    have n2 : Nxt (plus X I) μ' g1 μ' g1b := .keeps C1.mu up
    have C2 := C1.nxt n2
    have F2 := F1.nxt C1.mu n2
    have q2 : All2 (RV (plus X I) g1b μ') vs (es.map V.d) := (q.mono fun a o n e => ⟨n, up a o e⟩).all2
    have it2 : ItAt prog w true (plus X I) I ds (i + 1) g1b := it1.ext (Z := fun _ => False) (.keeps up) (fun _ f => f.elim) id
    have em : (assignEach (xs.map fun q => Expr.Name q.1 q.2) env).map (·.2) = xs.map fun q => assign (.Name q.1 q.2) env := by rw [assignEach_names, List.map_map]; rfl
    rw [em]
    refine storeNames (s := { s with heap := g1b, toks := tk1 }) xs _ (es.map V.d) ρ' _ F2 C2 ?_ (by simp [lv, hl]) (by simpa using q2) ?_
    · intro x hx
      rcases hk x hx with h | ⟨h, hc⟩
      · exact .inl (kind_of_sc h1 h)
      · exact .inr ⟨kind_of_sc h1 h, hc A env _ _ _ _ F2 h1⟩
    intro g2 tk2 n3 F3
    have L2 := InLoop.body ap hX C2 F2 it2 (ex1.trans (.keeps up)) L.same n3 F3
    refine st A env _ { s with heap := g2, toks := tk2 } _ _ h1 h2 L2.cs F3 ?_ ?_
    · intro g3 tk3 ρ3 μ3 inv3 n3 F3
      exact ⟨ds.length + 1 - (i + 1), by omega, i + 1, g3, tk3, ρ3, μ3, rfl, rfl, hlt, inv3, InLoop.body ap hX L2.cs L2.fm L2.it L2.ext L2.same n3 F3⟩
    · intro v3 g3 tk3 U μ3 r3 n3 rv
      have L3e : Ext (ZI env μ0 I) g g3 := L2.ext.trans (n3.ext.sub fun b o _ m => by
        rcases m with m | m
        · exact .inl ((L2.same.M b).mp m)
        · exact .inr (.inl m))
      exact hR v3 g3 tk3 U μ3 r3 (InLoop.leave C F nx fr L3e (L2.same.trans n3.same) n3.mu) (rv.sub fun _ a => .inl a)
  · intro g1 tk1 ei kk
    subst ei
    refine wpAny_execs_nil ?_
    obtain ⟨x1, F1⟩ := L.exit C F nx fr ap hX kk
    exact hN g1 tk1 ρ' μ' (fin ρ' μ' inv) x1 F1

theorem WX.while {t : Expr} {body : List Stmt} (Inv : Nat → (Str → Option V) → Mut → Prop) (n : Nat) (i0 : Inv n ρ μ)
    (step : ∀ n ρ' μ', Inv n ρ' μ' → WT prog w hb k sc t ρ' μ' (twoK (stmK prog w hb k sc body ρ' (fun ρ3 μ3 => ∃ m, m < n ∧ Inv m ρ3 μ3) R) (N ρ'))) :
    WX prog w hb k sc (.While t body [] pos) ρ μ N R := fun A env X s Q E h1 h2 C F hN hR => by
  refine wpAny_While (codeAny_whileLoop (fun n s' => ∃ h' tk' ρ' μ', s' = { s with heap := h', toks := tk' } ∧ Inv n ρ' μ' ∧ NxtS X env μ s.heap μ' h' ∧ Cs hb X μ' h' ∧ Fm X env ρ' μ' h') ?_ n
    ⟨s.heap, s.toks, ρ, μ, rfl, i0, .refl C.mu, C, F⟩)
  rintro n s' ⟨h', tk', ρ', μ', rfl, inv, nx, C', F'⟩
  refine step n ρ' μ' inv A env X { s with heap := h', toks := tk' } _ _ h1 h2 C' F' ?_
  rintro b g tk μ2 ⟨t1, t2⟩ n2
  cases b with
  | true =>
    refine t1 rfl A env X { s with heap := g, toks := tk } _ _ h1 h2 (C'.nxt n2) (F'.nxt C'.mu n2) ?_ ?_
    · rintro g3 tk3 ρ3 μ3 ⟨m, hm, i3⟩ n3 F3
      exact ⟨m, hm, g3, tk3, ρ3, μ3, rfl, i3, (nx.trans n2.s).trans n3, (C'.nxt n2).nxtS (F'.nxt C'.mu n2) n3, F3⟩
    · intro v3 g3 tk3 U μ3 r3 n3 rv
      exact hR v3 g3 tk3 U μ3 r3 ((nx.trans n2.s).trans n3) rv
  | false =>
    exact wpAny_execs_nil (hN g tk ρ' μ2 (t2 rfl) (nx.trans n2.s) (F'.nxt C'.mu n2))
end
section
variable {prog : Program} {w : World} {hb : Heap} {K : Frag} {X : Addr → Prop} {μ μ' : Mut} {h h' : Heap} {s : Shared} {env : Env} {ρ : Str → Option V}
variable {k : Nat} {sc : Scope} {N : (Str → Option V) → Mut → Prop} {R P : V → Mut → Prop} {pos : Pos}

/-- the cells that a comprehension sees -/
theorem closure_go (env : Env) : ∀ (l : List (Str × NameKind)) (acc : List (Str × Addr)), (∀ x ∈ l, x.2 = .free → HasCell env x.1) →
    ∃ cl, (forIn l acc fun (x : Str × NameKind) (cs : List (Str × Addr)) => if (x.2 == NameKind.free) = true then (do let c ← cellOf env x.1; pure (ForInStep.yield ((x.1, c) :: cs)) : Sem _) else pure (ForInStep.yield cs)) = pure cl ∧
      (∀ y c, (y, c) ∈ cl → (y, c) ∈ acc ∨ env.cells.lookup y = some c) ∧ (∀ q ∈ acc, q ∈ cl) ∧ ∀ x ∈ l, x.2 = .free → ∃ c, (x.1, c) ∈ cl
  | [], acc, _ => ⟨acc, rfl, fun _ _ h => .inl h, fun _ h => h, fun _ h => nomatch h⟩
  | (n, kd) :: l, acc, hc => by
    rw [List.forIn_cons]
    by_cases e : kd = .free
    · subst e
      obtain ⟨c, hcc⟩ := hc (n, .free) (.head _) rfl
      obtain ⟨cl, e1, e2, e3, e4⟩ := closure_go env l ((n, c) :: acc) fun x hx => hc x (.tail _ hx)
      refine ⟨cl, ?_, ?_, fun q hq => e3 q (.tail _ hq), ?_⟩
      · simp only [beq_self_eq_true, if_true]
        unfold cellOf
        simp only at hcc
        rw [hcc]
        exact e1
      · intro y c' hm
        rcases e2 y c' hm with h | h
        · rcases List.mem_cons.mp h with h | h
          · cases h; exact .inr hcc
          · exact .inl h
        · exact .inr h
      · intro x hx hf
        rcases List.mem_cons.mp hx with rfl | hx
        · exact ⟨c, e3 _ (.head _)⟩
        · exact e4 x hx hf
    · obtain ⟨cl, e1, e2, e3, e4⟩ := closure_go env l acc fun x hx => hc x (.tail _ hx)
      have hb' : (kd == NameKind.free) = false := by simpa using e
      refine ⟨cl, ?_, e2, e3, ?_⟩
      · simp only [hb', Bool.false_eq_true, if_false]
        exact e1
      · intro x hx hf
        rcases List.mem_cons.mp hx with rfl | hx
        · exact absurd hf e
        · exact e4 x hx hf
theorem mem_lookup {y : Str} {c : Addr} : ∀ {l : List (Str × Addr)}, (y, c) ∈ l → ∃ c', l.lookup y = some c'
  | (z, d) :: l, h => by
    rw [List.lookup_cons]
    by_cases e : y = z
    · subst e; exact ⟨d, by simp⟩
    · have hb' : (y == z) = false := by simpa using e
      rw [hb']
      rcases List.mem_cons.mp h with h | h
      · cases h; exact absurd rfl e
      · exact mem_lookup h
theorem lookup_mem {y : Str} {c : Addr} : ∀ {l : List (Str × Addr)}, l.lookup y = some c → (y, c) ∈ l
  | (z, d) :: l, h => by
    rw [List.lookup_cons] at h
    by_cases e : y = z
    · subst e; simp at h; subst h; exact .head _
    · have hb' : (y == z) = false := by simpa using e
      rw [hb'] at h
      exact .tail _ (lookup_mem h)
theorem closure_all (scope : Scope) (env : Env) (hc : ∀ x ∈ scope.names, x.2 = .free → HasCell env x.1) :
    ∃ cl, closureFor scope env = pure cl ∧ (∀ y c, cl.lookup y = some c → env.cells.lookup y = some c) ∧ ∀ x ∈ scope.names, x.2 = .free → ∃ c, cl.lookup x.1 = some c := by
  obtain ⟨cl, e1, e2, _, e4⟩ := closure_go env scope.names [] hc
  refine ⟨cl, ?_, fun y c h => ?_, fun x hx hf => ?_⟩
  · unfold closureFor
    have e1' := e1
    exact (congrArg (fun t : Sem (List (Str × Addr)) => t >>= fun cs => pure cs) e1').trans rfl
  · rcases e2 y c (lookup_mem h) with h | h
    · cases h
    · exact h
  · obtain ⟨c, hm⟩ := e4 x hx hf
    exact mem_lookup hm

/-- tests of a comprehension -/
noncomputable def WTI (prog : Program) (w : World) (hb : Heap) (k : Nat) (sc : Scope) (ifs : List Expr) (ρ : Str → Option V) (μ : Mut) (T : Bool → Mut → Prop) : Prop :=
  ∀ (A : Around) (env : Env) (X : Addr → Prop) (s : Shared) (Q : Bool → Shared → Prop) (E : Value → Shared → Prop), env.scope = sc → Room A k → Cs hb X μ s.heap → Fm X env ρ μ s.heap →
    (∀ b h' tk μ', T b μ' → Nxt X μ s.heap μ' h' → Q b { s with heap := h', toks := tk }) →
    wpAny (model prog w) A (forIn ifs true fun c r => if r = true then do let ok ← isTrue c env (eval c env); pure (ForInStep.yield ok) else pure (ForInStep.yield r)) Q E s
theorem WTI.nil {T : Bool → Mut → Prop} (t : T true μ) : WTI prog w hb k sc [] ρ μ T := fun A env X s Q E h1 h2 C F hQ => wpAny_tests_nil (hQ _ s.heap s.toks μ t (.refl C.mu))
theorem WTI.one {T : Bool → Mut → Prop} {c : Expr} (H : WT prog w hb k sc c ρ μ T) : WTI prog w hb k sc [c] ρ μ T := fun A env X s Q E h1 h2 C F hQ => wpAny_tests_one (H A env X s Q E h1 h2 C F hQ)

/-- the scope of a comprehension within a def -/
noncomputable def relS (scope sc : Scope) : Scope :=
  { scope with names := scope.names.map fun (n, k) => if (k == .free && sc.kind == .function && sc.names.lookup n == some .cell) then (n, .cell) else (n, k) }
theorem relabel_eq (scope : Scope) (env : Env) (h : env.scope = sc) : relabel scope env = relS scope sc := by subst h; rfl

/-- the names that it sees -/
noncomputable def seen (scope : Scope) (ρ : Str → Option V) (x : Str) (d : PyData) : Str → Option V := fun y => if y = x then some (.d d) else if scope.names.lookup y = some .free then ρ y else none

noncomputable abbrev Y3 (X : Addr → Prop) (I D C : Addr) : Addr → Prop := plus (plus (plus X I) D) C

structure InComp (prog : Program) (w : World) (B : Bool) (X : Addr → Prop) (I D C : Addr) (ds : List PyData) (p : PyData → Bool) (f : PyData → PyData) (μ : Mut) (g : Heap) (i : Nat) (ys : Array Value) (h' : Heap) : Prop where
  kp : ∀ b o, b ≠ I → b ≠ D → b ≠ C → ¬ μ.M b → g.get? b = some o → h'.get? b = some o
  mu : HasMut (Y3 X I D C) h' μ
  it : ItAt prog w B (Y3 X I D C) I ds i h'
  acc : h'.PlainList D ys
  rds : RDs (Y3 X I D C) h' ys.toList (((ds.take i).filter p).map f)
  ns : ∃ m, h'.Ns C m

variable {B : Bool} {I D C : Addr} {ds : List PyData} {p : PyData → Bool} {f : PyData → PyData} {g g1 : Heap} {i : Nat} {ys : Array Value}

structure Apart3 (g : Heap) (X : Addr → Prop) (I D C : Addr) : Prop where
  i : ¬ X I
  d : g.get? D = none
  c : g.get? C = none
  di : D ≠ I
  ci : C ≠ I
  cd : C ≠ D
theorem HasMut.lives (H : HasMut X h μ) {a : Addr} (m : μ.M a) : ∃ o, h.get? a = some o := by
  obtain ⟨b, t⟩ := μ
  rcases m with ⟨q, e⟩ | ⟨i, q, e⟩
  · simp only at e; subst e
    obtain ⟨_, l, t', n, e, _⟩ := H.box
    exact ⟨_, e⟩
  · simp only at e; subst e
    obtain ⟨_, _, _, _, _, _, _, _, _, _, e, _⟩ := H.tab
    exact ⟨_, e⟩
theorem kp_get (a : Apart3 g X I D C) (kp : ∀ b o, b ≠ I → b ≠ D → b ≠ C → ¬ μ.M b → g.get? b = some o → h'.get? b = some o) {b : Addr} {o : Obj} (n : b ≠ I) (nm : ¬ μ.M b) (e : g.get? b = some o) : h'.get? b = some o :=
  kp b o n (fun q => by rw [q, a.d] at e; cases e) (fun q => by rw [q, a.c] at e; cases e) nm e
theorem kp_rd (a : Apart3 g X I D C) (kp : ∀ b o, b ≠ I → b ≠ D → b ≠ C → ¬ μ.M b → g.get? b = some o → h'.get? b = some o) (Cg : Cs hb X μ g) {v : Value} {d : PyData} (r : RD (plus X I) g v d) : RD (Y3 X I D C) h' v d :=
  ((r.plus a.d).plus a.c).mono fun b o n e => ⟨n, kp b o (fun q => n (.inl (.inl (.inr q)))) (fun q => n (.inl (.inr q))) (fun q => n (.inr q)) (fun m => n (.inl (.inl (.inl (Cg.mu.inX m))))) e⟩
theorem kp_cs (a : Apart3 g X I D C) (kp : ∀ b o, b ≠ I → b ≠ D → b ≠ C → ¬ μ.M b → g.get? b = some o → h'.get? b = some o) (Cg : Cs hb X μ g) (H : HasMut (Y3 X I D C) h' μ) (hbI : hb.get? I = none)
    (li : ∃ o, h'.get? I = some o) (ld : ∃ o, h'.get? D = some o) (lc : ∃ o, h'.get? C = some o) : Cs hb (Y3 X I D C) μ h' := by
  refine ⟨fun b o e => kp_get a kp (fun q => by rw [q, hbI] at e; cases e) (fun m => by rw [(Cg.xs b (Cg.mu.inX m)).1] at e; cases e) (Cg.base b o e), fun b x => ?_, H⟩
  rcases x with ((x | rfl) | rfl) | rfl
  · obtain ⟨e, o, e'⟩ := Cg.xs b x
    refine ⟨e, ?_⟩
    by_cases m : μ.M b
    · exact H.lives m
    · exact ⟨o, kp_get a kp (fun q => a.i (q ▸ x)) m e'⟩
  · exact ⟨hbI, li⟩
  · exact ⟨Cg.fresh a.d, ld⟩
  · exact ⟨Cg.fresh a.c, lc⟩
theorem relabel_free {y : Str} {sc : Scope} : ∀ (l : List (Str × NameKind)), (∀ z ∈ l, z.2 ≠ .cell) → (l.map fun (n, k) => if (k == NameKind.free && sc.kind == .function && sc.names.lookup n == some .cell) then (n, NameKind.cell) else (n, k)).lookup y = some .cell → (y, NameKind.free) ∈ l
  | [], _, h => by cases h
  | (n, kd) :: l, hz, h => by
    rw [List.map_cons] at h
    dsimp only at h
    split at h
    · rename_i c
      rw [List.lookup_cons] at h
      by_cases e : y = n
      · subst e
        simp only [Bool.and_eq_true, beq_iff_eq] at c
        have : kd = .free := c.1.1
        subst this
        exact .head _
      · have hb' : (y == n) = false := by simpa using e
        rw [hb'] at h
        exact .tail _ (relabel_free l (fun z hz' => hz z (.tail _ hz')) h)
    · rw [List.lookup_cons] at h
      by_cases e : y = n
      · subst e
        simp at h
        exact absurd h (hz _ (.head _))
      · have hb' : (y == n) = false := by simpa using e
        rw [hb'] at h
        exact .tail _ (relabel_free l (fun z hz' => hz z (.tail _ hz')) h)
/-- the frame of the comprehension -/
theorem kp_fm {scope : Scope} {cl : List (Str × Addr)} {x : Str} {d : PyData} {m : Str → Option Value} {v : Value} (a : Apart3 g X I D C) (kp : ∀ b o, b ≠ I → b ≠ D → b ≠ C → ¬ μ.M b → g.get? b = some o → h'.get? b = some o) (Cg : Cs hb X μ g) (Fg : Fm X env ρ μ g) (Fi : Fm (plus X I) env ρ μ g)
    (hsc : env.scope = sc) (hk : scope.kind = .function) (hcell : ∀ y ∈ scope.names, y.2 ≠ .cell) (hcl : ∀ y c, cl.lookup y = some c → env.cells.lookup y = some c) (hcl2 : ∀ x ∈ scope.names, x.2 = .free → ∃ c, cl.lookup x.1 = some c)
    (hfree : ∀ y ∈ scope.names, y.2 = .free → sc.names.lookup y.1 = some .cell) (hx : scope.names.lookup x = some .local)
    (hn : h'.Ns C m) (hm : m x = some v) (rd : RD (Y3 X I D C) h' v d) : Fm (Y3 X I D C) (compEnvC scope cl C env) (seen scope ρ x d) μ h' := by
  refine ⟨hk, Fg.glob, Fg.blt, ⟨.inr rfl, fun q => ?_⟩, fun y c e => ?_, ⟨fun y z c e1 e2 => Fg.cinj.1 y z c (hcl y c e1) (hcl z c e2), fun y hy => (by obtain ⟨c, e⟩ := hcl2 _ (relabel_free _ hcell hy) rfl; exact ⟨c, e⟩)⟩, m, hn, fun y U hy => ?_⟩
  · exact Cg.isLive (Cg.mu.inX q) a.c
  · obtain ⟨x1, x2, x3, o, v0, x4, x5⟩ := Fg.cells y c (hcl y c e)
    exact ⟨.inl (.inl (.inl x1)), x2, fun q => (by (have q' : c = C := q); rw [q', a.c] at x4; cases x4), o, v0, kp_get a kp (fun q => a.i (q ▸ x1)) x2 x4, x5⟩
  · unfold seen at hy
    by_cases q : y = x
    · subst q
      rw [if_pos rfl] at hy; cases hy
      refine .inl ⟨?_, v, hm, rd⟩
      have : (relabel scope env).names.lookup y = some .local := lookup_relabel_local hx
      exact this
    · rw [if_neg q] at hy
      by_cases fr : scope.names.lookup y = some .free
      · rw [if_pos fr] at hy
        obtain ⟨m0, _, km⟩ := Fi.ns
        have hmem : (y, NameKind.free) ∈ scope.names := by
          have : ∀ (l : List (Str × NameKind)), l.lookup y = some .free → (y, NameKind.free) ∈ l := by
            intro l
            induction l with
            | nil => intro h; cases h
            | cons z l ih =>
              obtain ⟨n, kd⟩ := z
              intro h
              rw [List.lookup_cons] at h
              by_cases e : y = n
              · subst e; simp at h; subst h; exact .head _
              · have hb' : (y == n) = false := by simpa using e
                rw [hb'] at h
                exact .tail _ (ih h)
          exact this _ fr
        have kc := hfree _ hmem rfl
        have kenv : env.kindOf y = some .cell := kind_of_sc hsc kc
        obtain ⟨c, hc⟩ := hcl2 _ hmem rfl
        have hc' := hcl y c hc
        rcases km y U hy with ⟨k1, _⟩ | ⟨_, c2, o, v2, k2, k3, k4, k5⟩
        · rw [kenv] at k1; cases k1
        · have : c2 = c := Option.some.inj (k2.symm.trans hc')
          subst this
          obtain ⟨x1, x2, _⟩ := Fg.cells y c2 hc'
          refine .inr ⟨?_, c2, o, v2, hc, kp_get a kp (fun q => a.i (q ▸ x1)) x2 k3, k4, ?_⟩
          · left
            have : ∀ (l : List (Str × NameKind)), l.lookup y = some .free → (l.map fun (n, k) => if (k == NameKind.free && env.scope.kind == .function && env.kindOf n == some .cell) then (n, NameKind.cell) else (n, k)).lookup y = some .cell := by
              intro l
              induction l with
              | nil => intro h; cases h
              | cons z l ih =>
                obtain ⟨n, kd⟩ := z
                intro h
                rw [List.lookup_cons] at h
                by_cases e : y = n
                · subst e
                  simp at h; subst h
                  have kf : env.scope.kind = .function := Fg.kind
                  simp [kf, kenv]
                · have hb' : (y == n) = false := by simpa using e
                  rw [hb'] at h
                  rw [List.map_cons]
                  dsimp only
                  split
                  · rw [List.lookup_cons, hb']; exact ih h
                  · rw [List.lookup_cons, hb']; exact ih h
            exact this _ fr
          · cases U with
            | d y => exact kp_rd a kp Cg k5
            | box => exact k5
            | tab => exact k5
      · rw [if_neg fr] at hy; cases hy

/-- the loop of a comprehension -/
theorem comp_core {scope : Scope} {x : Str} {px : Pos} {iter elt : Expr} {ifs : List Expr} {cl : List (Str × Addr)} {cpos : Pos} {A : Around} {E : Value → Shared → Prop} {tk : Nat} {RR : Value → Addr → Result → Shared → Prop}
    (h2 : Room A k) (hsc : env.scope = sc) (Cg : Cs hb X μ g) (Fg : Fm X env ρ μ g) (Fi : Fm (plus X I) env ρ μ g) (HI : HasMut (plus X I) g μ) (hbI : hb.get? I = none) (nI : ¬ X I) (it : ItAt prog w B (plus X I) I ds 0 g)
    (hk : scope.kind = .function) (hcell : ∀ y ∈ scope.names, y.2 ≠ .cell) (hx : scope.names.lookup x = some .local) (hcl : ∀ y c, cl.lookup y = some c → env.cells.lookup y = some c) (hcl2 : ∀ x ∈ scope.names, x.2 = .free → ∃ c, cl.lookup x.1 = some c)
    (hfree : ∀ y ∈ scope.names, y.2 = .free → sc.names.lookup y.1 = some .cell) (hlen : ds.length ≤ 1000)
    (hT : ∀ d ∈ ds, WTI prog w hb k (relS scope sc) ifs (seen scope ρ x d) μ fun b μ' => b = p d ∧ μ' = μ)
    (hE : ∀ d ∈ ds, p d = true → WE prog w hb k (relS scope sc) elt (seen scope ρ x d) μ fun U μ' => U = .d (f d) ∧ μ' = μ)
    (hR : ∀ D C h' tk' m ys, Apart3 g X I D C → (∀ b o, b ≠ I → b ≠ D → b ≠ C → ¬ μ.M b → g.get? b = some o → h'.get? b = some o) → HasMut (Y3 X I D C) h' μ → h'.PlainList D ys → RDs (Y3 X I D C) h' ys.toList ((ds.filter p).map f) → h'.Ns C m → RR (.ref D) C (.ok .next) { s with heap := h', toks := tk' }) :
    wpAny (model prog w) A (newList []) (fun acc s₃ => wpAny (model prog w) A (newFunctionEnv scope env.globals cl [] env.qual none .none (some env)) (fun cenv s₄ =>
      codeAny (model prog w) A (.compStart (.ListComp elt [⟨.Name x px, iter, ifs, 0⟩] scope cpos) 0 (.ref I) acc { cenv with scope := relabel scope env }) (RR acc cenv.locals) s₄) E s₃) E { s with heap := g, toks := tk } := by
  refine wpAny_newObj_type (wpAny_newFunctionEnv hcell (by intro y hy; simp at hy) (fun h₁ hns₁ hsb₁ => ?_) hk)
  dsimp only at hns₁ hsb₁ ⊢
  obtain ⟨D, hD⟩ : ∃ D, D = g.objs.size := ⟨_, rfl⟩
  obtain ⟨C, hC⟩ : ∃ C, C = (g.push { cls := .type "list", data := .seq ([] : List Value).toArray }).objs.size := ⟨_, rfl⟩
  have hC1 : C = D + 1 := by rw [hC, hD, Heap.size_push]
  have gD : g.get? D = none := by rw [hD]; exact newGet g
  have gC : g.get? C = none := Heap.get?_none_of_le (by rw [hC1, hD]; omega)
  have iLive := it.live.live
  have aI : ∀ q, g.get? q = none → q ≠ I := fun q e c => by obtain ⟨o, e'⟩ := iLive; rw [c, e'] at e; cases e
  have ap : Apart3 g X I D C := ⟨nI, gD, gC, aI D gD, aI C gC, by rw [hC1]; exact Nat.succ_ne_self D⟩
  rw [← hD, ← hC]
  rw [← hC] at hns₁ hsb₁
  have pushD : (g.push { cls := .type "list", data := .seq ([] : List Value).toArray }).get? D = some { cls := .type "list", data := .seq ([] : List Value).toArray } := by rw [hD]; exact Heap.get?_push_size _ rfl
  have old : ∀ b o, g.get? b = some o → h₁.get? b = some o := fun b o e => hsb₁.extBut b o (fun q => by rw [q, gC] at e; cases e) (Heap.get?_push_of_some _ (Heap.get?_push_of_some _ e))
  have acc0 : h₁.PlainList D #[] := ⟨0, hsb₁.extBut D _ ap.cd.symm (Heap.get?_push_of_some _ pushD)⟩
  have it1 : ItAt prog w B (Y3 X I D C) I ds 0 h₁ := ((it.plus ap.d).plus ap.c).ext (Z := fun _ => False) (.keeps old) (fun _ q => q.elim) id
  have mu1 : HasMut (Y3 X I D C) h₁ μ := ((HI.plus ap.d).plus ap.c).ext (N := fun _ => False) (.keeps old) (fun _ q => q.elim) fun _ q => q.elim
  have L0 : InComp prog w B X I D C ds p f μ g 0 #[] h₁ := ⟨fun b o _ _ _ _ e => old b o e, mu1, it1, acc0, .nil, _, hns₁⟩
  have loop : ∀ tk', codeAny (model prog w) A (.compLoop (.ListComp elt [⟨.Name x px, iter, ifs, 0⟩] scope cpos) 0 (.ref I) (.ref D) (compEnvC scope cl C env)) (RR (.ref D) C) { s with heap := h₁, toks := tk' } := by
    intro tk'
    refine codeAny_compLoop_tests (fun n s' => ∃ i h' tk' ys, s' = { s with heap := h', toks := tk' } ∧ n = ds.length + 1 - i ∧ i ≤ ds.length ∧ InComp prog w B X I D C ds p f μ g i ys h') ?_ (ds.length + 1) ⟨0, h₁, tk', #[], rfl, rfl, Nat.zero_le _, L0⟩
    rintro n s' ⟨i, h', tk', ys, rfl, rfl, hi, L⟩
    obtain ⟨m0, hns⟩ := L.ns
    refine L.it.next (s := { s with heap := h', toks := tk' }) h2.handled hi ?_ ?_
    · intro v d g1 tk1 ed kk rd itn
      have hlt : i < ds.length := (List.getElem?_eq_some_iff.mp ed).1
      have dm : d ∈ ds := List.mem_of_getElem? ed
      have nD : ¬ μ.M D := fun m => Cg.isLive (Cg.mu.inX m) ap.d
      have nC : ¬ μ.M C := fun m => Cg.isLive (Cg.mu.inX m) ap.c
      have nIm : ¬ μ.M I := fun m => ap.i (Cg.mu.inX m)
      have kp1 : ∀ b o, b ≠ I → b ≠ D → b ≠ C → ¬ μ.M b → g.get? b = some o → g1.get? b = some o := fun b o a b' c m e => kk b o a (L.kp b o a b' c m e)
      have hn1 : g1.Ns C m0 := by obtain ⟨o, es, ep, e, r⟩ := hns; exact ⟨o, es, ep, kk C o ap.ci e, r⟩
      have E01 : Ext (fun a => a = I) h' g1 := ⟨fun b o n e => kk b o n e, fun b o e => by
        by_cases q : b = I
        · subst q; exact itn.live.live
        · exact ⟨o, kk b o q e⟩⟩
      obtain ⟨na, ea⟩ := L.acc
      have ac1 : g1.PlainList D ys := ⟨na, kk D _ ap.di ea⟩
      refine wpAny_assign_Name (wpAny_storeName_local (lookup_relabel_local hx) hn1 (fun g2 hn2 hs2 => ?_) (by simp [compEnvC, relabel, hk]))
      have kp2 : ∀ b o, b ≠ I → b ≠ D → b ≠ C → ¬ μ.M b → g.get? b = some o → g2.get? b = some o := fun b o a b' c m e => hs2.extBut b o c (kp1 b o a b' c m e)
      have E12 : Ext (fun a => a = C) g1 g2 := ⟨fun b o n e => hs2.extBut b o n e, fun b o e => by
        by_cases q : b = C
        · subst q; obtain ⟨o', _, _, e', _⟩ := hn2; exact ⟨o', e'⟩
        · exact ⟨o, hs2.extBut b o q e⟩⟩
      have mu2 : HasMut (Y3 X I D C) g2 μ := (L.mu.ext E01 (fun a e => .inl (.inl (.inr e))) (fun a e m => nIm (e ▸ m))).ext E12 (fun a e => .inr e) fun a e m => nC (e ▸ m)
      have rd2 : RD (Y3 X I D C) g2 v d := rd.ext E12 fun a e => .inr e
      have it2 : ItAt prog w B (Y3 X I D C) I ds (i + 1) g2 := itn.ext E12 (fun a e => .inr e) (fun e => ap.ci e.symm)
      have ac2 : g2.PlainList D ys := by obtain ⟨q, e⟩ := ac1; exact ⟨q, E12.1 D _ ap.cd.symm e⟩
      have rs2 : RDs (Y3 X I D C) g2 ys.toList (((ds.take i).filter p).map f) := L.rds.mono fun a o n e => ⟨n, E12.1 a o (fun q => n (.inr q)) (kk a o (fun q => n (.inl (.inl (.inr q)))) e)⟩
      have cs2 : Cs hb (Y3 X I D C) μ g2 := kp_cs ap kp2 Cg mu2 hbI it2.live.live (by obtain ⟨q, e⟩ := ac2; exact ⟨_, e⟩) (by obtain ⟨o, _, _, e, _⟩ := hn2; exact ⟨o, e⟩)
      have fm2 : Fm (Y3 X I D C) (compEnvC scope cl C env) (seen scope ρ x d) μ g2 := kp_fm ap kp2 Cg Fg Fi hsc hk hcell hcl hcl2 hfree hx hn2 (by simp) rd2
      have sce : (compEnvC scope cl C env).scope = relS scope sc := relabel_eq scope env hsc
      have tk_ : ds.take (i + 1) = ds.take i ++ [d] := by rw [List.take_add_one, ed]; rfl
      refine hT d dm A (compEnvC scope cl C env) _ { s with heap := g2, toks := tk1 + 1 } _ _ sce h2 cs2 fm2 ?_
      rintro b g3 tk3 μ3 ⟨rfl, hμ⟩ n3
      subst hμ
      have kp3 : ∀ b o, b ≠ I → b ≠ D → b ≠ C → ¬ μ3.M b → g.get? b = some o → g3.get? b = some o := fun b o x y z m e => n3.ext.1 b o m (kp2 b o x y z m e)
      have mX : ∀ a, μ3.M a → Y3 X I D C a := fun a m => .inl (.inl (.inl (Cg.mu.inX m)))
      have it3 : ItAt prog w B (Y3 X I D C) I ds (i + 1) g3 := it2.ext n3.ext mX nIm
      have ac3 : g3.PlainList D ys := by obtain ⟨q, e⟩ := ac2; exact ⟨q, n3.ext.1 D _ nD e⟩
      have rs3 : RDs (Y3 X I D C) g3 ys.toList (((ds.take i).filter p).map f) := rs2.mono fun a o n e => ⟨n, n3.ext.1 a o (fun m => n (mX a m)) e⟩
      have hn3 : ∃ m, g3.Ns C m := by obtain ⟨o, es, ep, e, r⟩ := hn2; exact ⟨_, o, es, ep, n3.ext.1 C o nC e, r⟩
      cases hpd : p d with
      | false =>
        rw [if_neg (by simp)]
        exact ⟨ds.length + 1 - (i + 1), by omega, i + 1, g3, tk3, ys, rfl, rfl, hlt, kp3, n3.mu, it3, ac3, by rw [tk_, List.filter_append]; simpa [hpd] using rs3, hn3⟩
      | true =>
        rw [if_pos rfl]
        refine hE d dm hpd A (compEnvC scope cl C env) _ { s with heap := g3, toks := tk3 } _ _ sce h2 (cs2.nxt n3) (fm2.nxt cs2.mu n3) ?_
        rintro v4 g4 tk4 U μ4 ⟨rfl, hμ⟩ n4 r4
        subst hμ
        have ac4 : g4.PlainList D ys := by obtain ⟨q, e⟩ := ac3; exact ⟨q, n4.ext.1 D _ nD e⟩
        have hyl : ys.size ≤ 1000 := by
          have e1 := L.rds.length
          have e2 : ((ds.take i).filter p).length ≤ (ds.take i).length := List.length_filter_le _ _
          have e3 : (ds.take i).length ≤ ds.length := by rw [List.length_take]; omega
          rw [List.length_map] at e1
          have e4 : ys.toList.length = ys.size := by simp
          omega
        refine wpAny_list_append_plain (s := { s with heap := g4, toks := tk4 }) ac4 (fun g5 ac5 hs5 => ?_) (by rw [sizeLine_eq]; omega)
        have E45 : Ext (fun a => a = D) g4 g5 := ⟨fun b o n e => hs5.extBut b o n e, fun b o e => by
          by_cases q : b = D
          · subst q; obtain ⟨n', e'⟩ := ac5; exact ⟨_, e'⟩
          · exact ⟨o, hs5.extBut b o q e⟩⟩
        have up45 : ∀ a o, ¬ Y3 X I D C a → g4.get? a = some o → ¬ Y3 X I D C a ∧ g5.get? a = some o := fun a o n e => ⟨n, E45.1 a o (fun q => n (.inl (.inr q))) e⟩
        refine ⟨ds.length + 1 - (i + 1), by omega, i + 1, g5, tk4, ys.push v4, rfl, rfl, hlt, fun b o x y z m e => E45.1 b o y (n4.ext.1 b o m (kp3 b o x y z m e)), ?_, ?_, ac5, ?_, ?_⟩
        · exact n4.mu.ext E45 (fun a e => .inl (.inr e)) fun a e m => nD (e ▸ m)
        · exact (it3.ext n4.ext mX nIm).ext E45 (fun a e => .inl (.inr e)) (fun e => ap.di e.symm)
        · rw [tk_, List.filter_append, List.map_append]
          have r5 : RDs (Y3 X I D C) g5 ys.toList (((ds.take i).filter p).map f) := (rs3.mono fun a o n e => ⟨n, n4.ext.1 a o (fun m => n (mX a m)) e⟩).mono up45
          have q5 : RD (Y3 X I D C) g5 v4 (f d) := RD.mono up45 r4
          simpa [hpd] using r5.append (.cons q5 .nil)
        · obtain ⟨m3, o, es, ep, e, r⟩ := hn3
          exact ⟨m3, o, es, ep, E45.1 C o ap.cd (n4.ext.1 C o nC e), r⟩
    · intro g1 tk1 ei kk
      subst ei
      obtain ⟨na, ea⟩ := L.acc
      have rs := L.rds
      rw [List.take_length] at rs
      have nIm : ¬ μ.M I := fun m => ap.i (Cg.mu.inX m)
      have muE : HasMut (Y3 X I D C) g1 μ := L.mu.map (fun a o m e => ⟨L.mu.inX m, kk a o (fun z => nIm (z ▸ m)) e⟩) fun a o n e => ⟨n, kk a o (fun q => n (.inl (.inl (.inr q)))) e⟩
      refine hR D C g1 tk1 m0 ys ap (fun b o a b' c m e => kk b o a (L.kp b o a b' c m e)) muE ⟨na, kk D _ ap.di ea⟩ (rs.mono fun a o n e => ⟨n, kk a o (fun q => n (.inl (.inl (.inr q)))) e⟩) ?_
      obtain ⟨o, es, ep, e, r⟩ := hns
      exact ⟨o, es, ep, kk C o ap.ci e, r⟩
  refine codeAny_compStart_list (loop _) ?_
  obtain ⟨xx, fp, Pv, St, W, st, _⟩ := it1
  exact (W A h2.handled).self 0 _ _ _ st (loop _)
end
section
variable {prog : Program} {w : World} {hb : Heap} {K : Frag} {X : Addr → Prop} {μ μ' : Mut} {h h' : Heap} {s : Shared} {env : Env} {ρ : Str → Option V}
variable {k : Nat} {sc : Scope} {N : (Str → Option V) → Mut → Prop} {R P : V → Mut → Prop} {pos : Pos} {C : Addr} {m : Str → Option Value}

theorem RV.offC {v : Value} {U : V} (r : RV X h μ v U) (n : h.Ns C m) (kk : ∀ b o, b ≠ C → h.get? b = some o → h'.get? b = some o) : RV X h' μ v U := by
  obtain ⟨oc, es, ep, e, dd, _⟩ := n
  cases U with
  | d x => exact RD.monoD (fun a o ds nx ee => ⟨nx, kk a o (fun q => by rw [q, e] at ee; cases ee; exact ds _ _ dd) ee⟩) r
  | box => exact r
  | tab => exact r
theorem HasMut.offC (H : HasMut X h μ) (n : h.Ns C m) (kk : ∀ b o, b ≠ C → h.get? b = some o → h'.get? b = some o) (nm : ∀ a, μ.M a → a ≠ C) : HasMut X h' μ := by
  obtain ⟨oc, es, ep, e, dd, _⟩ := n
  exact H.mapD (fun a o m ee => ⟨H.inX m, kk a o (nm a m) ee⟩) fun a o ds nx ee => ⟨nx, kk a o (fun q => by rw [q, e] at ee; cases ee; exact ds _ _ dd) ee⟩
theorem Fm.offC (F : Fm X env ρ μ h) (n : h.Ns C m) (kk : ∀ b o, b ≠ C → h.get? b = some o → h'.get? b = some o) (nl : env.locals ≠ C) : Fm X env ρ μ h' := by
  have up : ∀ v U, RV X h μ v U → RV X h' μ v U := fun v U r => r.offC n kk
  obtain ⟨oc, es, ep, e, dd, _⟩ := n
  have nc : ∀ (c : Addr) (o : Obj) v, h.get? c = some o → o.data = .cell v → c ≠ C := fun c o v e1 e2 q => by rw [q, e] at e1; cases e1; rw [dd] at e2; cases e2
  refine ⟨F.kind, F.glob, F.blt, F.loc, fun x c ec => ?_, F.cinj, ?_⟩
  · obtain ⟨a, b, cc, o, v, d, e'⟩ := F.cells x c ec
    exact ⟨a, b, cc, o, v, kk c o (nc c o _ d e') d, e'⟩
  · obtain ⟨m, ⟨o, es, ep, e, r⟩, kf⟩ := F.ns
    refine ⟨m, ⟨o, es, ep, kk _ o nl e, r⟩, fun x U hx => ?_⟩
    rcases kf x U hx with ⟨h1, v, h2, h3⟩ | ⟨h1, c, o, v, h2, h3, h4, h5⟩
    · exact .inl ⟨h1, v, h2, up _ _ h3⟩
    · exact .inr ⟨h1, c, o, v, h2, kk c o (nc c o _ h3 h4) h3, h4, up _ _ h5⟩

/-- the looks at the scope of a comprehension -/
structure CompOk (scope sc : Scope) (x : Str) (ρ : Str → Option V) : Prop where
  kind : scope.kind = .function
  cell : ∀ y ∈ scope.names, y.2 ≠ .cell
  names : ∀ y ∈ scope.names, y.2 = .local → scope.names.lookup y.1 = some .local
  var : scope.names.lookup x = some .local
  free : ∀ y ∈ scope.names, y.2 = .free → sc.names.lookup y.1 = some .cell
  have_ : ∀ y ∈ scope.names, y.2 = .free → ∃ U, ρ y.1 = some U

theorem CompOk.cells {scope : Scope} {x : Str} (O : CompOk scope sc x ρ) (F : Fm X env ρ μ h) (h1 : env.scope = sc) : ∀ y ∈ scope.names, y.2 = .free → HasCell env y.1 := by
  intro y hy hf
  obtain ⟨U, hU⟩ := O.have_ y hy hf
  obtain ⟨m, _, km⟩ := F.ns
  rcases km y.1 U hU with ⟨k1, _⟩ | ⟨_, c, _, _, k2, _⟩
  · rw [kind_of_sc h1 (O.free y hy hf)] at k1; cases k1
  · exact ⟨c, k2⟩

theorem WE.comp {B : Bool} {scope : Scope} {x : Str} {px : Pos} {iter elt : Expr} {ifs : List Expr} (O : CompOk scope sc x ρ)
    (H : WI prog w hb B k sc iter ρ μ fun ds μ0 => ∃ (p : PyData → Bool) (f : PyData → PyData), ds.length ≤ 1000 ∧ (∀ d ∈ ds, WTI prog w hb k (relS scope sc) ifs (seen scope ρ x d) μ0 fun b μ' => b = p d ∧ μ' = μ0) ∧
      (∀ d ∈ ds, p d = true → WE prog w hb k (relS scope sc) elt (seen scope ρ x d) μ0 fun U μ' => U = .d (f d) ∧ μ' = μ0) ∧ P (.d (.list ((ds.filter p).map f))) μ0)
    (hs : ∀ env x, foldedSetIterable iter env x = pure x := by intro _ _; rfl) : WE prog w hb k sc (.ListComp elt [⟨.Name x px, iter, ifs, 0⟩] scope pos) ρ μ P := fun A env X s Q E h1 h2 C F hQ => by
  obtain ⟨cl, e1, e2, e3⟩ := closure_all scope env (O.cells F h1)
  rw [eval_ListComp]
  refine wpAny_comprehension_free (use := none) rfl (hs env) e1 O.kind O.names (H A env X s _ E h1 h2 C F ?_)
  rintro I g tk ds μ0 ⟨p, f, hlen, hT, hE, hP⟩ nx hm fr hbI it
  have Fg := F.nxt C.mu nx
  have Fi : Fm (plus X I) env ρ μ0 g := (F.plus fr).nxt (C.mu.plus fr) ⟨nx.ext, hm, nx.same⟩
  have Cg := C.nxt nx
  have nI : ¬ X I := fun x => C.isLive x fr
  refine comp_core (s := s) (p := p) (f := f) (RR := fun acc C => compPost (model prog w) A E none Q acc C) h2 h1 Cg Fg Fi hm hbI nI it O.kind O.cell O.var e2 e3 O.free hlen hT hE ?_
  intro D C' h' tk' m ys ap kp mu3 hpl rs hn
  refine ⟨m, hn, fun h'' hs'' => ?_⟩
  have kk : ∀ b o, b ≠ C' → h'.get? b = some o → h''.get? b = some o := fun b o q e => hs''.extBut b o q e
  have sub3 : ∀ a, X a → Y3 X I D C' a := fun a x => .inl (.inl (.inl x))
  have M0 : ∀ a, μ0.M a → X a := fun a m => Cg.mu.inX m
  have nMC : ∀ a, μ0.M a → a ≠ C' := fun a m q => Cg.isLive (M0 a m) (q ▸ ap.c)
  have muX : HasMut X h'' μ0 := (mu3.unplus sub3 M0).offC hn kk nMC
  obtain ⟨nn, en⟩ := hpl
  refine hQ (.ref D) h'' tk' (.d (.list ((ds.filter p).map f))) μ0 hP ⟨⟨fun b o nM e => ?_, fun b o e => ?_⟩, muX, nx.same⟩ ?_
  · have eg := nx.ext.1 b o nM e
    have nb : b ≠ I := fun q => by rw [q, fr] at e; cases e
    exact kk b o (fun q => by rw [q, ap.c] at eg; cases eg) (kp_get ap kp nb (fun m => nM ((nx.same.M b).mp m)) eg)
  · obtain ⟨o1, eg⟩ := nx.ext.2 b o e
    by_cases mm : μ0.M b
    · exact muX.lives mm
    · have nb : b ≠ I := fun q => by rw [q, fr] at e; cases e
      exact ⟨o1, kk b o1 (fun q => by rw [q, ap.c] at eg; cases eg) (kp_get ap kp nb mm eg)⟩
  · refine RD.list (vs := ys.toList) (n := nn) (fun x => Cg.isLive x ap.d) (kk D _ ap.cd.symm (by simpa using en)) (rs.mono fun a o n e => ⟨fun x => n (sub3 a x), kk a o (fun q => n (.inr q)) e⟩)

theorem WX.asgComp {B : Bool} {scope : Scope} {x y : Str} {px py spos : Pos} {iter elt : Expr} {ifs : List Expr} (O : CompOk scope sc x ρ) (hy : sc.names.lookup y = some .local)
    (H : WI prog w hb B k sc iter ρ μ fun ds μ0 => ∃ (p : PyData → Bool) (f : PyData → PyData), ds.length ≤ 1000 ∧ (∀ d ∈ ds, WTI prog w hb k (relS scope sc) ifs (seen scope ρ x d) μ0 fun b μ' => b = p d ∧ μ' = μ0) ∧
      (∀ d ∈ ds, p d = true → WE prog w hb k (relS scope sc) elt (seen scope ρ x d) μ0 fun U μ' => U = .d (f d) ∧ μ' = μ0) ∧ N (upd ρ y (.d (.list ((ds.filter p).map f)))) μ0)
    (hsw : ∀ env : Env, env.scope = sc → swapsWith (.ListComp elt [⟨.Name x px, iter, ifs, 0⟩] scope pos) (some (.Name y py)) spos.line env = pure true)
    (hs : ∀ env x, foldedSetIterable iter env x = pure x := by intro _ _; rfl) : WX prog w hb k sc (.Assign [.Name y py] (.ListComp elt [⟨.Name x px, iter, ifs, 0⟩] scope pos) spos) ρ μ N R := fun A env X s Q E h1 h2 C F hN hR => by
  obtain ⟨cl, e1, e2, e3⟩ := closure_all scope env (O.cells F h1)
  rw [exec_Assign_Name_used _ _ _ _ (hsw env h1)]
  refine wpAny_bind (wpAny_standAt (wpAny_bind ?_))
  show wpAny _ A (do let _ ← comprehension (.ListComp elt [⟨.Name x px, iter, ifs, 0⟩] scope pos) scope env _ (newList []) false (eval iter env) (some (assign (.Name y py) env))) _ _ s
  refine wpAny_bind (wpAny_mono (wpAny_comprehension_free (use := some (assign (.Name y py) env)) (Q := fun _ s' => Q .next s') rfl (hs env) e1 O.kind O.names (H A env X s _ E h1 h2 C F ?_)) (fun _ s' hq => wpAny_pure (wpAny_pure hq)) fun _ _ e => e)
  rintro I g tk ds μ0 ⟨p, f, hlen, hT, hE, hP⟩ nx hm fr hbI it
  have Fg := F.nxt C.mu nx
  have Fi : Fm (plus X I) env ρ μ0 g := (F.plus fr).nxt (C.mu.plus fr) ⟨nx.ext, hm, nx.same⟩
  have Cg := C.nxt nx
  have nI : ¬ X I := fun x => C.isLive x fr
  refine comp_core (s := s) (p := p) (f := f) (RR := fun acc C => compPost (model prog w) A E (some (assign (.Name y py) env)) (fun _ s' => Q .next s') acc C) h2 h1 Cg Fg Fi hm hbI nI it O.kind O.cell O.var e2 e3 O.free hlen hT hE ?_
  intro D C' h' tk' m ys ap kp mu3 hpl rs hn
  have sub3 : ∀ a, X a → Y3 X I D C' a := fun a x => .inl (.inl (.inl x))
  have M0 : ∀ a, μ0.M a → X a := fun a m => Cg.mu.inX m
  have nMC : ∀ a, μ0.M a → a ≠ C' := fun a m q => Cg.isLive (M0 a m) (q ▸ ap.c)
  have muX : HasMut X h' μ0 := mu3.unplus sub3 M0
  obtain ⟨nn, en⟩ := hpl
  have nx1 : Nxt X μ s.heap μ0 h' := by
    refine ⟨⟨fun b o nM e => ?_, fun b o e => ?_⟩, muX, nx.same⟩
    · have eg := nx.ext.1 b o nM e
      have nb : b ≠ I := fun q => by rw [q, fr] at e; cases e
      exact kp_get ap kp nb (fun m => nM ((nx.same.M b).mp m)) eg
    · obtain ⟨o1, eg⟩ := nx.ext.2 b o e
      by_cases mm : μ0.M b
      · exact muX.lives mm
      · have nb : b ≠ I := fun q => by rw [q, fr] at e; cases e
        exact ⟨o1, kp_get ap kp nb mm eg⟩
  have rdD : RD X h' (.ref D) (.list ((ds.filter p).map f)) := RD.list (vs := ys.toList) (n := nn) (fun x => Cg.isLive x ap.d) (by simpa using en) (rs.mono fun a o n e => ⟨fun x => n (sub3 a x), e⟩)
  have oC : ∀ a, Own env a → a ≠ C' := fun a o q => Cg.isLive (Fg.own o) (q ▸ ap.c)
  show wpAny _ A (assign (.Name y py) env (.ref D)) _ _ _
  refine wpAny_assign_Name ((F.nxt C.mu nx1).store (s := { s with heap := h', toks := tk' }) (C.nxt nx1) (.inl (kind_of_sc h1 hy)) (U := .d (.list ((ds.filter p).map f))) rdD ?_)
  intro h2' tk2 n2 F2
  have hn2 : h2'.Ns C' m := by
    obtain ⟨o, es, ep, e, r⟩ := hn
    exact ⟨o, es, ep, n2.ext.1 C' o (fun q => q.elim (fun q => nMC C' q rfl) fun q => oC C' q rfl) e, r⟩
  refine ⟨m, hn2, fun h3 hs3 => ?_⟩
  have kk : ∀ b o, b ≠ C' → h2'.get? b = some o → h3.get? b = some o := fun b o q e => hs3.extBut b o q e
  have nxS := nx1.s (env := env) |>.trans n2
  have sC : ∀ b o, s.heap.get? b = some o → b ≠ C' := fun b o e q => by
    obtain ⟨o', e'⟩ := nx.ext.2 b o e
    rw [q, ap.c] at e'; cases e'
  refine hN h3 tk2 _ μ0 hP ⟨⟨fun b o n e => kk b o (sC b o e) (nxS.ext.1 b o n e), fun b o e => ?_⟩, n2.mu.offC hn2 kk nMC, nxS.same⟩ (F2.offC hn2 kk (fun q => oC env.locals (.inl rfl) q))
  obtain ⟨o', e'⟩ := nxS.ext.2 b o e
  exact ⟨o', kk b o' (sC b o e) e'⟩
end
section
variable {prog : Program} {w : World} {hb : Heap} {K : Frag} {X : Addr → Prop} {μ μ' : Mut} {h h' : Heap} {s : Shared} {env : Env} {ρ : Str → Option V}
variable {k : Nat} {sc : Scope} {N : (Str → Option V) → Mut → Prop} {R P : V → Mut → Prop} {pos : Pos}

noncomputable abbrev plusS (X O : Addr → Prop) : Addr → Prop := fun a => X a ∨ O a
theorem RD.plusS {O : Addr → Prop} {v : Value} {d : PyData} (r : RD X h v d) (n : ∀ a, O a → h.get? a = .none) : RD (plusS X O) h v d :=
  r.mono fun a o nx e => ⟨fun q => q.elim nx fun q => (by rw [n a q] at e; cases e), e⟩
theorem RV.plusS {O : Addr → Prop} {v : Value} {U : V} (r : RV X h μ v U) (n : ∀ a, O a → h.get? a = none) : RV (plusS X O) h μ v U := by
  cases U with
  | d x => exact RD.plusS r n
  | box => exact r
  | tab => exact r
theorem HasMut.plusS {O : Addr → Prop} (H : HasMut X h μ) (n : ∀ a, O a → h.get? a = none) : HasMut (plusS X O) h μ :=
  H.map (fun _ _ m e => ⟨.inl (H.inX m), e⟩) fun a o nx e => ⟨fun q => q.elim nx fun q => (by rw [n a q] at e; cases e), e⟩

theorem bind_go {kf : Str → Option NameKind} {O : Value → V → Prop} : ∀ (names : List Str) (vs : List Value) (Us : List V) (m cm : Str → Option Value) (ρ : Str → Option V), All2 O vs Us → vs.length = names.length → (∀ n ∈ names, kf n = some .local ∨ kf n = some .cell) →
    (∀ x U, ρ x = some U → (kf x = some .local ∧ ∃ v, m x = some v ∧ O v U) ∨ (kf x = some .cell ∧ ∃ v, cm x = some v ∧ O v U)) →
    ∀ x U, updAll ρ names Us x = some U → (kf x = some .local ∧ ∃ v, bindL kf (names.zip vs) m x = some v ∧ O v U) ∨ (kf x = some .cell ∧ ∃ v, bindC kf (names.zip vs) cm x = some v ∧ O v U)
  | [], vs, Us, m, cm, ρ, a, hl, hk, H => by
    cases vs with
    | nil => cases a; exact H
    | cons _ _ => simp at hl
  | n :: names, vs, Us, m, cm, ρ, a, hl, hk, H => by
    cases a with
    | nil => simp at hl
    | cons r a =>
      rename_i v U vs Us
      rw [List.zip_cons_cons]
      show ∀ x U', updAll (upd ρ n U) names Us x = some U' → _
      unfold bindL bindC
      refine bind_go names vs Us _ _ _ a (by simpa using hl) (fun y hy => hk y (.tail _ hy)) ?_
      intro x U' hx
      unfold upd at hx
      by_cases q : x = n
      · subst q
        rw [if_pos rfl] at hx; cases hx
        rcases hk x (.head _) with kl | kc
        · exact .inl ⟨kl, v, by simp [kl], r⟩
        · exact .inr ⟨kc, v, by simp [kc], r⟩
      · rw [if_neg q] at hx
        rcases H x U' hx with ⟨h1, v', h2, h3⟩ | ⟨h1, v', h2, h3⟩
        · refine .inl ⟨h1, v', ?_, h3⟩
          split
          · simp [q, h2]
          · exact h2
        · refine .inr ⟨h1, v', ?_, h3⟩
          split
          · exact h2
          · simp [q, h2]

theorem pw_inj {cs : List (Str × Addr)} (p : cs.Pairwise fun x y => x.2 ≠ y.2) {x y : Str} {c : Addr} (h1 : (x, c) ∈ cs) (h2 : (y, c) ∈ cs) : x = y := by
  induction cs with
  | nil => cases h1
  | cons q cs ih =>
    rw [List.pairwise_cons] at p
    rcases List.mem_cons.mp h1 with e1 | h1
    · rcases List.mem_cons.mp h2 with e2 | h2
      · rw [← e1] at e2; exact (congrArg Prod.fst e2).symm
      · exact absurd (by rw [← e1]) (p.1 _ h2)
    · rcases List.mem_cons.mp h2 with e2 | h2
      · exact absurd (by rw [← e2]) (p.1 _ h1)
      · exact ih p.2 h1 h2

theorem namesS {n : Nat} {p : List Value → Prop} (h : ∀ a, ∀ vs : List Value, vs.length = n → p (a :: vs)) (vs : List Value) (e : vs.length = n + 1) : p vs := by
  cases vs with
  | nil => cases e
  | cons a vs => exact h a vs (Nat.succ.inj e)
theorem names0 {p : List Value → Prop} (h : p []) (vs : List Value) (e : vs.length = 0) : p vs := List.eq_nil_of_length_eq_zero e ▸ h
theorem names1 {p : List Value → Prop} (h : ∀ a, p [a]) : ∀ vs : List Value, vs.length = 1 → p vs := namesS fun a => names0 (h a)
theorem names2 {p : List Value → Prop} (h : ∀ a b, p [a, b]) : ∀ vs : List Value, vs.length = 2 → p vs := namesS fun a => names1 (h a)
theorem names3 {p : List Value → Prop} (h : ∀ a b c, p [a, b, c]) : ∀ vs : List Value, vs.length = 3 → p vs := namesS fun a => names2 (h a)
theorem names4 {p : List Value → Prop} (h : ∀ a b c d, p [a, b, c, d]) : ∀ vs : List Value, vs.length = 4 → p vs := namesS fun a => names3 (h a)
theorem names5 {p : List Value → Prop} (h : ∀ a b c d e, p [a, b, c, d, e]) : ∀ vs : List Value, vs.length = 5 → p vs := namesS fun a => names4 (h a)
theorem WC.fn {f : Addr} {name qual : Str} {params : Arguments} {body : List Stmt} {scope : Scope} {dV kV doc pm cdv ct oc : Value} {an od : Option Addr} {osl : Array (Option Value)} {Us : List V} (Y : Wd K hb)
    (hl : List.lookup f K = some ⟨oc, od, .func (fnOf name qual params body scope dV kV doc pm an cdv ct), osl⟩) (hcd : codeIn K cdv qual = true) (names : List Str)
    (hbn : ∀ vs : List Value, vs.length = names.length → bindArgs (fnOf name qual params body scope dV kV doc pm an cdv ct) ⟨vs, []⟩ = pure (names.zip vs))
    (hkd : ∀ n ∈ names, scope.names.lookup n = some .local ∨ scope.names.lookup n = some .cell) (hco : scope.isCoroutine = false) (hgen : scope.isGenerator = false) (hk : scope.kind = .function) (hlen : Us.length = names.length)
    (H : WS prog w hb k scope body (updAll (fun _ => none) names Us) μ (noneK P) P) : WC prog w hb (k + 1) (.ref f) Us μ P := by
  intro A X s vs Q E h2 C rs hQ
  obtain ⟨p, loose, mg, mb, T⟩ := Y.top
  have KX := Y.kin.keeps C.base
  have lvs : vs.length = names.length := rs.length.trans hlen
  refine wpAny_call (codeAny_call_cells (fd := fnOf name qual params body scope dV kV doc pm an cdv ct) (body := body) h2.lim (KX _ _ hl) rfl (T.nolimit.keeps C.base) (codeRec_of KX hcd) rfl (hbn vs lvs) rfl ?_ ?_ hco hgen hk)
  · intro x hx
    have hm : x.1 ∈ names := (List.of_mem_zip (a := x.1) (b := x.2) hx).1
    rcases hkd x.1 hm with h | h
    · exact .inl h
    · exact .inr ⟨h, cellsFrom_some _ _ _ (.inl h)⟩
  intro s₁ ic
  generalize henv : callEnvC (fnOf name qual params body scope dV kV doc pm an cdv ct) s.heap.objs.size f = env at ic ⊢
  have e1 : env.scope = scope := by rw [← henv]; rfl
  have e2 : env.globals = mainGlobals := by rw [← henv]; rfl
  have e3 : env.builtins = builtinsNs := by rw [← henv]; rfl
  have e4 : env.locals = s.heap.objs.size := by rw [← henv]; rfl
  have e5 : env.cells = cellsFrom (s.heap.objs.size + 1) scope.names [] := by rw [← henv]; rfl
  obtain ⟨⟨⟨h₁, tk₁, rfl⟩, ns, kp, frh⟩, cell, apart, above⟩ := ic
  simp only at ns kp cell
  have memc : ∀ x c, env.cells.lookup x = some c → (x, c) ∈ env.cells := fun x c e => lookup_mem e
  have own : ∀ a, Own env a → s.heap.get? a = none := by
    rintro a (rfl | ⟨x, e⟩)
    · exact Heap.get?_none_of_le frh
    · exact Heap.get?_none_of_le (Nat.le_trans frh (Nat.le_of_lt (above x a (memc x a e))))
  have nM : ∀ a, Own env a → ¬ μ.M a := fun a o m => C.isLive (C.mu.inX m) (own a o)
  have liveO : ∀ a, Own env a → ∃ o, h₁.get? a = some o := by
    rintro a (rfl | ⟨x, e⟩)
    · obtain ⟨o, _, _, e, _⟩ := ns; exact ⟨o, e⟩
    · obtain ⟨o, e, _⟩ := cell x a e; exact ⟨o, e⟩
  have mu1 : HasMut (plusS X (Own env)) h₁ μ := (C.mu.plusS own).ext (N := fun _ => False) (.keeps kp) (fun _ q => q.elim) fun _ q => q.elim
  have Cs1 : Cs hb (plusS X (Own env)) μ h₁ := by
    refine ⟨fun b o e => kp b o (C.base b o e), fun a x => ?_, mu1⟩
    rcases x with x | x
    · obtain ⟨e, o, e'⟩ := C.xs a x; exact ⟨e, o, kp a o e'⟩
    · exact ⟨C.fresh (own a x), liveO a x⟩
  have kfe : ∀ n, env.kindOf n = scope.names.lookup n := fun n => by rw [← e1]; rfl
  have Fm1 : Fm (plusS X (Own env)) env (updAll (fun _ => none) names Us) μ h₁ := by
    refine ⟨by rw [e1]; exact hk, e2, e3, ⟨.inr (.inl rfl), nM _ (.inl rfl)⟩, fun x c e => ⟨.inr (.inr ⟨x, e⟩), nM _ (.inr ⟨x, e⟩), ?_, ?_⟩, ⟨fun x y c hx hy => pw_inj apart (memc x c hx) (memc y c hy), fun x hx => Option.isSome_iff_exists.mp (by rw [e5]; exact cellsFrom_some _ _ _ (.inl (by rw [← kfe]; exact hx)))⟩, _, ns, fun x U hx => ?_⟩
    · exact Nat.ne_of_gt (above x c (memc x c e))
    · obtain ⟨o, e, d⟩ := cell x c e; exact ⟨o, _, e, d⟩
    · have rs1 : All2 (RV (plusS X (Own env)) h₁ μ) vs Us := rs.imp fun v U r => (r.plusS own).ext (N := fun _ => False) (.keeps kp) (fun _ q => q.elim) (.refl _)
      rcases bind_go (kf := env.kindOf) names vs Us (fun _ => none) (fun _ => none) (fun _ => none) rs1 lvs (fun n hn => by rw [kfe]; exact hkd n hn) (fun _ _ q => by cases q) x U hx with ⟨k1, v, k2, k3⟩ | ⟨k1, v, k2, k3⟩
      · exact .inl ⟨k1, v, k2, k3⟩
      · have kc : (env.cells.lookup x).isSome = true := by rw [e5]; exact cellsFrom_some _ _ _ (.inl (by rw [← kfe]; exact k1))
        obtain ⟨c, hc⟩ := Option.isSome_iff_exists.mp kc
        obtain ⟨o, eo, d⟩ := cell x c hc
        rw [k2] at d
        exact .inr ⟨.inl k1, c, o, v, hc, eo, d, k3⟩
  have fin : ∀ v h' tk U μ', P U μ' → NxtS (plusS X (Own env)) env μ h₁ μ' h' → RV (plusS X (Own env)) h' μ' v U → Q v { s with heap := h', toks := tk } := by
    intro v h' tk U μ' p n r
    refine hQ v h' tk U μ' p ⟨⟨fun b o nb e => ?_, fun b o e => n.ext.2 b o (kp b o e)⟩, n.mu.unplus (fun _ x => .inl x) (fun a m => C.mu.inX ((n.same.M a).mp m)), n.same⟩ (r.sub fun _ x => .inl x)
    refine n.ext.1 b o (fun q => ?_) (kp b o e)
    rcases q with q | q
    · exact nb q
    · rw [own b q] at e; cases e
  refine wpAny_mono (H (A.deeper env) env (plusS X (Own env)) { s with heap := h₁, toks := tk₁ } (fun fl s' => Q (match fl with | .ret v => v | _ => .none) s') (fun _ _ => False) e1 (h2.deeper env) Cs1 Fm1 ?_ ?_) (fun fl s' q => ?_) fun _ _ q => q.elim
  · intro h' tk ρ' μ' p n F'
    exact fin .none h' tk (.d .none) μ' p n .none
  · intro v h' tk U μ' p n r
    exact fin v h' tk U μ' p n r
  · exact q
end
section
variable {prog : Program} {w : World} {hb : Heap} {μ : Mut} {k : Nat} {P : V → Mut → Prop} {T : Bool → Mut → Prop} {a b : Int} {d1 d2 d : PyData} {xs ys : List PyData}

theorem Room.more {A : Around} {j k : Nat} (R : Room A k) (h : j ≤ k) : Room A j := R.less h
theorem WC.more {f : Value} {args : List V} {j : Nat} (H : WC prog w hb j f args μ P) (h : j ≤ k) : WC prog w hb k f args μ P :=
  fun A X s vs Q E h2 C rs hQ => H A X s vs Q E (h2.less h) C rs hQ
theorem WC.mono {f : Value} {args : List V} {P' : V → Mut → Prop} (H : WC prog w hb k f args μ P) (h : ∀ U μ', P U μ' → P' U μ') : WC prog w hb k f args μ P' :=
  fun A X s vs Q E h2 C rs hQ => H A X s vs Q E h2 C rs fun v h' tk U μ' p => hQ v h' tk U μ' (h U μ' p)
/-- a call whose answer is known -/
theorem WC.use {f : Value} {args : List V} {j : Nat} {U : V} (H : WC prog w hb j f args μ fun U' μ' => U' = U ∧ μ' = μ) (h : j ≤ k) (p : P U μ) : WC prog w hb k f args μ P :=
  (H.more h).mono fun U' μ' e => by obtain ⟨rfl, rfl⟩ := e; exact p
end
noncomputable abbrev Pf := List Bool
noncomputable def bn : Pf → Nat
  | [] => 0
  | c :: p => c.toNat * 2 ^ p.length + bn p
noncomputable def val (b : Nat) (p : Pf) : Int := ((bn p * 2 ^ (b - p.length) : Nat) : Int)
noncomputable abbrev encP (b : Nat) (p : Pf) : PyData := .tuple [.int (val b p), .int p.length]
noncomputable def lcp : Pf → Pf → Pf
  | a :: p, b :: q => if a = b then a :: lcp p q else []
  | _, _ => []
/-- dictionary order -/
noncomputable def plt : Pf → Pf → Bool
  | [], [] => false
  | [], _ :: _ => true
  | _ :: _, [] => false
  | a :: p, b :: q => (!a && b) || (a == b && plt p q)

noncomputable def allL : Nat → List Pf
  | 0 => [[]]
  | n + 1 => [] :: (allL n).flatMap fun p => [false :: p, true :: p]
theorem mem_allL : ∀ (n : Nat) (p : Pf), p.length ≤ n → p ∈ allL n
  | 0, [], _ => .head _
  | n + 1, [], _ => .head _
  | n + 1, c :: p, h => by
    have ih := mem_allL n p (by simpa using h)
    refine .tail _ (List.mem_flatMap.mpr ⟨p, ih, ?_⟩)
    cases c <;> simp

structure BP (b : Nat) : Prop where
  lo : 3 ≤ b
  hi : b ≤ 4
theorem BP.two {b : Nat} (h : BP b) : b = 3 ∨ b = 4 := by have := h.lo; have := h.hi; omega

section
variable {b : Nat} {p q : Pf} {i : Nat}
theorem f_bit0 : ([3, 4].all fun b => (allL 4).all fun p => (List.range 4).all fun i => !(decide (p.length ≤ b) && decide (i < p.length)) || (Builtin.bitAnd ((val b p).fdiv (2 ^ ((b : Int) - 1 - i).toNat)) 1 == if p.getD i false then 1 else 0)) = true := by decide +kernel
theorem f_bit (hb : BP b) (hp : p.length ≤ b) (hi : i < p.length) : Builtin.bitAnd ((val b p).fdiv (2 ^ ((b : Int) - 1 - i).toNat)) 1 = if p.getD i false then 1 else 0 := by
  have h := f_bit0
  rw [List.all_eq_true] at h
  have h1 := h b (by rcases hb.two with rfl | rfl <;> simp)
  rw [List.all_eq_true] at h1
  have h2 := h1 p (mem_allL 4 p (by have := hb.hi; omega))
  rw [List.all_eq_true] at h2
  have h3 := h2 i (List.mem_range.mpr (by have := hb.hi; omega))
  simpa [hp, hi] using h3

theorem f_first0 : ([3, 4].all fun b => (allL 4).all fun p => (List.range 5).all fun i => !(decide (p.length ≤ b) && decide (i ≤ p.length)) || ((val b p).fdiv (2 ^ ((b : Int) - i).toNat) * 2 ^ ((b : Int) - i).toNat == val b (p.take i))) = true := by decide +kernel
theorem f_first (hb : BP b) (hp : p.length ≤ b) (hi : i ≤ p.length) : (val b p).fdiv (2 ^ ((b : Int) - i).toNat) * 2 ^ ((b : Int) - i).toNat = val b (p.take i) := by
  have h := f_first0
  rw [List.all_eq_true] at h
  have h1 := h b (by rcases hb.two with rfl | rfl <;> simp)
  rw [List.all_eq_true] at h1
  have h2 := h1 p (mem_allL 4 p (by have := hb.hi; omega))
  rw [List.all_eq_true] at h2
  have h3 := h2 i (List.mem_range.mpr (by have := hb.hi; omega))
  simpa [hp, hi] using h3

theorem f_mask0 : ([3, 4].all fun b => (allL 4).all fun p => (List.range 5).all fun i => !(decide (p.length ≤ b) && decide (i ≤ p.length)) || (Builtin.bitAnd (val b p) ((1 * 2 ^ ((i : Int)).toNat - 1) * 2 ^ ((b : Int) - i).toNat) == val b (p.take i))) = true := by decide +kernel
theorem f_mask (hb : BP b) (hp : p.length ≤ b) (hi : i ≤ p.length) : Builtin.bitAnd (val b p) ((1 * 2 ^ ((i : Int)).toNat - 1) * 2 ^ ((b : Int) - i).toNat) = val b (p.take i) := by
  have h := f_mask0
  rw [List.all_eq_true] at h
  have h1 := h b (by rcases hb.two with rfl | rfl <;> simp)
  rw [List.all_eq_true] at h1
  have h2 := h1 p (mem_allL 4 p (by have := hb.hi; omega))
  rw [List.all_eq_true] at h2
  have h3 := h2 i (List.mem_range.mpr (by have := hb.hi; omega))
  simpa [hp, hi] using h3

theorem f_val0 : ([3, 4].all fun b => (allL 4).all fun p => !decide (p.length ≤ b) || (decide (0 ≤ val b p) && decide (val b p < 16))) = true := by decide +kernel
theorem f_val (hb : BP b) (hp : p.length ≤ b) : 0 ≤ val b p ∧ val b p < 16 := by
  have h := f_val0
  rw [List.all_eq_true] at h
  have h1 := h b (by rcases hb.two with rfl | rfl <;> simp)
  rw [List.all_eq_true] at h1
  have h2 := h1 p (mem_allL 4 p (by have := hb.hi; omega))
  simpa [hp] using h2

theorem f_cmp0 : ([3, 4].all fun b => (allL 4).all fun p => (allL 4).all fun q => !(decide (p.length ≤ b) && decide (q.length ≤ b)) || ((plt p q == (decide (val b p < val b q) || (decide (val b p = val b q) && decide (p.length < q.length)))) && (decide (p = q) == (decide (val b p = val b q) && decide (p.length = q.length))))) = true := by decide +kernel
theorem f_cmp (hb : BP b) (hp : p.length ≤ b) (hq : q.length ≤ b) : plt p q = (decide (val b p < val b q) || (decide (val b p = val b q) && decide (p.length < q.length))) ∧ (p = q ↔ val b p = val b q ∧ p.length = q.length) := by
  have h := f_cmp0
  rw [List.all_eq_true] at h
  have h1 := h b (by rcases hb.two with rfl | rfl <;> simp)
  rw [List.all_eq_true] at h1
  have h2 := h1 p (mem_allL 4 p (by have := hb.hi; omega))
  rw [List.all_eq_true] at h2
  have h3 := h2 q (mem_allL 4 q (by have := hb.hi; omega))
  simp only [hp, hq, decide_true, Bool.and_self, Bool.not_true, Bool.false_or, Bool.and_eq_true, beq_iff_eq] at h3
  refine ⟨h3.1, ?_⟩
  have h4 := h3.2
  constructor
  · rintro rfl; exact ⟨rfl, rfl⟩
  · rintro ⟨e1, e2⟩
    rw [decide_eq_true e1, decide_eq_true e2] at h4
    exact of_decide_eq_true h4
/-- a held address -/
theorem f_held0 : ([3, 4].all fun b => (allL 4).all fun p => (allL 4).all fun q => !(decide (p.length ≤ b) && decide (q.length = b)) || (((val b q).fdiv (2 ^ ((b : Int) - p.length).toNat) == (val b p).fdiv (2 ^ ((b : Int) - p.length).toNat)) == decide (q.take p.length = p))) = true := by decide +kernel
theorem f_held (hb : BP b) (hp : p.length ≤ b) (hq : q.length = b) : ((val b q).fdiv (2 ^ ((b : Int) - p.length).toNat) == (val b p).fdiv (2 ^ ((b : Int) - p.length).toNat)) = decide (q.take p.length = p) := by
  have h := f_held0
  rw [List.all_eq_true] at h
  have h1 := h b (by rcases hb.two with rfl | rfl <;> simp)
  rw [List.all_eq_true] at h1
  have h2 := h1 p (mem_allL 4 p (by have := hb.hi; omega))
  rw [List.all_eq_true] at h2
  have h3 := h2 q (mem_allL 4 q (by have := hb.hi; omega))
  simpa [hp, hq] using h3

/-- the addresses -/
noncomputable def bitsOf : Nat → Nat → Pf
  | 0, _ => []
  | n + 1, i => decide (2 ^ n ≤ i % 2 ^ (n + 1)) :: bitsOf n i
theorem bitsOf_length : ∀ (n i : Nat), (bitsOf n i).length = n
  | 0, _ => rfl
  | n + 1, i => by rw [bitsOf, List.length_cons, bitsOf_length]
theorem f_addr0 : ([3, 4].all fun b => (List.range 16).all fun i => !decide (i < 2 ^ b) || (val b (bitsOf b i) == (i : Int))) = true := by decide +kernel
theorem f_addr (hb : BP b) (hi : i < 2 ^ b) : val b (bitsOf b i) = (i : Int) := by
  have h := f_addr0
  rw [List.all_eq_true] at h
  have h1 := h b (by rcases hb.two with rfl | rfl <;> simp)
  rw [List.all_eq_true] at h1
  have h2 := h1 i (List.mem_range.mpr (by rcases hb.two with rfl | rfl <;> (simp at hi; omega)))
  simpa [hi] using h2
theorem f_draw0 : ([3, 4].all fun b => (List.range 5).all fun l => (List.range 16).all fun i => !(decide (l ≤ b) && decide (i < 2 ^ l)) || (val b (bitsOf l i) == (i : Int) * 2 ^ ((b : Int) - l).toNat)) = true := by decide +kernel
theorem f_draw {l : Nat} (hb : BP b) (hl : l ≤ b) (hi : i < 2 ^ l) : val b (bitsOf l i) = (i : Int) * 2 ^ ((b : Int) - l).toNat := by
  have h := f_draw0
  rw [List.all_eq_true] at h
  have h1 := h b (by rcases hb.two with rfl | rfl <;> simp)
  rw [List.all_eq_true] at h1
  have h2 := h1 l (List.mem_range.mpr (by have := hb.hi; omega))
  rw [List.all_eq_true] at h2
  have hl4 : l ≤ 4 := by have := hb.hi; omega
  have : i < 16 := Nat.lt_of_lt_of_le hi (Nat.le_trans (Nat.pow_le_pow_right (by decide) hl4) (by decide))
  have h3 := h2 i (List.mem_range.mpr this)
  simpa [hl, hi] using h3

theorem lcp_le_left : ∀ p q : Pf, (lcp p q).length ≤ p.length
  | [], _ => by simp [lcp]
  | _ :: _, [] => by simp [lcp]
  | a :: p, b :: q => by
    unfold lcp
    split
    · simp [lcp_le_left p q]
    · simp
theorem lcp_le_right : ∀ p q : Pf, (lcp p q).length ≤ q.length
  | [], _ => by simp [lcp]
  | _ :: _, [] => by simp [lcp]
  | a :: p, b :: q => by
    unfold lcp
    split
    · simp [lcp_le_right p q]
    · simp
/-- the loop that counts shared bits -/
theorem lcp_step : ∀ (p q : Pf) (m : Nat), m ≤ (lcp p q).length → m < p.length → m < q.length → (p.getD m false = q.getD m false ↔ m < (lcp p q).length)
  | [], _, _, _, h, _ => by simp at h
  | _ :: _, [], _, _, _, h => by simp at h
  | a :: p, b :: q, m, hm, h1, h2 => by
    unfold lcp at hm ⊢
    by_cases e : a = b
    · rw [if_pos e] at hm ⊢
      cases m with
      | zero => simp [e]
      | succ m =>
        have := lcp_step p q m (by simpa using hm) (by simpa using h1) (by simpa using h2)
        simpa using this
    · rw [if_neg e] at hm ⊢
      simp at hm
      subst hm
      simp [e]
end

/-- trees -/
inductive Tr where
  | nil
  | node (p : Pf) (w : Option Int) (l r : Tr)
noncomputable def encO : Option Int → PyData
  | none => .none
  | some i => .int i
noncomputable def encT (b : Nat) : Tr → PyData
  | .nil => .none
  | .node p w l r => .tuple [encP b p, encO w, encT b l, encT b r]
noncomputable def Tr.height : Tr → Nat
  | .nil => 0
  | .node _ _ l r => max l.height r.height + 1
/-- every prefix is short enough -/
noncomputable def Tr.short (b : Nat) : Tr → Prop
  | .nil => True
  | .node p _ l r => p.length ≤ b ∧ l.short b ∧ r.short b

noncomputable def fork (h : Pf) (t : Tr) (p : Pf) (s : Tr) (m : Nat) : Tr :=
  if p.getD m false then (if h.getD m false then .node (h.take m) none .nil s else .node (h.take m) none t s)
  else (if h.getD m false then .node (h.take m) none s t else .node (h.take m) none s .nil)
noncomputable def put (t : Tr) (p : Pf) (w : Int) : Tr :=
  match t with
  | .nil => .node p (some w) .nil .nil
  | .node h wh l r =>
    if (lcp h p).length = h.length ∧ (lcp h p).length = p.length then .node h (some w) l r
    else if (lcp h p).length = h.length then (if p.getD h.length false then .node h wh l (put r p w) else .node h wh (put l p w) r)
    else if (lcp h p).length = p.length then (if h.getD p.length false then .node p (some w) .nil (.node h wh l r) else .node p (some w) (.node h wh l r) .nil)
    else fork h (.node h wh l r) p (.node p (some w) .nil .nil) (lcp h p).length
noncomputable def shrunk : Tr → Tr
  | .nil => .nil
  | .node h (some w) l r => .node h (some w) l r
  | .node h none .nil r => r
  | .node h none l .nil => l
  | .node h none l r => .node h none l r
noncomputable def drop (t : Tr) (p : Pf) : Tr :=
  match t with
  | .nil => .nil
  | .node h wh l r =>
    if (lcp h p).length < h.length then .node h wh l r
    else if p.length = h.length then shrunk (.node h none l r)
    else if p.getD h.length false then shrunk (.node h wh l (drop r p)) else shrunk (.node h wh (drop l p) r)
noncomputable def look (t : Tr) (a : Pf) (found : Option (Pf × Int)) (b : Nat) : Option (Pf × Int) :=
  match t with
  | .nil => found
  | .node h wh l r =>
    if a.take h.length = h then
      let f := match wh with | some w => some (h, w) | none => found
      if h.length = b then f else if a.getD h.length false then look r a f b else look l a f b
    else found
noncomputable def exact (t : Tr) (p : Pf) : Option Int :=
  match t with
  | .nil => none
  | .node h wh l r => if h.length < p.length ∧ (lcp h p).length = h.length then (if p.getD h.length false then exact r p else exact l p) else if h = p then wh else none
noncomputable abbrev Row := Pf × Int
noncomputable def all : Tr → List Row
  | .nil => []
  | .node h wh l r => (match wh with | some w => [(h, w)] | none => []) ++ all l ++ all r
noncomputable def below (t : Tr) (p : Pf) : List Row :=
  match t with
  | .nil => []
  | .node h wh l r => if (lcp h p).length = p.length then all (.node h wh l r) else if (lcp h p).length = h.length then (if p.getD h.length false then below r p else below l p) else []
noncomputable abbrev encR (b : Nat) (r : Row) : PyData := .tuple [encP b r.1, .int r.2]
noncomputable def encF (b : Nat) : Option Row → PyData
  | none => .none
  | some r => encR b r
noncomputable def encL (b : Nat) (rs : List Row) : PyData := .list (rs.map (encR b))
section
variable {prog : Program} {w : World} {μ : Mut} {P : V → Mut → Prop} {value slice : Expr} {i : Int} {b : Nat} {p : Pf} {wh : Option Int} {l r : Tr} {row : Row}
theorem opK.t0 (h : P (.d (encP b p)) μ) (h0 : i = ((0 : Nat) : Int) := by decide) (hs : ∀ o k u, subscripted slice false (.ref o) (.int k u) = operate [.ref o, .int k u] (getItem (.ref o) (.int k u)) := by intro _ _ _; with_unfolding_all rfl) :
    opK prog w (subscriptTail value slice) P (.d (encT b (.node p wh l r))) (.d (.int i)) μ := opK.item0 h h0 hs
theorem opK.t1 (h : P (.d (encO wh)) μ) (h0 : i = ((1 : Nat) : Int) := by decide) (hs : ∀ o k u, subscripted slice false (.ref o) (.int k u) = operate [.ref o, .int k u] (getItem (.ref o) (.int k u)) := by intro _ _ _; with_unfolding_all rfl) :
    opK prog w (subscriptTail value slice) P (.d (encT b (.node p wh l r))) (.d (.int i)) μ := opK.item1 h h0 hs
theorem opK.t2 (h : P (.d (encT b l)) μ) (h0 : i = ((2 : Nat) : Int) := by decide) (hs : ∀ o k u, subscripted slice false (.ref o) (.int k u) = operate [.ref o, .int k u] (getItem (.ref o) (.int k u)) := by intro _ _ _; with_unfolding_all rfl) :
    opK prog w (subscriptTail value slice) P (.d (encT b (.node p wh l r))) (.d (.int i)) μ := opK.item2 h h0 hs
theorem opK.t3 (h : P (.d (encT b r)) μ) (h0 : i = ((3 : Nat) : Int) := by decide) (hs : ∀ o k u, subscripted slice false (.ref o) (.int k u) = operate [.ref o, .int k u] (getItem (.ref o) (.int k u)) := by intro _ _ _; with_unfolding_all rfl) :
    opK prog w (subscriptTail value slice) P (.d (encT b (.node p wh l r))) (.d (.int i)) μ := opK.item3 h h0 hs
theorem listK.enc {P : List PyData → Mut → Prop} {rs : List Row} (h : P (rs.map (encR b)) μ) : listK P (.d (encL b rs)) μ := ⟨_, rfl, h⟩
theorem opK.f0 (h : P (.d (encP b row.1)) μ) (h0 : i = ((0 : Nat) : Int) := by decide) (hs : ∀ o k u, subscripted slice false (.ref o) (.int k u) = operate [.ref o, .int k u] (getItem (.ref o) (.int k u)) := by intro _ _ _; with_unfolding_all rfl) :
    opK prog w (subscriptTail value slice) P (.d (encF b (some row))) (.d (.int i)) μ := opK.item0 h h0 hs
end
local macro_rules | `(tactic| walk_at "p") => `(tactic| first | with_reducible assumption | with_reducible apply upd_same | with_unfolding_all rfl | (with_reducible refine upd_ne (by decide) ?_; walk_at "p"))
local macro_rules | `(tactic| walk_at "u") => `(tactic| with_reducible first | refine boolK.mk (twoK.mk ?_) | refine boolK.mk (owtK.mk ?_) | refine twoK.mk ?_ | refine owtK.mk ?_)
local macro_rules | `(tactic| walk_at "e") => `(tactic| first
  | refine WE.name ?_ | refine WE.cint ?_ | refine WE.sub ?_ | refine WE.call (by assumption) ?_ | refine WE.tup ?_ | refine WE.bin ?_ | refine WE.ife ?_ | refine WE.cnone ?_ | refine WE.cmp ?_ | refine WE.and2 ?_ | refine WE.cbool ?_ | refine WE.lst ?_)
local macro_rules | `(tactic| walk_at "o") => `(tactic| first
  | refine opK.item0 ?_ | refine opK.item1 ?_ | refine opK.item2 ?_ | refine opK.item3 ?_ | refine opK.t0 ?_ | refine opK.t1 ?_ | refine opK.t2 ?_ | refine opK.t3 ?_ | refine opK.f0 ?_
  | refine opK.add ?_ | refine opK.sub ?_ | refine opK.and ?_ | refine opK.lt ?_ | refine opK.le ?_ | refine opK.gt ?_ | refine opK.ge ?_ | refine opK.isN ?_ | refine opK.isNotN ?_)
local macro_rules | `(tactic| walk_at "b") => `(tactic| first
  | refine twoK.yes (decide_eq_true (by first | assumption | omega)) ?_ | refine twoK.no (decide_eq_false (by first | assumption | omega)) ?_
  | refine twoK.yes (by with_unfolding_all rfl) ?_ | refine twoK.no (by with_unfolding_all rfl) ?_)
local macro_rules | `(tactic| walk_at "c") => `(tactic| first
  | refine owtK.yes (decide_eq_true (by first | assumption | omega)) ?_ | refine owtK.no (decide_eq_false (by first | assumption | omega)) ?_
  | refine owtK.yes (by with_unfolding_all rfl) ?_ | refine owtK.no (by with_unfolding_all rfl) ?_)
local macro_rules | `(tactic| walk_at "s") => `(tactic| with_reducible first
  | (show WE _ _ _ _ _ _ _ _ _; walk_at "e") | (show opK _ _ _ _ _ _ _; walk_at "o") | refine sndK.mk ?_
  | (show WEs _ _ _ _ _ _ _ _ _; first | refine WEs.cons ?_ | refine WEs.nil ?_) | refine consK.mk ?_ | refine pushK.mk ?_ | refine callK.mk ?_
  | (show WT _ _ _ _ _ _ _ _ _; first | refine WT.cmp ?_ | refine WT.bop ?_ | refine WT.not ?_ | refine WT.val ?_)
  | (show twoK _ _ _ _; walk_at "b") | (show owtK _ _ _ _; walk_at "c") | refine boolK.mk ?_ | refine stmK.mk ?_ | refine expK.mk ?_
  | (show WX _ _ _ _ _ _ _ _ _ _; first | refine WX.asg ?_ | refine WX.if ?_ | refine WX.ret ?_)
  | (show WS _ _ _ _ _ _ _ _ _ _; first | refine WS.cons ?_ | refine WS.nil ?_) | refine restK.mk ?_ | refine setK.mk ?_
  | (show tupK _ _ _; first | refine tupK.n2 ?_ | refine tupK.n4 ?_ | refine tupK.n3 ?_ | refine tupK.n1 ?_ | refine tupK.n0 ?_)
  | (show WTs _ _ _ _ _ _ _ _ _ _; first | refine WTs.nil ?_ | refine WTs.and ?_ | refine WTs.or ?_) | refine allK.mk ?_ | refine notK.mk ?_ | refine unpK.n2 ?_ | refine unpK.n3 ?_ | refine unfK.n4 ?_ | refine lstK.n0 ?_ | refine lstK.n1 ?_ | refine noneK.mk ?_ | refine augK.add ?_ | refine exprK.mk ?_ | refine listK.mk ?_ | refine listK.enc ?_ | refine tuplK.mk ?_ | refine rangeK.mk (n := 5) (by decide) ?_)
noncomputable abbrev KK (w : World) : Frag := hd.heap_1 w.params
section
variable {prog : Program} {w : World} {hb : Heap} {μ : Mut} {k : Nat} {b : Nat} {p q : Pf}
theorem pw_small {l : Nat} (h : l ≤ 4) : ((1 * 2 ^ ((l : Int)).toNat - 1 : Int)).natAbs < 2 ^ 64 := by
  have : l = 0 ∨ l = 1 ∨ l = 2 ∨ l = 3 ∨ l = 4 := by omega
  rcases this with rfl | rfl | rfl | rfl | rfl <;> decide
theorem mask_of_c (Y : Wd (KK w) hb) (B : BP b) (l : Nat) (hl : l ≤ b) : WC prog w hb 1 (.ref 28) [.d (.int l), .d (.int b)] μ fun U μ' => U = .d (.int ((1 * 2 ^ ((l : Int)).toNat - 1) * 2 ^ ((b : Int) - l).toNat)) ∧ μ' = μ := by
  have h4 := B.hi
  refine WC.fn Y (by with_unfolding_all rfl) (by with_unfolding_all rfl) ["length", "bits"] (names2 fun _ _ => rfl) (by decide) rfl rfl rfl rfl ?_
  repeat walk_at "s"
  refine opK.mk (OpD.lshift ?_ ?_ ?_) ?_; omega; omega; decide
  repeat walk_at "s"
  refine opK.mk (OpD.lshift ?_ ?_ ?_) ?_; omega; omega; exact pw_small (by omega)
  exact ⟨rfl, rfl⟩
theorem bit_of_c (Y : Wd (KK w) hb) (B : BP b) (hp : p.length ≤ b) {i : Nat} (hi : i < p.length) : WC prog w hb 1 (.ref 90) [.d (.int (val b p)), .d (.int i), .d (.int b)] μ fun U μ' => U = .d (.int (if p.getD i false then 1 else 0)) ∧ μ' = μ := by
  have h4 := B.hi
  refine WC.fn Y (by with_unfolding_all rfl) (by with_unfolding_all rfl) ["address", "place", "bits"] (names3 fun _ _ _ => rfl) (by decide) rfl rfl rfl rfl ?_
  repeat walk_at "s"
  refine opK.mk (OpD.rshift ?_) ?_; omega
  repeat walk_at "s"
  rw [f_bit B hp hi]
  exact ⟨rfl, rfl⟩
theorem first_bits_c (Y : Wd (KK w) hb) (B : BP b) (hp : p.length ≤ b) {i : Nat} (hi : i ≤ p.length) : WC prog w hb 1 (.ref 83) [.d (.int (val b p)), .d (.int i), .d (.int b)] μ fun U μ' => U = .d (.int (val b (p.take i))) ∧ μ' = μ := by
  have h4 := B.hi
  refine WC.fn Y (by with_unfolding_all rfl) (by with_unfolding_all rfl) ["address", "length", "bits"] (names3 fun _ _ _ => rfl) (by decide) rfl rfl rfl rfl ?_
  repeat walk_at "s"
  refine opK.mk (OpD.rshift ?_) ?_; omega
  repeat walk_at "s"
  refine opK.mk (OpD.lshift ?_ ?_ ?_) ?_; omega; omega
  · have hv := f_val B hp
    have : (val b p).fdiv (2 ^ ((b : Int) - i).toNat) = (val b p) / (2 ^ ((b : Int) - i).toNat) := Int.fdiv_eq_ediv_of_nonneg _ (Int.le_of_lt (Int.pow_pos (by decide)))
    have h1 : 0 ≤ (val b p) / (2 ^ ((b : Int) - i).toNat) := Int.ediv_nonneg hv.1 (Int.le_of_lt (Int.pow_pos (by decide)))
    have h2 : (val b p) / (2 ^ ((b : Int) - i).toNat) ≤ val b p := Int.ediv_le_self _ hv.1
    omega
  rw [f_first B hp hi]
  exact ⟨rfl, rfl⟩
theorem encP_mk (b : Nat) (p : Pf) : encP b p = .tuple [.int (val b p), .int p.length] := rfl
theorem shaped_encP (b : Nat) (p : Pf) : SeqAt.shaped (encP b p) = true := by simp [SeqAt.shaped, encP, PyData.canLay0, PyData.canLayAll0, PyData.depth, PyData.depthAll]
theorem shaped_int (i : Int) : SeqAt.shaped (.int i) = true := by simp [SeqAt.shaped, PyData.canLay0, PyData.depth]
theorem shaped_bool (i : Bool) : SeqAt.shaped (.bool i) = true := by simp [SeqAt.shaped, PyData.canLay0, PyData.depth]
theorem shaped_none : SeqAt.shaped .none = true := by simp [SeqAt.shaped, PyData.canLay0, PyData.depth]
theorem eqv_int (a b : Int) : PyData.eqv (.int a) (.int b) = (a == b) := by simp [PyData.eqv]
theorem eqv_encP (B : BP b) (hp : p.length ≤ b) (hq : q.length ≤ b) : PyData.eqv (encP b p) (encP b q) = decide (p = q) := by
  have h := (f_cmp B hp hq).2
  simp only [encP, PyData.eqv, PyData.eqvAll]
  by_cases e : p = q
  · subst e; simp
  · rw [decide_eq_false e]
    have : ¬ (val b p = val b q ∧ p.length = q.length) := fun x => e (h.mpr x)
    by_cases c1 : val b p = val b q
    · have : p.length ≠ q.length := fun x => this ⟨c1, x⟩
      simp; omega
    · simp [c1]
theorem min_nat (a b : Nat) : (if (b : Int) < (a : Int) then (b : Int) else (a : Int)) = ((min a b : Nat) : Int) := by
  by_cases h : b < a
  · rw [if_pos (by omega)]; congr 1; omega
  · rw [if_neg (by omega)]; congr 1; omega
theorem bit_eq (a b : Bool) : ((if a then (1 : Int) else 0) == (if b then 1 else 0)) = (a == b) := by cases a <;> cases b <;> rfl
theorem shared_length_c (Y : Wd (KK w) hb) (B : BP b) (hp : p.length ≤ b) (hq : q.length ≤ b) : WC prog w hb 2 (.ref 97) [.d (encP b p), .d (encP b q), .d (.int b)] μ fun U μ' => U = .d (.int (lcp p q).length) ∧ μ' = μ := by
  have h4 := B.hi
  refine WC.fn Y (by with_unfolding_all rfl) (by with_unfolding_all rfl) ["one", "other", "bits"] (names3 fun _ _ _ => rfl) (by decide) rfl rfl rfl rfl ?_
  refine WS.cons ?_
  refine WX.asgT (xs := [(Str.ofString "most", _), (Str.ofString "many", _)]) (by decide) ["most", "many"] rfl ?_ (by intro _; rfl) (by intro env h; cases env; cases h; rfl)
  refine WE.tup (WEs.cons ?_)
  refine WE.callB Y (by with_unfolding_all rfl) (by with_unfolding_all rfl) (by with_unfolding_all rfl) (by decide) ?_
  repeat walk_at "s"
  refine WC.min ?_
  repeat walk_at "s"
  rw [min_nat]
  have l1 := lcp_le_left p q
  have l2 := lcp_le_right p q
  refine WX.while (fun n ρ' μ' => ∃ m, m ≤ (lcp p q).length ∧ n = (lcp p q).length - m ∧ μ' = μ ∧ ρ' "one" = some (.d (encP b p)) ∧ ρ' "other" = some (.d (encP b q)) ∧ ρ' "bits" = some (.d (.int b)) ∧
    ρ' "most" = some (.d (.int (min p.length q.length : Nat))) ∧ ρ' "many" = some (.d (.int (m : Nat)))) (lcp p q).length ⟨0, Nat.zero_le _, rfl, rfl, by walk_at "p", by walk_at "p", by walk_at "p", by walk_at "p", by walk_at "p"⟩ ?_
  rintro n ρ' μ' ⟨m, hm, rfl, rfl, e1, e2, e3, e4, e5⟩
  repeat walk_at "s"
  walk_at "u"
  refine ⟨fun hlt => ?_, fun hge => ?_⟩
  · have hlt := of_decide_eq_true hlt
    have hm1 : m < p.length := by omega
    have hm2 : m < q.length := by omega
    repeat walk_at "s"
    refine (bit_of_c Y B hp hm1).use (by omega) ?_
    repeat walk_at "s"
    refine (bit_of_c Y B hq hm2).use (by omega) ?_
    refine opK.mk (OpD.eq (shaped_int _) (shaped_int _)) ?_
    rw [eqv_int, bit_eq]
    have st := lcp_step p q m hm hm1 hm2
    walk_at "u"
    refine ⟨fun hc => ?_, fun hc => ?_⟩
    · have hc' : p.getD m false = q.getD m false := by simpa using hc
      refine WTs.nil ?_
      refine ⟨fun _ => ?_, fun h => by cases h⟩
      refine WS.cons (WX.aug (by with_unfolding_all rfl) e5 ?_)
      repeat walk_at "s"
      have := st.mp hc'
      exact ⟨(lcp p q).length - (m + 1), by omega, m + 1, by omega, rfl, rfl, by walk_at "p", by walk_at "p", by walk_at "p", by walk_at "p", by walk_at "p"⟩
    · refine ⟨fun h => (by cases h), fun _ => ?_⟩
      have hc' : ¬ (p.getD m false = q.getD m false) := by simpa using hc
      have : m = (lcp p q).length := by
        have := mt st.mpr hc'
        omega
      subst this
      repeat walk_at "s"
      exact ⟨rfl, rfl⟩
  · refine ⟨fun h => (by cases h), fun _ => ?_⟩
    have hge := of_decide_eq_false hge
    have : m = (lcp p q).length := by omega
    subst this
    repeat walk_at "s"
    exact ⟨rfl, rfl⟩
end
section
variable {prog : Program} {w : World} {hb : Heap} {μ : Mut} {k : Nat} {b : Nat} {p q : Pf}
noncomputable def cov (p q : Pf) : Bool := decide (q.take p.length = p)
theorem eqv_val (B : BP b) (hp : p.length ≤ b) (hq : q.length ≤ b) (hl : p.length = q.length) : (val b p == val b q) = decide (p = q) := by
  have h := (f_cmp B hp hq).2
  by_cases e : p = q
  · subst e; simp
  · rw [decide_eq_false e]
    have : val b p ≠ val b q := fun x => e (h.mpr ⟨x, hl⟩)
    simpa using this
theorem holds_address_c (Y : Wd (KK w) hb) (B : BP b) (hp : p.length ≤ q.length) (hq : q.length ≤ b) : WC prog w hb 2 (.ref 35) [.d (encP b p), .d (.int (val b q)), .d (.int b)] μ fun U μ' => U = .d (.bool (cov p q)) ∧ μ' = μ := by
  have h4 := B.hi
  refine WC.fn Y (by with_unfolding_all rfl) (by with_unfolding_all rfl) ["prefix", "address", "bits"] (names3 fun _ _ _ => rfl) (by decide) rfl rfl rfl rfl ?_
  repeat walk_at "s"
  refine (mask_of_c Y B p.length (by omega)).use (by omega) ?_
  repeat walk_at "s"
  refine opK.mk (OpD.eq (shaped_int _) (shaped_int _)) ?_
  rw [f_mask B hq hp, eqv_int, eqv_val B (by rw [List.length_take]; omega) (by omega) (by rw [List.length_take]; omega)]
  exact ⟨rfl, rfl⟩
theorem covers_c (Y : Wd (KK w) hb) (B : BP b) (hp : p.length ≤ b) (hq : q.length ≤ b) : WC prog w hb 3 (.ref 42) [.d (encP b p), .d (encP b q), .d (.int b)] μ fun U μ' => U = .d (.bool (cov p q)) ∧ μ' = μ := by
  have h4 := B.hi
  refine WC.fn Y (by with_unfolding_all rfl) (by with_unfolding_all rfl) ["one", "other", "bits"] (names3 fun _ _ _ => rfl) (by decide) rfl rfl rfl rfl ?_
  repeat walk_at "s"
  walk_at "u"
  refine ⟨fun h => ?_, fun h => ?_⟩
  · have h := of_decide_eq_true h
    repeat walk_at "s"
    refine (holds_address_c Y B (by omega) hq).use (by omega) ?_
    exact ⟨rfl, rfl⟩
  · have h := of_decide_eq_false h
    have : cov p q = false := by
      unfold cov
      refine decide_eq_false fun e => ?_
      have := congrArg List.length e
      rw [List.length_take] at this
      omega
    rw [this]
    exact ⟨rfl, rfl⟩
theorem first_of_row_c (Y : Wd (KK w) hb) {x : PyData} {xs : List PyData} : WC prog w hb 1 (.ref 54) [.d (.tuple (x :: xs))] μ fun U μ' => U = .d x ∧ μ' = μ := by
  refine WC.fn Y (by with_unfolding_all rfl) (by with_unfolding_all rfl) ["row"] (names1 fun _ => rfl) (by decide) rfl rfl rfl rfl ?_
  repeat walk_at "s"
  exact ⟨rfl, rfl⟩
theorem with_child_c (Y : Wd (KK w) hb) (c : Bool) (d1 d2 d3 d4 d : PyData) : WC prog w hb 1 (.ref 104) [.d (.tuple [d1, d2, d3, d4]), .d (.int (if c then 1 else 0)), .d d] μ fun U μ' => U = .d (.tuple [d1, d2, if c then d3 else d, if c then d else d4]) ∧ μ' = μ := by
  refine WC.fn Y (by with_unfolding_all rfl) (by with_unfolding_all rfl) ["node", "place", "child"] (names3 fun _ _ _ => rfl) (by decide) rfl rfl rfl rfl ?_
  repeat walk_at "s"
  refine opK.mk (OpD.eq (shaped_int _) (shaped_int _)) ?_
  rw [eqv_int]
  cases c
  · repeat walk_at "s"
    exact ⟨rfl, rfl⟩
  · repeat walk_at "s"
    exact ⟨rfl, rfl⟩
theorem fork_c (Y : Wd (KK w) hb) (B : BP b) {m : Nat} {wh : Option Int} {l r s1 s2 : Tr} {wp : Option Int} (hp : p.length ≤ b) (hq : q.length ≤ b) (h1 : m < p.length) (h2 : m < q.length) :
    WC prog w hb 2 (.ref 111) [.d (encT b (.node p wh l r)), .d (encT b (.node q wp s1 s2)), .d (.int m), .d (.int b)] μ fun U μ' => U = .d (encT b (fork p (.node p wh l r) q (.node q wp s1 s2) m)) ∧ μ' = μ := by
  have h4 := B.hi
  refine WC.fn Y (by with_unfolding_all rfl) (by with_unfolding_all rfl) ["one", "other", "length", "bits"] (names4 fun _ _ _ _ => rfl) (by decide) rfl rfl rfl rfl ?_
  repeat walk_at "s"
  refine (first_bits_c Y B hp (by omega)).use (by omega) ?_
  repeat walk_at "s"
  refine (bit_of_c Y B hp h1).use (by omega) ?_
  repeat walk_at "s"
  refine (with_child_c Y _ _ _ _ _ _).use (by omega) ?_
  repeat walk_at "s"
  refine (bit_of_c Y B hq h2).use (by omega) ?_
  repeat walk_at "s"
  refine (with_child_c Y _ _ _ _ _ _).use (by omega) ?_
  refine ⟨?_, rfl⟩
  have e1 : (p.take m).length = m := by rw [List.length_take]; omega
  unfold fork
  cases p.getD m false <;> cases q.getD m false <;> simp [encT, encO, encP, e1]
set_option maxHeartbeats 2000000 in
theorem shrunk_c (Y : Wd (KK w) hb) {wh : Option Int} {l r : Tr} : WC prog w hb 1 (.ref 125) [.d (encT b (.node p wh l r))] μ fun U μ' => U = .d (encT b (shrunk (.node p wh l r))) ∧ μ' = μ := by
  refine WC.fn Y (by with_unfolding_all rfl) (by with_unfolding_all rfl) ["node"] (names1 fun _ => rfl) (by decide) rfl rfl rfl rfl ?_
  cases wh <;> cases l <;> cases r <;> (repeat walk_at "s") <;> exact ⟨rfl, rfl⟩
end
section
variable {prog : Program} {w : World} {hb : Heap} {μ : Mut} {k : Nat} {b : Nat} {p q : Pf}
theorem OpD.eqN {m n : Nat} : OpD prog w (compareOp .Eq) (.int m) (.int n) (.bool (decide (m = n))) := by
  have h := OpD.eq (prog := prog) (w := w) (shaped_int m) (shaped_int n)
  have e : PyData.eqv (.int m) (.int n) = decide (m = n) := by
    rw [eqv_int]
    by_cases c : m = n
    · subst c; simp
    · have : (m : Int) ≠ n := by omega
      simp [c, this]
  rw [e] at h
  exact h
theorem OpD.eqVal (B : BP b) (hp : p.length ≤ b) (hq : q.length ≤ b) (hl : p.length = q.length) : OpD prog w (compareOp .Eq) (.int (val b p)) (.int (val b q)) (.bool (decide (p = q))) := by
  have h := OpD.eq (prog := prog) (w := w) (shaped_int (val b p)) (shaped_int (val b q))
  rw [eqv_int, eqv_val B hp hq hl] at h
  exact h
theorem opK.eqN {P : V → Mut → Prop} {m n : Nat} (h : P (.d (.bool (decide (m = n)))) μ) : opK prog w (compareOp .Eq) P (.d (.int m)) (.d (.int n)) μ := opK.mk OpD.eqN h
theorem opK.eqVal {P : V → Mut → Prop} (B : BP b) (hp : p.length ≤ b) (hq : q.length ≤ b) (hl : p.length = q.length) (h : P (.d (.bool (decide (p = q)))) μ) : opK prog w (compareOp .Eq) P (.d (.int (val b p))) (.d (.int (val b q))) μ := opK.mk (OpD.eqVal B hp hq hl) h
end
local macro_rules | `(tactic| walk_at "o") => `(tactic| first | refine opK.eqVal (by assumption) (by first | omega | (rw [List.length_take]; omega)) (by first | omega | (rw [List.length_take]; omega)) (by first | omega | (rw [List.length_take]; omega)) ?_ | refine opK.eqN ?_)
section
variable {prog : Program} {w : World} {hb : Heap} {μ : Mut} {k : Nat} {b : Nat} {p q : Pf}
set_option maxHeartbeats 2000000
theorem tree_put_c (Y : Wd (KK w) hb) (B : BP b) (hp : p.length ≤ b) (wv : Int) : ∀ t : Tr, t.short b → WC prog w hb (t.height + 3) (.ref 118) [.d (encT b t), .d (encP b p), .d (.int wv), .d (.int b)] μ fun U μ' => U = .d (encT b (put t p wv)) ∧ μ' = μ := by
  have h4 := B.hi
  intro t
  induction t with
  | nil =>
    intro _
    refine WC.fn Y (by with_unfolding_all rfl) (by with_unfolding_all rfl) ["tree", "prefix", "worth", "bits"] ?_ (by decide) rfl rfl rfl rfl ?_
    · intro vs h
      match vs, h with
      | [a, b, c, d], _ => rfl
    repeat walk_at "s"
    exact ⟨rfl, rfl⟩
  | node h wh l r ihl ihr =>
    rintro ⟨sh, sl, sr⟩
    have ihl := ihl sl
    have ihr := ihr sr
    show WC prog w hb ((max l.height r.height + 1 + 2) + 1) _ _ _ _
    refine WC.fn Y (by with_unfolding_all rfl) (by with_unfolding_all rfl) ["tree", "prefix", "worth", "bits"] ?_ (by decide) rfl rfl rfl rfl ?_
    · intro vs h
      match vs, h with
      | [a, b, c, d], _ => rfl
    have l1 := lcp_le_left h p
    have l2 := lcp_le_right h p
    repeat walk_at "s"
    refine WX.asgT (xs := [(Str.ofString "here", _), (Str.ofString "many", _)]) (by decide) ["here", "many"] rfl ?_ (by intro _; rfl) (by intro env h; cases env; cases h; rfl)
    repeat walk_at "s"
    refine (shared_length_c Y B sh hp).use (by omega) ?_
    repeat walk_at "s"
    by_cases c1 : (lcp h p).length = h.length
    · by_cases c2 : (lcp h p).length = p.length
      · repeat walk_at "s"
        refine ⟨?_, rfl⟩
        simp [put, c1, c2, encT, encO, show h.length = p.length by omega]
      · repeat walk_at "s"
        refine (bit_of_c Y B hp (i := (lcp h p).length) (by omega)).use (by omega) ?_
        have c3 : ¬ h.length = p.length := by omega
        repeat walk_at "s"
        cases hbit : p.getD (lcp h p).length false
        · repeat walk_at "s"
          refine ihl.use (by omega) ?_
          repeat walk_at "s"
          refine (with_child_c Y false _ _ _ _ _).use (by omega) ?_
          refine ⟨?_, rfl⟩
          rw [c1] at hbit
          rw [put]
          simp [-List.getD_eq_getElem?_getD, c1, c3, hbit, encT]
        · repeat walk_at "s"
          refine ihr.use (by omega) ?_
          repeat walk_at "s"
          refine (with_child_c Y true _ _ _ _ _).use (by omega) ?_
          refine ⟨?_, rfl⟩
          rw [c1] at hbit
          rw [put]
          simp [-List.getD_eq_getElem?_getD, c1, c3, hbit, encT]
    · by_cases c2 : (lcp h p).length = p.length
      · repeat walk_at "s"
        refine (bit_of_c Y B sh (i := (lcp h p).length) (by omega)).use (by omega) ?_
        repeat walk_at "s"
        refine (with_child_c Y _ _ _ _ _ _).use (by omega) ?_
        refine ⟨?_, rfl⟩
        rw [put]
        rw [c2] at c1 ⊢
        cases hbit : h.getD p.length false <;> simp [-List.getD_eq_getElem?_getD, c1, c2, hbit, encT, encO]
      · repeat walk_at "s"
        refine (fork_c Y B (s1 := .nil) (s2 := .nil) (wp := some wv) sh hp (m := (lcp h p).length) (by omega) (by omega)).use (by omega) ?_
        refine ⟨?_, rfl⟩
        rw [put]
        simp [c1, c2]
theorem tree_drop_c (Y : Wd (KK w) hb) (B : BP b) (hp : p.length ≤ b) : ∀ t : Tr, t.short b → WC prog w hb (t.height + 3) (.ref 132) [.d (encT b t), .d (encP b p), .d (.int b)] μ fun U μ' => U = .d (encT b (drop t p)) ∧ μ' = μ := by
  have h4 := B.hi
  intro t
  induction t with
  | nil =>
    intro _
    refine WC.fn Y (by with_unfolding_all rfl) (by with_unfolding_all rfl) ["tree", "prefix", "bits"] ?_ (by decide) rfl rfl rfl rfl ?_
    · intro vs h
      match vs, h with
      | [a, b, c], _ => rfl
    repeat walk_at "s"
    exact ⟨rfl, rfl⟩
  | node h wh l r ihl ihr =>
    rintro ⟨sh, sl, sr⟩
    have ihl := ihl sl
    have ihr := ihr sr
    show WC prog w hb ((max l.height r.height + 1 + 2) + 1) _ _ _ _
    refine WC.fn Y (by with_unfolding_all rfl) (by with_unfolding_all rfl) ["tree", "prefix", "bits"] ?_ (by decide) rfl rfl rfl rfl ?_
    · intro vs h
      match vs, h with
      | [a, b, c], _ => rfl
    have l1 := lcp_le_left h p
    have l2 := lcp_le_right h p
    repeat walk_at "s"
    refine WX.asgT (xs := [(Str.ofString "here", _), (Str.ofString "many", _)]) (by decide) ["here", "many"] rfl ?_ (by intro _; rfl) (by intro env h; cases env; cases h; rfl)
    repeat walk_at "s"
    refine (shared_length_c Y B sh hp).use (by omega) ?_
    repeat walk_at "s"
    by_cases c1 : (lcp h p).length < h.length
    · repeat walk_at "s"
      refine ⟨?_, rfl⟩
      rw [drop]
      simp [c1]
    · by_cases c2 : p.length = h.length
      · repeat walk_at "s"
        refine (shrunk_c Y (wh := .none) (l := l) (r := r) (p := h)).use (by omega) ?_
        refine ⟨?_, rfl⟩
        rw [drop]
        simp [c1, c2]
      · repeat walk_at "s"
        refine (bit_of_c Y B hp (i := (lcp h p).length) (by omega)).use (by omega) ?_
        have c3 : (lcp h p).length = h.length := by omega
        repeat walk_at "s"
        cases hbit : p.getD (lcp h p).length false
        · repeat walk_at "s"
          refine ihl.use (by omega) ?_
          repeat walk_at "s"
          refine (with_child_c Y false _ _ _ _ _).use (by omega) ?_
          repeat walk_at "s"
          refine (shrunk_c Y (wh := wh) (l := drop l p) (r := r) (p := h)).use (by omega) ?_
          refine ⟨?_, rfl⟩
          rw [c3] at hbit
          rw [drop.eq_def (.node h wh l r)]
          simp [-List.getD_eq_getElem?_getD, c1, c2, hbit]
        · repeat walk_at "s"
          refine ihr.use (by omega) ?_
          repeat walk_at "s"
          refine (with_child_c Y true _ _ _ _ _).use (by omega) ?_
          repeat walk_at "s"
          refine (shrunk_c Y (wh := wh) (l := l) (r := drop r p) (p := h)).use (by omega) ?_
          refine ⟨?_, rfl⟩
          rw [c3] at hbit
          rw [drop.eq_def (.node h wh l r)]
          simp [-List.getD_eq_getElem?_getD, c1, c2, hbit]
end
section
variable {prog : Program} {w : World} {hb : Heap} {μ : Mut} {k : Nat} {b : Nat} {p q : Pf}
set_option maxHeartbeats 2000000
theorem look_none {h a : Pf} {l r : Tr} {f : Option Row} : look (.node h .none l r) a f b = if a.take h.length = h then (if h.length = b then f else if a.getD h.length false then look r a f b else look l a f b) else f := rfl
theorem look_some {h a : Pf} {wv : Int} {l r : Tr} {f : Option Row} : look (.node h (some wv) l r) a f b = if a.take h.length = h then (if h.length = b then some (h, wv) else if a.getD h.length false then look r a (some (h, wv)) b else look l a (some (h, wv)) b) else f := rfl
theorem look_not {h a : Pf} {wh : Option Int} {l r : Tr} {f : Option Row} (n : ¬ a.take h.length = h) : look (.node h wh l r) a f b = f := by
  cases wh
  · rw [look_none, if_neg n]
  · rw [look_some, if_neg n]
noncomputable def own (h : Pf) (wh : Option Int) : List Row := match wh with | some w => [(h, w)] | none => []
theorem all_node {h : Pf} {wh : Option Int} {l r : Tr} : all (.node h wh l r) = own h wh ++ all l ++ all r := rfl
theorem tree_look_c (Y : Wd (KK w) hb) (B : BP b) (t : Tr) (st : t.short b) {a : Pf} (ha : a.length = b) : WC prog w hb 2 (.ref 139) [.d (encT b t), .d (.int (val b a)), .d (.int b)] μ fun U μ' => U = .d (encF b (look t a none b)) ∧ μ' = μ := by
  have h4 := B.hi
  refine WC.fn Y (by with_unfolding_all rfl) (by with_unfolding_all rfl) ["tree", "address", "bits"] (names3 fun _ _ _ => rfl) (by decide) rfl rfl rfl rfl ?_
  refine WS.cons ?_
  refine WX.asgT (xs := [(Str.ofString "found", _), (Str.ofString "node", _)]) (by decide) ["found", "node"] rfl ?_ (by intro _; rfl) (by intro env h; cases env; cases h; rfl)
  repeat walk_at "s"
  refine WX.while (fun n ρ' μ' => ∃ cur fnd, n = cur.height ∧ μ' = μ ∧ cur.short b ∧ look cur a fnd b = look t a none b ∧ ρ' "address" = some (.d (.int (val b a))) ∧ ρ' "bits" = some (.d (.int b)) ∧
    ρ' "found" = some (.d (encF b fnd)) ∧ ρ' "node" = some (.d (encT b cur))) t.height ⟨t, none, rfl, rfl, st, rfl, by walk_at "p", by walk_at "p", by walk_at "p", by walk_at "p"⟩ ?_
  rintro n ρ' μ' ⟨cur, fnd, rfl, rfl, sc, hl, e1, e2, e3, e4⟩
  cases cur with
  | nil =>
    repeat walk_at "s"
    exact ⟨by rw [← hl, look], rfl⟩
  | node h wh l r =>
    obtain ⟨sh, sl, sr⟩ := sc
    have ex : encT b (.node h wh l r) = .tuple [encP b h, encO wh, encT b l, encT b r] := rfl
    rw [ex] at e4
    repeat walk_at "s"
    refine (first_bits_c Y B (p := a) (by omega) (by omega)).use (by omega) ?_
    repeat walk_at "s"
    by_cases ca : a.take h.length = h
    · cases wh with
      | none =>
        rw [look_none, if_pos ca] at hl
        repeat walk_at "s"
        by_cases cb : h.length = b
        · repeat walk_at "s"
          exact ⟨0, by simp [Tr.height], .nil, fnd, rfl, rfl, trivial, by simpa [cb, look] using hl, by walk_at "p", by walk_at "p", by walk_at "p", by walk_at "p"⟩
        · repeat walk_at "s"
          refine (bit_of_c Y B (p := a) (i := h.length) (by omega) (by omega)).use (by omega) ?_
          repeat walk_at "s"
          cases hbit : a.getD h.length false
          · repeat walk_at "s"
            exact ⟨l.height, by simp only [Tr.height]; omega, l, fnd, rfl, rfl, sl, by rw [← hl]; simp [-List.getD_eq_getElem?_getD, cb, hbit], by walk_at "p", by walk_at "p", by walk_at "p", by walk_at "p"⟩
          · repeat walk_at "s"
            exact ⟨r.height, by simp only [Tr.height]; omega, r, fnd, rfl, rfl, sr, by rw [← hl]; simp [-List.getD_eq_getElem?_getD, cb, hbit], by walk_at "p", by walk_at "p", by walk_at "p", by walk_at "p"⟩
      | some wv =>
        rw [look_some, if_pos ca] at hl
        repeat walk_at "s"
        by_cases cb : h.length = b
        · repeat walk_at "s"
          exact ⟨0, by simp [Tr.height], .nil, some (h, wv), rfl, rfl, trivial, by simpa [cb, look] using hl, by walk_at "p", by walk_at "p", by walk_at "p", by walk_at "p"⟩
        · repeat walk_at "s"
          refine (bit_of_c Y B (p := a) (i := h.length) (by omega) (by omega)).use (by omega) ?_
          repeat walk_at "s"
          cases hbit : a.getD h.length false
          · repeat walk_at "s"
            exact ⟨l.height, by simp only [Tr.height]; omega, l, some (h, wv), rfl, rfl, sl, by rw [← hl]; simp [-List.getD_eq_getElem?_getD, cb, hbit], by walk_at "p", by walk_at "p", by walk_at "p", by walk_at "p"⟩
          · repeat walk_at "s"
            exact ⟨r.height, by simp only [Tr.height]; omega, r, some (h, wv), rfl, rfl, sr, by rw [← hl]; simp [-List.getD_eq_getElem?_getD, cb, hbit], by walk_at "p", by walk_at "p", by walk_at "p", by walk_at "p"⟩
    · rw [look_not ca] at hl
      repeat walk_at "s"
      exact ⟨by rw [hl], rfl⟩
theorem tree_exact_c (Y : Wd (KK w) hb) (B : BP b) (t : Tr) (st : t.short b) (hp : p.length ≤ b) : WC prog w hb 3 (.ref 146) [.d (encT b t), .d (encP b p), .d (.int b)] μ fun U μ' => U = .d (encO (exact t p)) ∧ μ' = μ := by
  have h4 := B.hi
  refine WC.fn Y (by with_unfolding_all rfl) (by with_unfolding_all rfl) ["tree", "prefix", "bits"] (names3 fun _ _ _ => rfl) (by decide) rfl rfl rfl rfl ?_
  repeat walk_at "s"
  refine WX.while (fun n ρ' μ' => ∃ cur, n = cur.height ∧ μ' = μ ∧ cur.short b ∧ exact cur p = exact t p ∧ ρ' "prefix" = some (.d (encP b p)) ∧ ρ' "bits" = some (.d (.int b)) ∧
    ρ' "node" = some (.d (encT b cur))) t.height ⟨t, rfl, rfl, st, rfl, by walk_at "p", by walk_at "p", by walk_at "p"⟩ ?_
  rintro n ρ' μ' ⟨cur, rfl, rfl, sc, hl, e1, e2, e4⟩
  cases cur with
  | nil =>
    repeat walk_at "s"
    exact ⟨by rw [← hl]; rfl, rfl⟩
  | node h wh l r =>
    obtain ⟨sh, sl, sr⟩ := sc
    have ex : encT b (.node h wh l r) = .tuple [encP b h, encO wh, encT b l, encT b r] := rfl
    rw [ex] at e4
    have l1 := lcp_le_left h p
    have l2 := lcp_le_right h p
    rw [exact] at hl
    repeat walk_at "s"
    by_cases c1 : h.length < p.length
    · repeat walk_at "s"
      refine (shared_length_c Y B sh hp).use (by omega) ?_
      repeat walk_at "s"
      by_cases c2 : (lcp h p).length = h.length
      · repeat walk_at "s"
        refine (bit_of_c Y B hp c1).use (by omega) ?_
        repeat walk_at "s"
        cases hbit : p.getD h.length false
        · repeat walk_at "s"
          exact ⟨l.height, by simp only [Tr.height]; omega, l, rfl, rfl, sl, by rw [← hl]; simp [-List.getD_eq_getElem?_getD, c1, c2, hbit], by walk_at "p", by walk_at "p", by walk_at "p"⟩
        · repeat walk_at "s"
          exact ⟨r.height, by simp only [Tr.height]; omega, r, rfl, rfl, sr, by rw [← hl]; simp [-List.getD_eq_getElem?_getD, c1, c2, hbit], by walk_at "p", by walk_at "p", by walk_at "p"⟩
      · repeat walk_at "s"
        refine opK.mk (OpD.eq (shaped_encP _ _) (shaped_encP _ _)) ?_
        rw [eqv_encP B sh hp]
        have c3 : ¬ h = p := fun e => by subst e; omega
        repeat walk_at "s"
        exact ⟨by rw [← hl]; simp [c2, c3, encO], rfl⟩
    · repeat walk_at "s"
      refine opK.mk (OpD.eq (shaped_encP _ _) (shaped_encP _ _)) ?_
      rw [eqv_encP B sh hp]
      by_cases c3 : h = p
      · repeat walk_at "s"
        exact ⟨by rw [← hl]; simp [c1, c3], rfl⟩
      · repeat walk_at "s"
        exact ⟨by rw [← hl]; simp [c1, c3, encO], rfl⟩
theorem tree_all_c (Y : Wd (KK w) hb) : ∀ t : Tr, (all t).length ≤ 1000 → WC prog w hb (t.height + 1) (.ref 153) [.d (encT b t)] μ fun U μ' => U = .d (encL b (all t)) ∧ μ' = μ := by
  intro t
  induction t with
  | nil =>
    intro _
    refine WC.fn Y (by with_unfolding_all rfl) (by with_unfolding_all rfl) ["tree"] ?_ (by decide) rfl rfl rfl rfl ?_
    · intro vs h
      match vs, h with
      | [a], _ => rfl
    repeat walk_at "s"
    exact ⟨rfl, rfl⟩
  | node h wh l r ihl ihr =>
    intro hz
    rw [all_node, List.length_append, List.length_append] at hz
    have ihl := ihl (by omega)
    have ihr := ihr (by omega)
    show WC prog w hb ((max l.height r.height + 1) + 1) _ _ _ _
    refine WC.fn Y (by with_unfolding_all rfl) (by with_unfolding_all rfl) ["tree"] ?_ (by decide) rfl rfl rfl rfl ?_
    · intro vs h
      match vs, h with
      | [a], _ => rfl
    cases wh with
    | none =>
      repeat walk_at "s"
      refine ihl.use (by omega) ?_
      refine opK.mk (OpD.cat (by simp; omega)) ?_
      repeat walk_at "s"
      refine ihr.use (by omega) ?_
      refine opK.mk (OpD.cat (by simp; omega)) ?_
      refine ⟨?_, rfl⟩
      rw [all_node]; simp [encL, own]
    | some wv =>
      repeat walk_at "s"
      refine ihl.use (by omega) ?_
      refine opK.mk (OpD.cat (by simp [own] at hz ⊢; omega)) ?_
      repeat walk_at "s"
      refine ihr.use (by omega) ?_
      refine opK.mk (OpD.cat (by simp [own] at hz ⊢; omega)) ?_
      refine ⟨?_, rfl⟩
      rw [all_node]; simp [encL, encR, encO, own]
theorem tree_below_c (Y : Wd (KK w) hb) (B : BP b) (hp : p.length ≤ b) : ∀ t : Tr, t.short b → (all t).length ≤ 1000 → WC prog w hb (t.height + 3) (.ref 160) [.d (encT b t), .d (encP b p), .d (.int b)] μ fun U μ' => U = .d (encL b (below t p)) ∧ μ' = μ := by
  have h4 := B.hi
  intro t
  induction t with
  | nil =>
    intro _ _
    refine WC.fn Y (by with_unfolding_all rfl) (by with_unfolding_all rfl) ["tree", "prefix", "bits"] ?_ (by decide) rfl rfl rfl rfl ?_
    · intro vs h
      match vs, h with
      | [a, b, c], _ => rfl
    repeat walk_at "s"
    exact ⟨rfl, rfl⟩
  | node h wh l r ihl ihr =>
    rintro ⟨sh, sl, sr⟩ hz
    have hz' := hz
    rw [all_node, List.length_append, List.length_append] at hz'
    have ihl := ihl sl (by omega)
    have ihr := ihr sr (by omega)
    show WC prog w hb ((max l.height r.height + 1 + 2) + 1) _ _ _ _
    refine WC.fn Y (by with_unfolding_all rfl) (by with_unfolding_all rfl) ["tree", "prefix", "bits"] ?_ (by decide) rfl rfl rfl rfl ?_
    · intro vs h
      match vs, h with
      | [a, b, c], _ => rfl
    have l1 := lcp_le_left h p
    have l2 := lcp_le_right h p
    repeat walk_at "s"
    refine (shared_length_c Y B sh hp).use (by omega) ?_
    repeat walk_at "s"
    by_cases c1 : (lcp h p).length = p.length
    · repeat walk_at "s"
      refine (tree_all_c Y _ hz).use (by simp only [Tr.height]; omega) ?_
      refine ⟨?_, rfl⟩
      rw [below, if_pos c1]
    · repeat walk_at "s"
      by_cases c2 : (lcp h p).length = h.length
      · repeat walk_at "s"
        refine (bit_of_c Y B hp (i := (lcp h p).length) (by omega)).use (by omega) ?_
        cases hbit : p.getD (lcp h p).length false
        · repeat walk_at "s"
          refine ihl.use (by omega) ?_
          refine ⟨?_, rfl⟩
          rw [c2] at hbit
          rw [below.eq_def (.node h wh l r)]
          simp [-List.getD_eq_getElem?_getD, c1, c2, hbit, show ¬ h.length = p.length by omega]
        · repeat walk_at "s"
          refine ihr.use (by omega) ?_
          refine ⟨?_, rfl⟩
          rw [c2] at hbit
          rw [below.eq_def (.node h wh l r)]
          simp [-List.getD_eq_getElem?_getD, c1, c2, hbit, show ¬ h.length = p.length by omega]
      · repeat walk_at "s"
        refine ⟨?_, rfl⟩
        rw [below, if_neg c1, if_neg c2]
        rfl
end
theorem comp_choice {α : Type} (enc : α → PyData) (rs : List α) (q : α → Bool) (g : α → PyData) (inj : ∀ r ∈ rs, ∀ r' ∈ rs, enc r = enc r' → r = r') :
    ∃ (p : PyData → Bool) (f : PyData → PyData), (∀ r ∈ rs, p (enc r) = q r ∧ f (enc r) = g r) ∧ ((rs.map enc).filter p).map f = (rs.filter q).map g := by
  classical
  let inv : PyData → Option α := fun d => if h : ∃ r, r ∈ rs ∧ enc r = d then some h.choose else none
  have hinv : ∀ r ∈ rs, inv (enc r) = some r := by
    intro r hr
    have h : ∃ r', r' ∈ rs ∧ enc r' = enc r := ⟨r, hr, rfl⟩
    simp only [inv]
    rw [dif_pos h]
    exact congrArg some (inj _ h.choose_spec.1 _ hr h.choose_spec.2)
  have key : ∀ r ∈ rs, ((fun d => match inv d with | some r => q r | none => false) (enc r) = q r) ∧ ((fun d => match inv d with | some r => g r | none => PyData.none) (enc r) = g r) := by
    intro r hr
    constructor <;> simp [hinv r hr]
  refine ⟨(fun d => match inv d with | some r => q r | none => false), (fun d => match inv d with | some r => g r | none => PyData.none), key, ?_⟩
  rw [List.filter_map, List.map_map]
  have e : rs.filter ((fun d => match inv d with | some r => q r | none => false) ∘ enc) = rs.filter q := List.filter_congr fun r hr => (key r hr).1
  rw [e]
  exact List.map_congr_left fun r hr => (key r ((List.mem_filter.mp hr).1)).2
theorem have_of {l : List (Str × NameKind)} {ρ : Str → Option V} (h : decide (∀ y ∈ l, y.2 = .free → (ρ y.1).isSome = true) = true) : ∀ y ∈ l, y.2 = .free → ∃ U, ρ y.1 = some U :=
  fun y hy hf => Option.isSome_iff_exists.mp (of_decide_eq_true h y hy hf)
section
variable {prog : Program} {w : World} {hb : Heap} {μ : Mut} {k : Nat} {b : Nat} {p q : Pf}
theorem WE.compM {α : Type} {sc : Scope} {ρ : Str → Option V} {P : V → Mut → Prop} {pos : Pos} {B : Bool} {scope : Scope} {x : Str} {px : Pos} {iter elt : Expr} {ifs : List Expr} (O : CompOk scope sc x ρ)
    (H : WI prog w hb B k sc iter ρ μ fun ds μ0 => ∃ (rs : List α) (enc : α → PyData) (q : α → Bool) (g : α → PyData), ds = rs.map enc ∧ rs.length ≤ 1000 ∧ (∀ r ∈ rs, ∀ r' ∈ rs, enc r = enc r' → r = r') ∧ (∀ r ∈ rs, WTI prog w hb k (relS scope sc) ifs (seen scope ρ x (enc r)) μ0 fun b μ' => b = q r ∧ μ' = μ0) ∧
      (∀ r ∈ rs, q r = true → WE prog w hb k (relS scope sc) elt (seen scope ρ x (enc r)) μ0 fun U μ' => U = .d (g r) ∧ μ' = μ0) ∧ P (.d (.list ((rs.filter q).map g))) μ0)
    (hs : ∀ env x, foldedSetIterable iter env x = pure x := by intro _ _; rfl) : WE prog w hb k sc (.ListComp elt [⟨.Name x px, iter, ifs, 0⟩] scope pos) ρ μ P := by
  refine WE.comp O (fun A env X s Q E h1 h2 C F hQ => H A env X s Q E h1 h2 C F fun I h' tk ds μ' hp => hQ I h' tk ds μ' ?_) hs
  obtain ⟨rs, enc, q, g, rfl, hl, inj, hT, hE, hP⟩ := hp
  obtain ⟨p, f, key, e⟩ := comp_choice enc rs q g inj
  refine ⟨p, f, by simpa using hl, ?_, ?_, by rw [e]; exact hP⟩
  · intro d hd
    obtain ⟨r, hr, rfl⟩ := List.mem_map.mp hd
    rw [(key r hr).1]
    exact hT r hr
  · intro d hd hp
    obtain ⟨r, hr, rfl⟩ := List.mem_map.mp hd
    rw [(key r hr).2]
    exact hE r hr (by rw [← (key r hr).1]; exact hp)
theorem WX.asgCompM {α : Type} {sc : Scope} {ρ : Str → Option V} {N : (Str → Option V) → Mut → Prop} {R : V → Mut → Prop} {pos : Pos} {B : Bool} {scope : Scope} {x y : Str} {px py spos : Pos} {iter elt : Expr} {ifs : List Expr} (O : CompOk scope sc x ρ) (hy : sc.names.lookup y = some .local)
    (H : WI prog w hb B k sc iter ρ μ fun ds μ0 => ∃ (rs : List α) (enc : α → PyData) (q : α → Bool) (g : α → PyData), ds = rs.map enc ∧ rs.length ≤ 1000 ∧ (∀ r ∈ rs, ∀ r' ∈ rs, enc r = enc r' → r = r') ∧ (∀ r ∈ rs, WTI prog w hb k (relS scope sc) ifs (seen scope ρ x (enc r)) μ0 fun b μ' => b = q r ∧ μ' = μ0) ∧
      (∀ r ∈ rs, q r = true → WE prog w hb k (relS scope sc) elt (seen scope ρ x (enc r)) μ0 fun U μ' => U = .d (g r) ∧ μ' = μ0) ∧ N (upd ρ y (.d (.list ((rs.filter q).map g)))) μ0)
    (hsw : ∀ env : Env, env.scope = sc → swapsWith (.ListComp elt [⟨.Name x px, iter, ifs, 0⟩] scope pos) (some (.Name y py)) spos.line env = pure true)
    (hs : ∀ env x, foldedSetIterable iter env x = pure x := by intro _ _; rfl) : WX prog w hb k sc (.Assign [.Name y py] (.ListComp elt [⟨.Name x px, iter, ifs, 0⟩] scope pos) spos) ρ μ N R := by
  refine WX.asgComp O hy (fun A env X s Q E h1 h2 C F hQ => H A env X s Q E h1 h2 C F fun I h' tk ds μ' hp => hQ I h' tk ds μ' ?_) hsw hs
  obtain ⟨rs, enc, q, g, rfl, hl, inj, hT, hE, hP⟩ := hp
  obtain ⟨p, f, key, e⟩ := comp_choice enc rs q g inj
  refine ⟨p, f, by simpa using hl, ?_, ?_, by rw [e]; exact hP⟩
  · intro d hd
    obtain ⟨r, hr, rfl⟩ := List.mem_map.mp hd
    rw [(key r hr).1]
    exact hT r hr
  · intro d hd hp
    obtain ⟨r, hr, rfl⟩ := List.mem_map.mp hd
    rw [(key r hr).2]
    exact hE r hr (by rw [← (key r hr).1]; exact hp)

noncomputable def shortR (b : Nat) (rs : List Row) : Prop := ∀ r ∈ rs, r.1.length ≤ b
theorem encP_inj (B : BP b) (hp : p.length ≤ b) (hq : q.length ≤ b) (e : encP b p = encP b q) : p = q := by
  refine (f_cmp B hp hq).2.mpr ?_
  unfold encP at e
  injection e with e
  injection e with e1 e
  injection e with e2 e
  injection e1 with e1
  injection e2 with e2
  exact ⟨e1, by omega⟩
theorem encR_inj (B : BP b) {r r' : Row} (hp : r.1.length ≤ b) (hq : r'.1.length ≤ b) (e : encR b r = encR b r') : r = r' := by
  unfold encR at e
  injection e with e
  injection e with e1 e
  injection e with e2 e
  injection e2 with e2
  have := encP_inj B hp hq e1
  obtain ⟨a, c⟩ := r
  obtain ⟨a', c'⟩ := r'
  simp only at this e2
  rw [this, e2]
noncomputable def stepL (a : Pf) (f : Option Row) (r : Row) : Option Row :=
  if cov r.1 a = true then (match f with | none => some r | some g => if g.1.length < r.1.length then some r else some g) else f
noncomputable def lookL (rs : List Row) (a : Pf) : Option Row := rs.foldl (stepL a) none
set_option maxHeartbeats 2000000
theorem list_look_c (Y : Wd (KK w) hb) (B : BP b) {rs : List Row} (sr : shortR b rs) {a : Pf} (ha : a.length = b) : WC prog w hb 3 (.ref 66) [.d (encL b rs), .d (.int (val b a)), .d (.int b)] μ fun U μ' => U = .d (encF b (lookL rs a)) ∧ μ' = μ := by
  have h4 := B.hi
  refine WC.fn Y (by with_unfolding_all rfl) (by with_unfolding_all rfl) ["rows", "address", "bits"] (names3 fun _ _ _ => rfl) (by decide) rfl rfl rfl rfl ?_
  repeat walk_at "s"
  refine WX.for (.inl (by with_unfolding_all rfl)) (WI.list ?_)
  repeat walk_at "s"
  refine ⟨fun i ρ' μ' => μ' = μ ∧ ρ' "address" = some (.d (.int (val b a))) ∧ ρ' "bits" = some (.d (.int b)) ∧ ρ' "found" = some (.d (encF b (lookL (rs.take i) a))), ⟨rfl, by walk_at "p", by walk_at "p", by walk_at "p"⟩, ?_, ?_⟩
  · rintro i d ρ' μ' hd ⟨rfl, e1, e2, e3⟩
    rw [List.getElem?_map] at hd
    obtain ⟨r, hr, rfl⟩ := Option.map_eq_some_iff.mp hd
    have hri : i < rs.length := (List.getElem?_eq_some_iff.mp hr).1
    have hrm : r ∈ rs := List.mem_of_getElem? hr
    have hs := sr r hrm
    have et : lookL (rs.take (i + 1)) a = stepL a (lookL (rs.take i) a) r := by
      unfold lookL
      rw [List.take_add_one, hr, List.foldl_append]
      rfl
    refine WS.mono (N := fun ρ2 μ2 => μ2 = μ' ∧ ρ2 "address" = some (.d (.int (val b a))) ∧ ρ2 "bits" = some (.d (.int b)) ∧ ρ2 "found" = some (.d (encF b (stepL a (lookL (rs.take i) a) r)))) ?_ (fun ρ2 μ2 h => ⟨h.1, h.2.1, h.2.2.1, by rw [et]; exact h.2.2.2⟩) fun _ _ h => h
    generalize lookL (rs.take i) a = f at e3 ⊢
    repeat walk_at "s"
    refine (holds_address_c Y B (p := r.1) (q := a) (by omega) (by omega)).use (by omega) ?_
    repeat walk_at "s"
    cases hc : cov r.1 a
    · repeat walk_at "s"
      exact ⟨rfl, by walk_at "p", by walk_at "p", by rw [upd_ne (by decide) e3]; simp [stepL, hc]⟩
    · cases f with
      | none =>
        repeat walk_at "s"
        exact ⟨rfl, by walk_at "p", by walk_at "p", by rw [upd_same]; simp [stepL, hc, encF]⟩
      | some g =>
        have e3' : ρ' "found" = some (.d (.tuple [encP b g.1, .int g.2])) := e3
        repeat walk_at "s"
        by_cases cl : g.1.length < r.1.length
        · repeat walk_at "s"
          exact ⟨rfl, by walk_at "p", by walk_at "p", by rw [upd_same]; simp [stepL, hc, cl, encF]⟩
        · repeat walk_at "s"
          exact ⟨rfl, by walk_at "p", by walk_at "p", by rw [upd_ne (by decide) e3]; simp [stepL, hc, cl]⟩
  · rintro ρ' μ' ⟨rfl, e1, e2, e3⟩
    rw [List.length_map, List.take_length] at e3
    repeat walk_at "s"
    exact ⟨rfl, rfl⟩
theorem list_drop_c (Y : Wd (KK w) hb) (B : BP b) {rs : List Row} (hl : rs.length ≤ 1000) (sr : shortR b rs) (hp : p.length ≤ b) : WC prog w hb 2 (.ref 59) [.d (encL b rs), .d (encP b p)] μ fun U μ' => U = .d (encL b (rs.filter fun r => decide (r.1 ≠ p))) ∧ μ' = μ := by
  have h4 := B.hi
  refine WC.fn Y (by with_unfolding_all rfl) (by with_unfolding_all rfl) ["rows", "prefix"] (names2 fun _ _ => rfl) (by decide) rfl rfl rfl rfl ?_
  repeat walk_at "s"
  refine WE.compM (α := Row) (B := true) ⟨rfl, by decide, by decide, by decide, by decide, have_of (by with_unfolding_all rfl)⟩ (WI.list ?_)
  repeat walk_at "s"
  refine ⟨rs, encR b, _, encR b, rfl, hl, fun r hr r' hr' e => encR_inj B (sr r hr) (sr r' hr') e, ?_, ?_, rfl, rfl⟩
  · intro r hr
    refine WTI.one ?_
    repeat walk_at "s"
    refine opK.mk (OpD.ne (shaped_encP _ _) (shaped_encP _ _)) ?_
    rw [eqv_encP B (sr r hr) hp]
    refine boolK.mk ⟨?_, rfl⟩
    by_cases c : r.1 = p <;> simp [c]
  · intro r hr _
    repeat walk_at "s"
    exact ⟨rfl, rfl⟩
theorem list_below_c (Y : Wd (KK w) hb) (B : BP b) {rs : List Row} (hl : rs.length ≤ 1000) (sr : shortR b rs) (hp : p.length ≤ b) : WC prog w hb 4 (.ref 71) [.d (encL b rs), .d (encP b p), .d (.int b)] μ fun U μ' => U = .d (encL b (rs.filter fun r => cov p r.1)) ∧ μ' = μ := by
  have h4 := B.hi
  refine WC.fn Y (by with_unfolding_all rfl) (by with_unfolding_all rfl) ["rows", "prefix", "bits"] (names3 fun _ _ _ => rfl) (by decide) rfl rfl rfl rfl ?_
  repeat walk_at "s"
  refine WE.compM (α := Row) (B := true) ⟨rfl, by decide, by decide, by decide, by decide, have_of (by with_unfolding_all rfl)⟩ (WI.list ?_)
  repeat walk_at "s"
  refine ⟨rs, encR b, _, encR b, rfl, hl, fun r hr r' hr' e => encR_inj B (sr r hr) (sr r' hr') e, ?_, ?_, rfl, rfl⟩
  · intro r hr
    refine WTI.one ?_
    repeat walk_at "s"
    refine (covers_c Y B hp (sr r hr)).use (by omega) ?_
    exact ⟨_, rfl, rfl, rfl⟩
  · intro r hr _
    repeat walk_at "s"
    exact ⟨rfl, rfl⟩

noncomputable abbrev Lay (n : Nat) (d : PyData) : Prop := d.canLay0 = true ∧ d.depth ≤ n
theorem lay_all {n : Nat} : ∀ {xs : List PyData}, (∀ d ∈ xs, Lay n d) → PyData.canLayAll0 xs = true ∧ PyData.depthAll xs ≤ n
  | [], _ => by simp [PyData.canLayAll0, PyData.depthAll]
  | d :: ds, h => by
    have h1 := h d (.head _)
    have h2 := lay_all fun e he => h e (.tail _ he)
    simp only [PyData.canLayAll0, PyData.depthAll, h1.1, h2.1, Bool.and_self, true_and]
    have a1 := h1.2
    have a2 := h2.2
    omega
theorem lay_list {n : Nat} {xs : List PyData} (h : ∀ d ∈ xs, Lay n d) : Lay (n + 1) (.list xs) := by
  have := lay_all h
  simp only [Lay, PyData.canLay0, PyData.depth]
  exact ⟨this.1, by omega⟩
theorem lay_tuple {n : Nat} {xs : List PyData} (h : ∀ d ∈ xs, Lay n d) : Lay (n + 1) (.tuple xs) := by
  have := lay_all h
  simp only [Lay, PyData.canLay0, PyData.depth]
  exact ⟨this.1, by omega⟩
theorem Lay.more {m n : Nat} {d : PyData} (h : Lay m d) (l : m ≤ n) : Lay n d := ⟨h.1, by have := h.2; omega⟩
theorem lay_int (i : Int) : Lay 1 (.int i) := by simp [Lay, PyData.canLay0, PyData.depth]
theorem lay_none : Lay 1 .none := by simp [Lay, PyData.canLay0, PyData.depth]
theorem lay_encP : Lay 2 (encP b p) := lay_tuple fun d hd => by
  simp only [List.mem_cons, List.not_mem_nil, or_false] at hd
  rcases hd with rfl | rfl <;> exact lay_int _
theorem lay_encR {r : Row} : Lay 3 (encR b r) := lay_tuple fun d hd => by
  simp only [List.mem_cons, List.not_mem_nil, or_false] at hd
  rcases hd with rfl | rfl
  · exact lay_encP
  · exact (lay_int _).more (by omega)
theorem lay_encF {r : Option Row} : Lay 3 (encF b r) := by
  cases r with
  | none => exact lay_none.more (by omega)
  | some r => exact lay_encR
theorem lay_map {α : Type} {n : Nat} {f : α → PyData} (h : ∀ x, Lay n (f x)) (xs : List α) : Lay (n + 1) (.list (xs.map f)) := lay_list fun d hd => by
  obtain ⟨x, _, rfl⟩ := List.mem_map.mp hd
  exact h x
theorem lay_encL {rs : List Row} : Lay 4 (encL b rs) := lay_map (fun _ => lay_encR) rs
theorem lay_encT : ∀ t : Tr, Lay (t.height + 3) (encT b t)
  | .nil => lay_none.more (by omega)
  | .node h wh l r => lay_tuple (n := max l.height r.height + 3) fun d hd => by
    simp only [List.mem_cons, List.not_mem_nil, or_false] at hd
    rcases hd with rfl | rfl | rfl | rfl
    · exact lay_encP.more (by omega)
    · cases wh
      · exact lay_none.more (by omega)
      · exact (lay_int _).more (by omega)
    · exact (lay_encT l).more (by omega)
    · exact (lay_encT r).more (by omega)
theorem Lay.shaped {n : Nat} {d : PyData} (h : Lay n d) (l : n ≤ 64) : SeqAt.shaped d = true := by
  unfold SeqAt.shaped
  have := h.2
  rw [h.1, decide_eq_true (by omega : d.depth ≤ 64)]
  rfl
theorem eqv_encR (B : BP b) {r r' : Row} (hp : r.1.length ≤ b) (hq : r'.1.length ≤ b) : PyData.eqv (encR b r) (encR b r') = decide (r = r') := by
  have e0 : PyData.eqv (encR b r) (encR b r') = (PyData.eqv (encP b r.1) (encP b r'.1) && (r.2 == r'.2)) := by simp only [PyData.eqv, PyData.eqvAll, Bool.and_true]
  rw [e0, eqv_encP B hp hq]
  obtain ⟨a, c⟩ := r
  obtain ⟨a', c'⟩ := r'
  by_cases e1 : a = a' <;> by_cases e2 : c = c' <;> simp [e1, e2]
noncomputable def goneL (e n : List Row) : List Pf := (e.filter fun r => !n.any fun o => decide (o.1 = r.1)).map (·.1)
noncomputable def comeL (e n : List Row) : List Row := n.filter fun r => !e.any fun o => decide (o = r)
theorem changed_rows_c (Y : Wd (KK w) hb) (B : BP b) {e n : List Row} (hl : e.length ≤ 1000) (hl2 : n.length ≤ 1000) (se : shortR b e) (sn : shortR b n) :
    WC prog w hb 1 (.ref 76) [.d (encL b e), .d (encL b n)] μ fun U μ' => U = .d (.tuple [.list ((goneL e n).map (encP b)), encL b (comeL e n)]) ∧ μ' = μ := by
  have h4 := B.hi
  refine WC.fn Y (by with_unfolding_all rfl) (by with_unfolding_all rfl) ["elder", "newer"] (names2 fun _ _ => rfl) (by decide) rfl rfl rfl rfl ?_
  refine WS.cons ?_
  refine WX.asgCompM (α := Row) (B := true) ⟨rfl, by decide, by decide, by decide, by decide, have_of (by with_unfolding_all rfl)⟩ (by with_unfolding_all rfl) (WI.list ?_) (by intro env h; cases env; cases h; with_unfolding_all rfl)
  repeat walk_at "s"
  refine ⟨e, encR b, (fun r => !n.any fun o => decide (o.1 = r.1)), fun r => encP b r.1, rfl, hl, fun r hr r' hr' e => encR_inj B (se r hr) (se r' hr') e, ?_, ?_, ?_⟩
  · intro r hr
    refine WTI.one ?_
    repeat walk_at "s"
    refine WE.compM (α := Row) (B := true) ⟨rfl, by decide, by decide, by decide, by decide, have_of (by with_unfolding_all rfl)⟩ (WI.list ?_)
    repeat walk_at "s"
    refine ⟨n, encR b, (fun _ => true), fun r => encP b r.1, rfl, hl2, fun r hr r' hr' e => encR_inj B (sn r hr) (sn r' hr') e, ?_, ?_, ?_⟩
    · intro r hr
      exact WTI.nil ⟨rfl, rfl⟩
    · intro r hr _
      repeat walk_at "s"
      exact ⟨rfl, rfl⟩
    · refine opK.mk (OpD.notIn (shaped_encP _ _) ((lay_map (fun x : Row => lay_encP) _).shaped (by omega))) ?_
      refine boolK.mk ⟨?_, rfl⟩
      rw [List.any_map, List.any_filter]
      congr 1
      rw [Bool.eq_iff_iff, List.any_eq_true, List.any_eq_true]
      constructor
      · rintro ⟨o, ho, h⟩
        refine ⟨o, ho, ?_⟩
        simp only [Function.comp, Bool.true_and] at h
        rw [eqv_encP B (sn o ho) (se r hr)] at h
        exact h
      · rintro ⟨o, ho, h⟩
        refine ⟨o, ho, ?_⟩
        simp only [Function.comp, Bool.true_and]
        rw [eqv_encP B (sn o ho) (se r hr)]
        exact h
  · intro r hr _
    repeat walk_at "s"
    exact ⟨rfl, rfl⟩
  refine WS.cons ?_
  refine WX.asgCompM (α := Row) (B := true) ⟨rfl, by decide, by decide, by decide, by decide, have_of (by with_unfolding_all rfl)⟩ (by with_unfolding_all rfl) (WI.list ?_) (by intro env h; cases env; cases h; with_unfolding_all rfl)
  repeat walk_at "s"
  refine ⟨n, encR b, (fun r => !e.any fun o => decide (o = r)), encR b, rfl, hl2, fun r hr r' hr' e => encR_inj B (sn r hr) (sn r' hr') e, ?_, ?_, ?_⟩
  · intro r hr
    refine WTI.one ?_
    repeat walk_at "s"
    refine opK.mk (OpD.notIn (lay_encR.shaped (by omega)) (lay_encL.shaped (by omega))) ?_
    refine boolK.mk ⟨?_, rfl⟩
    rw [List.any_map]
    congr 1
    rw [Bool.eq_iff_iff, List.any_eq_true, List.any_eq_true]
    constructor
    · rintro ⟨o, ho, h⟩
      refine ⟨o, ho, ?_⟩
      simp only [Function.comp] at h
      rw [eqv_encR B (se o ho) (sn r hr)] at h
      exact h
    · rintro ⟨o, ho, h⟩
      refine ⟨o, ho, ?_⟩
      simp only [Function.comp]
      rw [eqv_encR B (se o ho) (sn r hr)]
      exact h
  · intro r hr _
    repeat walk_at "s"
    exact ⟨rfl, rfl⟩
  repeat walk_at "s"
  refine ⟨?_, rfl⟩
  simp [goneL, comeL, encL]
end
noncomputable def runO {α : Type} (lt : Nat → Nat → Option Bool) : PySem.W.KasT α → Option α
  | .ret a => some a
  | .ask i j k => match lt i j with
    | some b => runO lt (k b)
    | none => none
theorem runO_wp {α : Type} {lt : Nat → Nat → Option Bool} {cmp : Nat → Nat → (Bool → Shared → Prop) → Shared → Prop} {s : Shared} (h : ∀ i j b, lt i j = some b → ∀ C : Bool → Shared → Prop, C b s → cmp i j C s) {Q : α → Shared → Prop} :
    ∀ (t : PySem.W.KasT α) (a : α), runO lt t = some a → Q a s → t.kasWp cmp Q s
  | .ret a, a', e, q => by
    cases e; exact q
  | .ask i j k, a', e, q => by
    unfold runO at e
    cases c : lt i j with
    | none => rw [c] at e; cases e
    | some b =>
      rw [c] at e
      exact h i j b c _ (runO_wp h (k b) a' e q)
noncomputable def codeN (n j i : Nat) : Nat := if i + 1 = n then 2 * j else 2 * i + 1
noncomputable def insLt (n j i i' : Nat) : Option Bool := if i < n ∧ i' < n then some (decide (codeN n j i < codeN n j i')) else none
noncomputable def insAt (n j : Nat) : List Nat := List.range j ++ (n - 1) :: List.range' j (n - 1 - j)
theorem sort_fact : ((List.range 9).all fun n => (List.range 9).all fun j => !(decide (2 ≤ n) && decide (j < n)) || ((runO (insLt n j) (PySem.W.kas_sort n)).map Array.toList == some (insAt n j))) = true := by decide +kernel
theorem sort_is {n j : Nat} (h2 : 2 ≤ n) (h8 : n ≤ 8) (hj : j < n) : ∃ p, runO (insLt n j) (PySem.W.kas_sort n) = some p ∧ p.toList = insAt n j := by
  have h := sort_fact
  rw [List.all_eq_true] at h
  have h1 := h n (List.mem_range.mpr (by omega))
  rw [List.all_eq_true] at h1
  have h3 := h1 j (List.mem_range.mpr (by omega))
  simp only [h2, hj, decide_true, Bool.and_self, Bool.not_true, Bool.false_or, beq_iff_eq] at h3
  exact Option.map_eq_some_iff.mp h3

theorem plt_irr : ∀ p : Pf, plt p p = false
  | [] => rfl
  | a :: p => by simp [plt, plt_irr p]
theorem plt_trans : ∀ {p q r : Pf}, plt p q = true → plt q r = true → plt p r = true
  | [], [], _, h, _ => by simp [plt] at h
  | [], _ :: _, [], _, h => by simp [plt] at h
  | [], _ :: _, _ :: _, _, _ => rfl
  | _ :: _, [], _, h, _ => by simp [plt] at h
  | _ :: _, _ :: _, [], _, h => by simp [plt] at h
  | a :: p, b :: q, c :: r, h1, h2 => by
    have ih := @plt_trans p q r
    revert h1 h2
    cases a <;> cases b <;> cases c <;> simp [plt] <;> exact ih
theorem plt_total : ∀ {p q : Pf}, p ≠ q → plt p q = false → plt q p = true
  | [], [], h, _ => absurd rfl h
  | [], _ :: _, _, h => by simp [plt] at h
  | _ :: _, [], _, _ => rfl
  | a :: p, b :: q, h1, h2 => by
    have ih := @plt_total p q
    revert h1 h2
    cases a <;> cases b <;> simp [plt] <;> exact ih
theorem plt_asymm {p q : Pf} (h : plt p q = true) : plt q p = false := by
  cases c : plt q p with
  | false => rfl
  | true => have := plt_trans h c; rw [plt_irr] at this; cases this
/-- rows in order -/
noncomputable def Srt (rs : List Row) : Prop := rs.Pairwise fun r r' => plt r.1 r'.1 = true
noncomputable def insR (rs : List Row) (x : Row) : List Row := rs.takeWhile (fun r => plt r.1 x.1) ++ x :: rs.dropWhile (fun r => plt r.1 x.1)
noncomputable def posR (rs : List Row) (x : Row) : Nat := (rs.takeWhile (fun r => plt r.1 x.1)).length
theorem posR_le (rs : List Row) (x : Row) : posR rs x ≤ rs.length := List.Sublist.length_le (List.takeWhile_sublist _)
theorem posR_lt : ∀ {rs : List Row} {x : Row}, Srt rs → ∀ {i : Nat} {r : Row}, rs[i]? = some r → (plt r.1 x.1 = decide (i < posR rs x))
  | [], _, _, _, _, h => by simp at h
  | r0 :: rs, x, hs, i, r, h => by
    have hs' := List.pairwise_cons.mp hs
    unfold posR
    cases c : plt r0.1 x.1 with
    | false =>
      rw [List.takeWhile_cons_of_neg (by simp [c])]
      cases i with
      | zero => simp at h; subst h; simp [c]
      | succ i =>
        have hm : r ∈ rs := List.mem_of_getElem? (by simpa using h)
        have h1 := hs'.1 r hm
        simp only [List.length_nil, Nat.not_lt_zero, decide_false]
        cases d : plt r.1 x.1 with
        | false => rfl
        | true => rw [plt_trans h1 d] at c; cases c
    | true =>
      rw [List.takeWhile_cons_of_pos (by simp [c])]
      cases i with
      | zero => simp at h; subst h; simp [c]
      | succ i =>
        have := posR_lt (x := x) hs'.2 (i := i) (r := r) (by simpa using h)
        rw [this]
        unfold posR
        rw [List.length_cons]
        congr 1
        apply propext
        constructor <;> intro hh <;> omega
/-- the comparisons of an ordered list with one more row at its end -/
theorem code_lt {rs : List Row} {x : Row} (hs : Srt rs) (hx : ∀ r ∈ rs, r.1 ≠ x.1) {i i' : Nat} {r r' : Row} (h1 : (rs ++ [x])[i]? = some r) (h2 : (rs ++ [x])[i']? = some r') :
    plt r.1 r'.1 = decide (codeN (rs.length + 1) (posR rs x) i < codeN (rs.length + 1) (posR rs x) i') := by
  have hi : i < rs.length + 1 := by have := (List.getElem?_eq_some_iff.mp h1).1; simpa using this
  have hi' : i' < rs.length + 1 := by have := (List.getElem?_eq_some_iff.mp h2).1; simpa using this
  unfold codeN
  by_cases c : i = rs.length
  · subst c
    have e : r = x := by simpa using h1.symm
    subst e
    rw [if_pos rfl]
    by_cases c' : i' = rs.length
    · subst c'
      have e : r' = r := by simpa using h2.symm
      subst e
      rw [if_pos rfl, plt_irr]; simp
    · have hl : i' < rs.length := by omega
      rw [if_neg (by omega)]
      have h2' : rs[i']? = some r' := by rwa [List.getElem?_append_left hl] at h2
      have p := posR_lt (x := r) hs h2'
      have ne := hx r' (List.mem_of_getElem? h2')
      cases d : plt r'.1 r.1 with
      | true =>
        rw [d] at p
        have := of_decide_eq_true p.symm
        rw [plt_asymm d, decide_eq_false (by omega)]
      | false =>
        rw [d] at p
        have := of_decide_eq_false p.symm
        rw [plt_total ne d, decide_eq_true (by omega)]
  · have hl : i < rs.length := by omega
    have h1' : rs[i]? = some r := by rwa [List.getElem?_append_left hl] at h1
    rw [if_neg (by omega)]
    by_cases c' : i' = rs.length
    · subst c'
      have e : r' = x := by simpa using h2.symm
      subst e
      rw [if_pos rfl, posR_lt hs h1']
      congr 1
      apply propext
      omega
    · have hl' : i' < rs.length := by omega
      have h2' : rs[i']? = some r' := by rwa [List.getElem?_append_left hl'] at h2
      rw [if_neg (by omega)]
      rcases Nat.lt_trichotomy i i' with d | d | d
      · have := List.pairwise_iff_getElem.mp hs i i' hl hl' d
        rw [List.getElem?_eq_getElem hl] at h1'
        rw [List.getElem?_eq_getElem hl'] at h2'
        cases h1'; cases h2'
        rw [this, decide_eq_true (by omega)]
      · subst d
        rw [h1'] at h2'; cases h2'
        rw [plt_irr, decide_eq_false (by omega)]
      · have := List.pairwise_iff_getElem.mp hs i' i hl' hl d
        rw [List.getElem?_eq_getElem hl] at h1'
        rw [List.getElem?_eq_getElem hl'] at h2'
        cases h1'; cases h2'
        rw [plt_asymm this, decide_eq_false (by omega)]
theorem take_range {α : Type} : ∀ (l : List α) (x : α) (n : Nat), n ≤ l.length → (List.range n).map (fun i => l.getD i x) = l.take n := by
  intro l x n h
  apply List.ext_getElem
  · simp; omega
  · intro i h1 h2
    simp only [List.getElem_map, List.getElem_range, List.getElem_take]
    have : i < l.length := by simp at h2; omega
    simp [this]
theorem drop_range {α : Type} : ∀ (l : List α) (x : α) (j n : Nat), j + n ≤ l.length → (List.range' j n).map (fun i => l.getD i x) = (l.drop j).take n := by
  intro l x j n h
  apply List.ext_getElem
  · simp; omega
  · intro i h1 h2
    simp only [List.getElem_map, List.getElem_range', List.getElem_take, List.getElem_drop]
    have h3 : i < n := by simp at h2; omega
    have : j + i < l.length := by omega
    simp [this]
theorem take_tw {α : Type} (p : α → Bool) : ∀ l : List α, l.take (l.takeWhile p).length = l.takeWhile p
  | [] => rfl
  | a :: l => by
    cases c : p a with
    | true => rw [List.takeWhile_cons_of_pos c, List.length_cons, List.take_succ_cons, take_tw p l]
    | false => rw [List.takeWhile_cons_of_neg (by simp [c])]; rfl
theorem drop_dw {α : Type} (p : α → Bool) : ∀ l : List α, l.drop (l.takeWhile p).length = l.dropWhile p
  | [] => rfl
  | a :: l => by
    cases c : p a with
    | true => rw [List.takeWhile_cons_of_pos c, List.length_cons, List.drop_succ_cons, drop_dw p l, List.dropWhile_cons_of_pos c]
    | false => rw [List.takeWhile_cons_of_neg (by simp [c]), List.dropWhile_cons_of_neg (by simp [c])]; rfl
theorem insAt_is {rs : List Row} {x d : Row} : (insAt (rs.length + 1) (posR rs x)).map (fun i => (rs ++ [x]).getD i d) = insR rs x := by
  have hj := posR_le rs x
  unfold insAt insR
  rw [List.map_append, List.map_cons, take_range _ _ _ (by simp; omega), drop_range _ _ _ _ (by simp; omega)]
  have e1 : (rs ++ [x]).take (posR rs x) = rs.takeWhile (fun r => plt r.1 x.1) := by
    rw [List.take_append_of_le_length hj]
    exact take_tw _ rs
  have e2 : ((rs ++ [x]).drop (posR rs x)).take (rs.length + 1 - 1 - posR rs x) = rs.dropWhile (fun r => plt r.1 x.1) := by
    rw [List.drop_append_of_le_length hj]
    have e3 : rs.drop (posR rs x) = rs.dropWhile (fun r => plt r.1 x.1) := drop_dw _ rs
    rw [List.take_append_of_le_length (by simp), List.take_of_length_le (by simp), e3]
  rw [e1, e2]
  simp
section
variable {prog : Program} {w : World} {hb : Heap} {μ : Mut} {k : Nat} {b : Nat} {X : Addr → Prop} {h h' : Heap} {A : Around} {E : Value → Shared → Prop} {s : Shared}
theorem Cs.step (C : Cs hb X μ h) {N : Addr → Prop} (E : Ext N h h') (kX : ∀ a, N a → X a) (kM : ∀ a, N a → ¬ μ.M a) : Cs hb X μ h' where
  base := fun b o e => E.1 b o (fun n => by rw [(C.xs b (kX b n)).1] at e; cases e) (C.base b o e)
  xs := fun a x => ⟨(C.xs a x).1, by obtain ⟨o, e⟩ := (C.xs a x).2; exact E.2 a o e⟩
  mu := C.mu.ext E kX kM
theorem Cs.push (C : Cs hb X μ h) (o : Obj) (ho : o.isFreed = false) : Cs hb (plus X h.objs.size) μ (h.push o) where
  base := fun b o' e => Heap.get?_push_of_some o (C.base b o' e)
  xs := fun a x => x.elim (fun x => ⟨(C.xs a x).1, by obtain ⟨o', e⟩ := (C.xs a x).2; exact ⟨o', Heap.get?_push_of_some o e⟩⟩) fun x => by
    subst x
    exact ⟨C.fresh (newGet h), o, Heap.get?_push_size _ ho⟩
  mu := (Nxt.push (C.mu.plus (newGet h)) o).mu
theorem RDs.pushP {vs : List Value} {ds : List PyData} (r : RDs X h vs ds) (o : Obj) : RDs (Rl.plus X h.objs.size) (h.push o) vs ds :=
  (r.plus (newGet h)).mono fun a o' n e => ⟨n, Heap.get?_push_of_some o e⟩
theorem RDs.ext' {N : Addr → Prop} {vs : List Value} {ds : List PyData} (r : RDs X h vs ds) (E : Ext N h h') (k : ∀ a, N a → X a) : RDs X h' vs ds :=
  r.mono fun a o n e => ⟨n, E.1 a o (fun x => n (k a x)) e⟩
theorem ext_same {D : Addr} (hs : Heap.SameBut D h h') (lv : ∃ o, h'.get? D = some o) : Ext (fun a => a = D) h h' :=
  ⟨fun b o n e => hs.extBut b o n e, fun b o e => by
    by_cases q : b = D
    · subst q; exact lv
    · exact ⟨o, hs.extBut b o q e⟩⟩

theorem keys_loop {kS : Addr} {f : Value} {β : Type} (g : β → PyData) (kf : β → PyData) {body : Value → PUnit → Sem (ForInStep PUnit)} (R : Room A k) (XS : X kS) (MS : ¬ μ.M kS)
    (hbody : ∀ x (s : Shared) (Q : ForInStep PUnit → Shared → Prop), wpAny (model prog w) A (call f [x]) (fun v s' => ∃ xs c, s'.heap.get? kS = some (seqObj "list" xs c) ∧ xs.size < 64 ∧ Q (.yield ⟨⟩) { s' with heap := s'.heap.update kS (Obj.mapSeq (·.push v)) }) (fun _ _ => False) s →
      wpAny (model prog w) A (body x ⟨⟩) Q E s) {Q : PUnit → Shared → Prop} :
    ∀ (rs : List β) (vs ks : List Value) (kd : List PyData) (e : Nat) (s : Shared), (∀ r ∈ rs, WC prog w hb k f [.d (g r)] μ fun U μ' => U = .d (kf r) ∧ μ' = μ) → Cs hb X μ s.heap → s.heap.get? kS = some (seqObj "list" ks.toArray e) → RDs X s.heap vs (rs.map g) → RDs X s.heap ks kd → ks.length + rs.length < 64 →
      (∀ h' tk ks' e', Ext (fun a => μ.M a ∨ a = kS) s.heap h' → Cs hb X μ h' → h'.get? kS = some (seqObj "list" ks'.toArray e') → RDs X h' ks' (kd ++ rs.map kf) → Q ⟨⟩ { s with heap := h', toks := tk }) →
      wpAny (model prog w) A (forIn vs PUnit.unit body) Q E s := by
  intro rs
  induction rs with
  | nil =>
    intro vs ks kd e s hk C hS rv rk hz hQ
    cases vs with
    | cons v vs => cases rv
    | nil =>
      rw [List.forIn_nil]
      exact wpAny_pure (hQ s.heap s.toks ks e (.refl _ _) C hS (by simpa using rk))
  | cons r rs ih =>
    intro vs ks kd e s hk C hS rv rk hz hQ
    cases vs with
    | nil => cases rv
    | cons v vs =>
      cases rv with
      | cons r1 rv =>
        rw [List.forIn_cons]
        refine wpAny_bind (hbody v s _ ?_)
        refine hk r (.head _) A X s [v] _ _ R C (.cons r1 .nil) ?_
        rintro v1 g1 tk1 U μ1 ⟨rfl, rfl⟩ n1 rv1
        have hS1 : g1.get? kS = some (seqObj "list" ks.toArray e) := n1.ext.1 kS _ MS hS
        have hsz : (ks.toArray).size < 64 := by simp at hz ⊢; omega
        refine ⟨ks.toArray, e, hS1, hsz, ?_⟩
        obtain ⟨c2, hc2⟩ : ∃ c2, (g1.update kS (Obj.mapSeq (·.push v1))).get? kS = some (seqObj "list" (ks ++ [v1]).toArray c2) :=  by
          have q := get?_update_seq hS1 (·.push v1)
          rw [show (ks.toArray).push v1 = (ks ++ [v1]).toArray by simp] at q
          exact ⟨_, q⟩
        have s1 := Heap.SameBut.update g1 kS (Obj.mapSeq (·.push v1))
        have E1 := ext_same s1 ⟨_, hc2⟩
        have C1 := C.nxt n1
        have C2 := C1.step E1 (fun a q => q ▸ XS) fun a q m => MS (q ▸ m)
        have EX : Ext (fun a => μ1.M a ∨ a = kS) s.heap (g1.update kS (Obj.mapSeq (·.push v1))) := (n1.ext.sub fun _ _ _ m => .inl m).trans (E1.sub fun _ _ _ m => .inr m)
        have kX : ∀ a, (μ1.M a ∨ a = kS) → X a := fun a m => m.elim (fun m => C.mu.inX m) fun m => m ▸ XS
        refine ih vs (ks ++ [v1]) (kd ++ [kf r]) c2 { s with heap := g1.update kS (Obj.mapSeq (·.push v1)), toks := tk1 } (fun r' hr' => hk r' (.tail _ hr')) C2 hc2 (rv.ext' EX kX) ((rk.ext' EX kX).append (.cons (RD.ext rv1 E1 fun a q => q ▸ XS) .nil)) (by simp at hz ⊢; omega) ?_
        intro h' tk ks' e' E2 C3 hS3 rk3
        refine hQ h' tk ks' e' (EX.trans E2) C3 hS3 (by simpa using rk3)

theorem tail_wp {D kS : Addr} {e e1 : Nat} {ks out : List Value} {st : SortSt} {P : PySem.Fin → Shared → Prop} (hD : s.heap.get? D = some (seqObj "list" #[] e1)) (hS : s.heap.get? kS = some (seqObj "list" ks.toArray e)) (ne : D ≠ kS)
    (ho : (arrOf st).map (·.2) = out.toArray) (hf : failedOf st = none) (z1 : ks.length < 64) (z2 : out.length < 64)
    (hP : ∀ h' c, Ext (fun a => a = D ∨ a = kS) s.heap h' → h'.get? D = some (seqObj "list" out.toArray c) → P (.done (.ret .none)) { s with heap := h' }) : wpAny (model prog w) A (ksk_tail D false e1 (.ref kS) st) P E s := by
  have s1 := Heap.SameBut.update s.heap kS (Obj.mapSeq fun _ => (#[] : Array Value))
  have hS1 := get?_update_seq hS fun _ => (#[] : Array Value)
  have hD1 : (s.heap.update kS (Obj.mapSeq fun _ => (#[] : Array Value))).get? D = some (seqObj "list" #[] e1) := s1.extBut D _ ne hD
  have s2 := Heap.SameBut.update (s.heap.update kS (Obj.mapSeq fun _ => (#[] : Array Value))) D (Obj.mapSeq fun _ => out.toArray)
  obtain ⟨c2, hc2⟩ : ∃ c2, ((s.heap.update kS (Obj.mapSeq fun _ => (#[] : Array Value))).update D (Obj.mapSeq fun _ => out.toArray)).get? D = some (seqObj "list" out.toArray c2) := ⟨_, get?_update_seq hD1 fun _ => out.toArray⟩
  unfold ksk_tail
  dsimp only
  rw [ho]
  refine wpAny_bind (listUpdate_at hS rfl ?_ (by rw [List.size_toArray, sizeLine_eq]; omega) (Nat.zero_le _))
  refine wpAny_bind (wpAny_letGo ?_)
  refine wpAny_bind (seqEpoch_at hD1 rfl ?_)
  simp only [Bool.false_eq_true, if_false]
  refine wpAny_bind (listUpdate_at hD1 rfl ?_ (Nat.zero_le _) (by rw [List.size_toArray, sizeLine_eq]; omega))
  rw [hf]
  simp only [bne_self_eq_false, Bool.false_eq_true, if_false]
  refine wpAny_pure (hP _ c2 ?_ hc2)
  exact ((ext_same s1 ⟨_, hS1⟩).sub fun _ _ _ m => .inr m).trans ((ext_same s2 ⟨_, hc2⟩).sub fun _ _ _ m => .inl m)
theorem ask_ok (B : BP b) {κ : SortKind} {ks : List Value} {ps : List Pf} (hκ : κ = tuples' true) (rk : RDs X s.heap ks (ps.map (encP b))) {i j : Nat} {p q : Pf} (hi : ps[i]? = some p) (hj : ps[j]? = some q) (sp : p.length ≤ b) (sq : q.length ≤ b) {C : Bool → Shared → Prop} (hC : C (plt p q) s) :
    kas_ask prog w A κ ks i j C s := by
  subst hκ
  obtain ⟨v1, e1, r1⟩ := rk.get (i := i) (d := encP b p) (by rw [List.getElem?_map, hi]; rfl)
  obtain ⟨v2, e2, r2⟩ := rk.get (i := j) (d := encP b q) (by rw [List.getElem?_map, hj]; rfl)
  obtain ⟨a1, vs1, n1, rfl, x1, o1, q1⟩ := RD.tuple_inv r1
  obtain ⟨a2, vs2, n2, rfl, x2, o2, q2⟩ := RD.tuple_inv r2
  rcases q1 with _ | ⟨q11, _ | ⟨q12, ⟨⟩⟩⟩
  rcases q2 with _ | ⟨q21, _ | ⟨q22, ⟨⟩⟩⟩
  obtain ⟨t1, rfl⟩ := RD.int_inv q11
  obtain ⟨t2, rfl⟩ := RD.int_inv q12
  obtain ⟨t3, rfl⟩ := RD.int_inv q21
  obtain ⟨t4, rfl⟩ := RD.int_inv q22
  have g1 : ks.getD i Value.none = .ref a1 := by rw [List.getD_eq_getElem?_getD, e1]; rfl
  have g2 : ks.getD j Value.none = .ref a2 := by rw [List.getD_eq_getElem?_getD, e2]; rfl
  unfold kas_ask
  rw [g1, g2]
  rw [(f_cmp B sp sq).1] at hC
  refine kat_lt o1 rfl o2 rfl ?_
  show KatLex prog w A true false C [(.int (val b p) t1, .int (val b q) t3), (.int p.length t2, .int q.length t4)] 0 s
  refine kat_cons (wpAny_eqBool_int (kat_go (fun h => ?_) fun h => ?_))
  · have h : val b p = val b q := by simpa using h
    refine kat_yes (kat_cons (wpAny_eqBool_int (kat_go (fun h2 => ?_) fun h2 => ?_)))
    · have h2 : p.length = q.length := by simp at h2; omega
      refine kat_yes (kat_nil ?_)
      simpa [h, h2] using hC
    · refine kat_no ?_
      show wpAny _ _ (oneLt' false _ _) _ _ _
      refine kat_one _ _ (PyProof.Rows.lt_int ?_)
      show C _ s
      have : decide ((p.length : Int) < (q.length : Int)) = decide (p.length < q.length) := by congr 1; apply propext; omega
      rw [this]
      simpa [h] using hC
  · have h : val b p ≠ val b q := by simpa using h
    refine kat_no ?_
    show wpAny _ _ (oneLt' true _ _) _ _ _
    refine oneLt_int ?_
    simpa [h] using hC
theorem tups {ks : List Value} : ∀ {ps : List Pf}, RDs X h ks (ps.map (encP b)) → ∃ fs, KatTups h ks fs ∧ fs.length = ps.length ∧ ∀ v ∈ fs, ∃ i t, v = .int i t := by
  intro ps
  induction ps generalizing ks with
  | nil => intro r; cases r; exact ⟨[], .nil, rfl, fun _ h => nomatch h⟩
  | cons p ps ih =>
    intro r
    cases r with
    | cons r1 r =>
      obtain ⟨fs, t, l, f⟩ := ih r
      obtain ⟨a1, vs1, n1, rfl, x1, o1, q1⟩ := RD.tuple_inv r1
      cases q1 with
      | cons q11 q1 =>
        obtain ⟨t1, rfl⟩ := RD.int_inv q11
        refine ⟨.int (val b p) t1 :: fs, .cons o1 rfl rfl (by simp) t, by simp [l], ?_⟩
        intro v hv
        rcases List.mem_cons.mp hv with rfl | hv
        · exact ⟨_, _, rfl⟩
        · exact f v hv
theorem end_wp (B : BP b) {D kS : Addr} {e e1 : Nat} {ks vs : List Value} {rs : List Row} {x : Row} {P : PySem.Fin → Shared → Prop} (hD : s.heap.get? D = some (seqObj "list" #[] e1)) (hS : s.heap.get? kS = some (seqObj "list" ks.toArray e)) (ne : D ≠ kS)
    (rk : RDs X s.heap ks ((rs ++ [x]).map fun r => encP b r.1)) (rv : RDs X s.heap vs ((rs ++ [x]).map (encR b))) (hl : rs.length ≤ 7) (ss : shortR b (rs ++ [x])) (hs : Srt rs) (hx : ∀ r ∈ rs, r.1 ≠ x.1)
    (hP : ∀ h' c out, Ext (fun a => a = D ∨ a = kS) s.heap h' → h'.get? D = some (seqObj "list" (List.toArray out) c) → RDs X s.heap out ((insR rs x).map (encR b)) → P (.done (.ret .none)) { s with heap := h' }) :
    wpAny (model prog w) A (ksk_end D false vs.toArray e1 (.ref kS) ks.toArray) P E s := by
  have lk := rk.length
  have lv := rv.length
  simp only [List.length_map, List.length_append, List.length_singleton] at lk lv
  unfold ksk_end
  dsimp only
  simp only [Bool.false_eq_true, if_false]
  cases rs with
  | nil =>
    have h2 : vs.toArray.size < 2 := by rw [List.size_toArray]; simp at lv; omega
    rw [if_pos h2, if_pos h2]
    refine wpAny_bind (wpAny_pure (wpAny_bind (wpAny_pure ?_)))
    refine tail_wp (out := vs) hD hS ne ?_ rfl (by simp at lk; omega) (by simp at lv; omega) fun h' c E1 hD' => hP h' c vs E1 hD' rv
    match vs, ks, lv, lk with
    | [v], [kk], _, _ =>
      apply Array.toList_inj.mp
      rw [Array.toList_map]
      show List.map (fun x => x.2) ((List.toArray [kk]).zip (List.toArray [v])).toList = _
      rw [ksk_zip]
      rfl
  | cons r0 rs' =>
    have h2 : ¬ vs.toArray.size < 2 := by rw [List.size_toArray]; simp at lv; omega
    rw [if_neg h2, if_neg h2]
    have rk' : RDs X s.heap ks (((r0 :: rs' ++ [x]).map (·.1)).map (encP b)) := by rw [List.map_map]; exact rk
    obtain ⟨fs, tt, tl, tf⟩ := tups rk'
    refine wpAny_bind (kat_kind (T := .type "int") tt (by rw [tl]; simp) (fun v hv => ?_) (by decide) ?_)
    · obtain ⟨i, t, rfl⟩ := tf v hv
      exact .now
    · have hn : vs.length = (r0 :: rs').length + 1 := by simpa using lv
      have hkl : ks.length = vs.length := by omega
      obtain ⟨p, hp, hpl⟩ := sort_is (n := vs.length) (j := posR (r0 :: rs') x) (by rw [hn]; simp) (by omega) (by have := posR_le (r0 :: rs') x; omega)
      refine wpAny_bind (wpAny_mono (kat_run (Q := fun st' s' => s' = s ∧ arrOf st' = p.map (kas_item (ks.toArray.zip vs.toArray)) ∧ failedOf st' = none) (G := fun p' s' => p' = p ∧ s' = s) hkl (by rw [hn]; simp) (by omega) (fun p' st' s' _ a2 a3 a4 => ⟨a4.2, a4.1 ▸ a2, a3⟩) ?_) ?_ fun _ _ x => x)
      · refine runO_wp (fun i j c hc C hC => ?_) _ p hp ⟨rfl, rfl⟩
        unfold insLt at hc
        split at hc
        · rename_i hij
          rw [hn] at hij
          have gi : ((r0 :: rs') ++ [x])[i]? = some (((r0 :: rs') ++ [x])[i]'(by simpa using hij.1)) := List.getElem?_eq_getElem _
          have gj : ((r0 :: rs') ++ [x])[j]? = some (((r0 :: rs') ++ [x])[j]'(by simpa using hij.2)) := List.getElem?_eq_getElem _
          refine ask_ok B rfl rk' (by rw [List.getElem?_map, gi]; rfl) (by rw [List.getElem?_map, gj]; rfl) (ss _ (List.getElem_mem _)) (ss _ (List.getElem_mem _)) ?_
          rw [code_lt hs hx gi gj]
          rw [hn] at hc
          cases hc
          exact hC
        · cases hc
      · rintro ⟨⟨⟩, st⟩ s' ⟨rfl, ha, hf⟩
        dsimp only
        refine tail_wp (out := p.toList.map fun i => vs.getD i Value.none) hD hS ne (kat_snds hkl ha) hf (by omega) (by
          rw [List.length_map, hpl]; unfold insAt; have := posR_le (r0 :: rs') x; simp; omega) fun h' c E1 hD' => hP h' c _ E1 hD' ?_
        rw [hpl]
        have key : ∀ l : List Nat, (∀ i ∈ l, i < vs.length) → RDs X s'.heap (l.map fun i => vs.getD i Value.none) ((l.map fun i => ((r0 :: rs') ++ [x]).getD i x).map (encR b)) := by
          intro l
          induction l with
          | nil => intro _; exact .nil
          | cons i l ih =>
            intro hm
            have hi := hm i (.head _)
            have gi : ((r0 :: rs') ++ [x])[i]? = some (((r0 :: rs') ++ [x])[i]'(by rw [hn] at hi; simpa using hi)) := List.getElem?_eq_getElem _
            obtain ⟨v, ev, rvv⟩ := rv.get (i := i) (d := encR b (((r0 :: rs') ++ [x])[i]'(by rw [hn] at hi; simpa using hi))) (by rw [List.getElem?_map, gi]; rfl)
            refine .cons ?_ (ih fun i' h' => hm i' (.tail _ h'))
            show RD X s'.heap (vs.getD i Value.none) (encR b (((r0 :: rs') ++ [x]).getD i x))
            rw [List.getD_eq_getElem?_getD, ev, List.getD_eq_getElem?_getD, gi]
            exact rvv
        have hin : ∀ i ∈ insAt vs.length (posR (r0 :: rs') x), i < vs.length := by
          intro i hi
          have hj := posR_le (r0 :: rs') x
          unfold insAt at hi
          simp only [List.mem_append, List.mem_range, List.mem_cons, List.mem_range'_1] at hi
          omega
        have := key _ hin
        rw [hn] at this ⊢
        rw [insAt_is] at this
        exact this
theorem tree_wp (B : BP b) {D q : Addr} {n : Nat} {vs : List Value} {rs : List Row} {x : Row} {P : PySem.Fin → Shared → Prop} (R : Room A k) (C : Cs hb X μ s.heap) (XD : X D) (MD : ¬ μ.M D) (hD : s.heap.get? D = some (seqObj "list" vs.toArray n))
    (rv : RDs X s.heap vs ((rs ++ [x]).map (encR b))) (hl : rs.length ≤ 7) (ss : shortR b (rs ++ [x])) (hs : Srt rs) (hx : ∀ r ∈ rs, r.1 ≠ x.1)
    (hk : ∀ r ∈ rs ++ [x], WC prog w hb k (.ref q) [.d (encR b r)] μ fun U μ' => U = .d (encP b r.1) ∧ μ' = μ)
    (hP : ∀ h' tk c out, Ext (fun a => μ.M a ∨ a = D) s.heap h' → HasMut X h' μ → h'.get? D = some (seqObj "list" (List.toArray out) c) → RDs X h' out ((insR rs x).map (encR b)) → P (.done (.ret .none)) { s with heap := h', toks := tk }) :
    wpAny (model prog w) A (ksk_tree D (.ref q) false) P E s := by
  have lv := rv.length
  simp only [List.length_map, List.length_append, List.length_singleton] at lv
  have z1 : vs.toArray.size ≤ sizeLine := by rw [List.size_toArray, sizeLine_eq]; omega
  have s1 := Heap.SameBut.update s.heap D (Obj.mapSeq fun _ => (#[] : Array Value))
  obtain ⟨e1, hD1⟩ : ∃ e1, (s.heap.update D (Obj.mapSeq fun _ => (#[] : Array Value))).get? D = some (seqObj "list" #[] e1) := ⟨_, get?_update_seq hD fun _ => #[]⟩
  have E1 := ext_same s1 ⟨_, hD1⟩
  have C1 := C.step E1 (fun a q => q ▸ XD) fun a q m => MD (q ▸ m)
  have rv1 := rv.ext' E1 fun a q => q ▸ XD
  unfold ksk_tree
  refine wpAny_bind (listItems_at hD rfl ?_)
  refine wpAny_bind (listUpdate_at hD rfl ?_ z1 (Nat.zero_le _))
  refine wpAny_bind (seqEpoch_at hD1 rfl ?_)
  refine wpAny_bind (wpAny_newTuple ?_ (by simpa using z1))
  refine wpAny_bind (wpAny_newList ?_ (Nat.zero_le _))
  refine wpAny_holding ?_
  generalize hg1 : s.heap.update D (Obj.mapSeq fun _ => (#[] : Array Value)) = g1 at hD1 E1 C1 rv1
  simp only [hg1]
  have E2 : Ext (fun a => μ.M a ∨ a = D) s.heap (g1.push { cls := .type "tuple", data := .seq vs.toArray.toList.toArray }) := (E1.trans (.push _)).sub fun _ _ _ m => .inr m
  have C2 : Cs hb X μ (g1.push { cls := .type "tuple", data := .seq vs.toArray.toList.toArray }) := C1.step (N := fun _ => False) (.push _) (fun _ x => x.elim) fun _ x => x.elim
  have rv2 : RDs X (g1.push { cls := .type "tuple", data := .seq vs.toArray.toList.toArray }) vs _ := rv1.ext' (N := fun _ => False) (.push _) fun _ x => x.elim
  have hD2 : (g1.push { cls := .type "tuple", data := .seq vs.toArray.toList.toArray }).get? D = some (seqObj "list" #[] e1) := Heap.get?_push_of_some _ hD1
  generalize g1.push { cls := .type "tuple", data := .seq vs.toArray.toList.toArray } = g2 at E2 C2 rv2 hD2
  have C3 := C2.push { cls := .type "list", data := .seq (#[] : Array Value) } rfl
  have rv3 := rv2.pushP { cls := .type "list", data := .seq (#[] : Array Value) }
  have hD3 : (g2.push { cls := .type "list", data := .seq (#[] : Array Value) }).get? D = some (seqObj "list" #[] e1) := Heap.get?_push_of_some _ hD2
  have hS3 : (g2.push { cls := .type "list", data := .seq (#[] : Array Value) }).get? g2.objs.size = some (seqObj "list" #[] 0) := Heap.get?_push_size _ rfl
  have nDS : D ≠ g2.objs.size := Nat.ne_of_lt (Heap.lt_size hD2)
  have E3 : Ext (fun a => μ.M a ∨ a = D) s.heap (g2.push { cls := .type "list", data := .seq (#[] : Array Value) }) := E2.trans (.push _)
  have MS : ¬ μ.M g2.objs.size := fun m => C2.isLive (C2.mu.inX m) (newGet g2)
  have sS : ∀ a o, s.heap.get? a = some o → a ≠ g2.objs.size := fun a o e q => by
    obtain ⟨o', e'⟩ := E2.2 a o e
    rw [q, newGet] at e'; cases e'
  unfold ksk_rest
  refine wpAny_bind (wpAny_rule ?_)
  rw [List.forIn_toArray]
  refine wpAny_bind (keys_loop (encR b) (fun r : Row => encP b r.1) (kS := g2.objs.size) (f := .ref q) R (.inr rfl) MS ?_ (rs ++ [x]) vs [] [] 0 _ hk C3 hS3 rv3 .nil (by simp; omega) ?_)
  · intro v s' Q hc
    refine wpAny_bind (wpAny_attempt (wpAny_mono hc ?_ fun _ _ x => x.elim))
    rintro v1 s2 ⟨xs, c, e, z, hq⟩
    exact wpAny_bind (listUpdate_at e rfl (wpAny_pure hq) (by rw [sizeLine_eq]; omega) (by rw [Array.size_push, sizeLine_eq]; omega))
  · intro h4 tk4 ks e4 E4 C4 hS4 rk4
    have hD4 : h4.get? D = some (seqObj "list" #[] e1) := E4.1 D _ (fun m => m.elim MD nDS) hD3
    dsimp only
    refine wpAny_bind (listItems_at hS4 rfl ?_)
    have kX : ∀ a, (μ.M a ∨ a = g2.objs.size) → Rl.plus X g2.objs.size a := fun a m => m.elim (fun m => .inl (C.mu.inX m)) .inr
    refine end_wp B hD4 hS4 nDS (by simpa using rk4) (rv3.ext' E4 kX) hl ss hs hx fun h5 c out E5 hD5 ro => ?_
    have E45 : Ext (fun a => μ.M a ∨ a = D ∨ a = g2.objs.size) s.heap h5 := ((E3.sub fun _ _ _ m => m.elim .inl fun m => .inr (.inl m)).trans (E4.sub fun _ _ _ m => m.elim .inl fun m => .inr (.inr m))).trans (E5.sub fun _ _ _ m => .inr m)
    have k5 : ∀ a, (a = D ∨ a = g2.objs.size) → Rl.plus X g2.objs.size a := fun a m => m.elim (fun m => .inl (m ▸ XD)) .inr
    have M5 := (C4.mu.ext E5 k5 fun a m q => m.elim (fun m => MD (m ▸ q)) fun m => MS (m ▸ q)).unplus (fun _ x => .inl x) fun a m => C.mu.inX m
    exact hP h5 tk4 c out (E45.sub fun a o e m => m.elim .inl fun m => m.elim .inr fun m => absurd m (sS a o e)) M5 hD5 ((ro.ext' E5 k5).mono fun a o nx e => ⟨fun x => nx (.inl x), e⟩)
end
theorem Room.in2 {A : Around} {k : Nat} (R : Room A (k + 1)) : Room A.in1.in1 k :=
  ⟨R.handled, by have := R.depth; show A.depth + k < 900; omega, by have := R.units; show A.units + 1 + 1 + 8 * k < 9000; omega⟩
section
variable {prog : Program} {w : World} {hb : Heap} {K : Frag} {μ : Mut} {k : Nat} {b : Nat} {X : Addr → Prop} {h h' : Heap} {s : Shared} {sc : Scope} {ρ : Str → Option V} {P : V → Mut → Prop} {pos : Pos}
theorem sorted_call {A : Around} {Q E : Value → Shared → Prop} (B : BP b) {q : Addr} {v : Value} {rs : List Row} {x : Row} (R : Room A (k + 1)) (C : Cs hb X μ s.heap) (r : RD X s.heap v (encL b (rs ++ [x]))) (hl : rs.length ≤ 7) (ss : shortR b (rs ++ [x])) (hs : Srt rs) (hx : ∀ r ∈ rs, r.1 ≠ x.1)
    (hk : ∀ r ∈ rs ++ [x], WC prog w hb k (.ref q) [.d (encR b r)] μ fun U μ' => U = .d (encP b r.1) ∧ μ' = μ)
    (hQ : ∀ v h' tk, Nxt X μ s.heap μ h' → RD X h' v (encL b (insR rs x)) → Q v { s with heap := h', toks := tk }) :
    wpAny (model prog w) A (call (.builtin "sorted") [v] [(Str.ofString "key", .ref q)]) Q E s := by
  obtain ⟨l, vs, n, rfl, nl, el, rv⟩ := RD.list_inv r
  have lv := rv.length
  simp only [List.length_map, List.length_append, List.length_singleton] at lv
  have hL : s.heap.IsList l vs.toArray := ⟨_, el, rfl, n, rfl⟩
  refine call_function_entry_kw kind_sorted plain_sorted entry_sorted (ksk_s1 _ _) ?_
  unfold Builtin.«sorted»
  refine wpAny_bind (m := checkCount "sorted" 1 1 _) (wpAny_pure ?_)
  refine wpAny_bind (collect_list hL ?_ (by rw [sizeLine_eq]; omega))
  refine wpAny_bind (wpAny_newList ?_ (by rw [sizeLine_eq]; omega))
  have E0 : Ext (fun _ => False) s.heap ((s.heap.push (seqObj "list" #[] 0)).update s.heap.objs.size (Obj.mapSeq (· ++ vs.toArray))) := .keeps fun b o e => by
    have hlt := Heap.lt_size e
    rw [Heap.get?_update_ne _ _ _ _ (Nat.ne_of_lt hlt), Heap.get?_push_ne _ _ _ (Nat.ne_of_lt hlt)]
    exact e
  have C0 := C.step E0 (fun _ x => x.elim) fun _ x => x.elim
  have r0 := rv.ext' E0 fun _ x => x.elim
  generalize (s.heap.push (seqObj "list" #[] 0)).update s.heap.objs.size (Obj.mapSeq (· ++ vs.toArray)) = g0 at E0 C0 r0
  have C1 := C0.push { cls := .type "list", data := .seq vs.toArray } rfl
  have r1 := r0.pushP { cls := .type "list", data := .seq vs.toArray }
  have hD : (g0.push { cls := .type "list", data := .seq vs.toArray }).get? g0.objs.size = some (seqObj "list" vs.toArray 0) := Heap.get?_push_size _ rfl
  have nD : ¬ X g0.objs.size := C0.notNew
  refine wpAny_bind (wpAny_holding (wpAny_call_entry_kw slot_list_sort ⟨_, hD, rfl⟩ entry_list_sort ?body (ksk_l1 _ _)))
  case body =>
    show wpAny (model prog w) A.in1.in1 (Builtin.«list.sort» ⟨[.ref g0.objs.size], [(Str.ofString "key", .ref q)]⟩) _ _ _
    rw [ksk_t1]
    refine tree_wp B R.in2 C1 (.inr rfl) (fun m => nD (C.mu.inX m)) hD r1 hl ss hs hx hk fun h' tk c out E2 M2 hD2 ro => ?_
    refine ⟨_, rfl, wpAny_pure ⟨_, rfl, ?_⟩⟩
    have sD : ∀ a o, s.heap.get? a = some o → a ≠ g0.objs.size := fun a o e z => by
      have := E0.1 a o (fun x => x) e
      rw [z, newGet] at this; cases this
    have E3 : Ext μ.M s.heap h' := ((E0.sub fun _ _ _ x => x.elim).trans (N := fun a => μ.M a ∨ a = g0.objs.size) ((Ext.push _).trans E2)).sub fun a o e m => m.elim id fun m => absurd m (sD a o e)
    refine hQ _ h' tk ⟨E3, M2.unplus (fun _ x => .inl x) (fun a m => C.mu.inX m), .refl _⟩ ?_
    exact RD.list (n := c) nD hD2 (ro.mono fun a o nx e => ⟨fun x => nx (.inl x), e⟩)
theorem WE.sorted {fp p1 p2 : Pos} {e : Expr} {f : Str} {q : Addr} (Y : Wd K hb) (hk : sc.names.lookup ("sorted" : Str) = some .globalImplicit) (hf : nsIn K mainGlobals ("sorted" : Str) = some Option.none) (hv : bootBuiltins ("sorted" : Str) = some (.builtin "sorted"))
    (hk2 : sc.names.lookup f = some .globalImplicit) (hf2 : nsIn K mainGlobals f = some (some (.ref q))) (hd : (f == ("__debug__" : Str)) = false)
    (H : WEs prog w hb (k + 1) sc [e] ρ μ fun Us μ1 => ∃ b rs x, BP b ∧ Us = [.d (encL b (rs ++ [x]))] ∧ rs.length ≤ 7 ∧ shortR b (rs ++ [x]) ∧ Srt rs ∧ (∀ r ∈ rs, r.1 ≠ x.1) ∧
      (∀ r ∈ rs ++ [x], WC prog w hb k (.ref q) [.d (encR b r)] μ1 fun U μ' => U = .d (encP b r.1) ∧ μ' = μ1) ∧ P (.d (encL b (insR rs x))) μ1)
    (he : ∀ env, backTo pos (starEach [e] env) = (false, eval e env) :: backTo pos (starEach [] env)) :
    WE prog w hb (k + 1) sc (.Call (.Name ("sorted" : Str) fp) [e] [⟨some ("key" : Str), .Name f p1, p2⟩] pos) ρ μ P := fun A env X s Q E h1 h2 C F hQ => by
  obtain ⟨p, loose, mg, mb, T⟩ := Y.top
  refine wpAny_Call_ofName (Name_function_global F.kind (by rw [← hk, ← h1]; rfl) (loadGlobal_builtin (by rw [F.glob]; exact C.ns T.g) (mg_none_of Y.kin T.g hf) (by rw [F.blt]; exact C.ns T.b) ((T.builtins ("sorted" : Str) (by decide)).trans hv) ?_))
  refine callWith_kw (H A env X s pos _ E h1 h2 C F ?_) (he env) (by rw [he env]; rfl) rfl rfl
  rintro vs g tk Us μ1 ⟨b, rs, x, B, rfl, hl, ss, hs, hx, hk', hP⟩ n1 r1
  cases r1 with
  | cons r1 r2 =>
    cases r2
    have Cg := C.nxt n1
    have Fg := F.nxt C.mu n1
    show wpAny (model prog w) A (evalAll [do let v ← eval (.Name f p1) env; standAt pos; pure v]) _ E _
    refine evalAll_cons (wpAny_bind (Name_function_global Fg.kind (by rw [← hk2, ← h1]; rfl) (loadGlobal_global (by rw [Fg.glob]; exact Cg.ns T.g) (mg_of Y.kin T.g hf2) ?_) hd))
    refine wpAny_bind (wpAny_standAt (wpAny_pure (evalAll_nil ?_)))
    show wpAny (model prog w) A (PySem.call (.builtin "sorted") [_] [(Str.ofString "key", .ref q)]) Q E _
    refine sorted_call B h2 Cg r1 hl ss hs hx hk' fun v h' tk' n2 rd => ?_
    exact hQ v h' tk' (.d (encL b (insR rs x))) μ1 hP (n1.trans n2) rd
end
section
variable {prog : Program} {w : World} {hb : Heap} {μ : Mut} {k : Nat} {b : Nat} {p q : Pf}
noncomputable def putL (rs : List Row) (p : Pf) (wv : Int) : List Row := insR (rs.filter fun r => decide (r.1 ≠ p)) (p, wv)
set_option maxHeartbeats 2000000
theorem list_put_c (Y : Wd (KK w) hb) (B : BP b) {rs : List Row} (hl : rs.length ≤ 7) (sr : shortR b rs) (hp : p.length ≤ b) (hs : Srt rs) (wv : Int) : WC prog w hb 3 (.ref 47) [.d (encL b rs), .d (encP b p), .d (.int wv)] μ fun U μ' => U = .d (encL b (putL rs p wv)) ∧ μ' = μ := by
  have h4 := B.hi
  refine WC.fn Y (by with_unfolding_all rfl) (by with_unfolding_all rfl) ["rows", "prefix", "worth"] (names3 fun _ _ _ => rfl) (by decide) rfl rfl rfl rfl ?_
  repeat walk_at "s"
  refine WE.sorted Y (by with_unfolding_all rfl) (by with_unfolding_all rfl) (by with_unfolding_all rfl) (by with_unfolding_all rfl) (by with_unfolding_all rfl) (by decide) (WEs.cons ?_) (by intro _; rfl)
  refine WE.bin ?_
  refine WE.compM (α := Row) (B := true) ⟨rfl, by decide, by decide, by decide, by decide, have_of (by with_unfolding_all rfl)⟩ (WI.list ?_)
  repeat walk_at "s"
  refine ⟨rs, encR b, (fun r => decide (r.1 ≠ p)), encR b, rfl, by omega, fun r hr r' hr' e => encR_inj B (sr r hr) (sr r' hr') e, ?_, ?_, ?_⟩
  · intro r hr
    refine WTI.one ?_
    repeat walk_at "s"
    refine opK.mk (OpD.ne (shaped_encP _ _) (shaped_encP _ _)) ?_
    rw [eqv_encP B (sr r hr) hp]
    refine boolK.mk ⟨?_, rfl⟩
    by_cases c : r.1 = p <;> simp [c]
  · intro r hr _
    repeat walk_at "s"
    exact ⟨rfl, rfl⟩
  repeat walk_at "s"
  have hf : (rs.filter fun r => decide (r.1 ≠ p)).length ≤ 7 := Nat.le_trans (List.length_filter_le _ _) hl
  refine opK.mk (OpD.cat (by rw [List.length_map]; exact Nat.le_trans (Nat.add_le_add_right hf 1) (by decide))) ?_
  refine WEs.nil ⟨b, rs.filter fun r => decide (r.1 ≠ p), (p, wv), B, by simp [encL], hf, ?_, ?_, ?_, ?_, rfl, rfl⟩
  · intro r hr
    rcases List.mem_append.mp hr with hr | hr
    · exact sr r (List.mem_filter.mp hr).1
    · simp at hr; subst hr; exact hp
  · exact List.Pairwise.filter _ hs
  · intro r hr
    simpa using (List.mem_filter.mp hr).2
  · intro r hr
    exact first_of_row_c Y
end
noncomputable def allBut (h : Heap) (L : Addr) : List (Addr × Obj) := (List.range h.objs.size).filterMap fun a => if a = L then none else (h.get? a).map fun o => (a, o)
theorem mem_allBut {h : Heap} {L : Addr} {p : Addr × Obj} : p ∈ allBut h L ↔ p.1 ≠ L ∧ h.get? p.1 = some p.2 := by
  obtain ⟨a, o⟩ := p
  unfold allBut
  rw [List.mem_filterMap]
  constructor
  · rintro ⟨b, hb, e⟩
    by_cases c : b = L
    · simp [c] at e
    · rw [if_neg c] at e
      cases q : h.get? b with
      | none => rw [q] at e; cases e
      | some o' => rw [q] at e; simp at e; obtain ⟨rfl, rfl⟩ := e; exact ⟨c, q⟩
  · rintro ⟨c, e⟩
    refine ⟨a, List.mem_range.mpr (Heap.lt_size e), ?_⟩
    simp only at c e
    rw [if_neg c, e]; rfl
noncomputable abbrev noHeap : Heap := { objs := #[] }
theorem noHeap_get (a : Addr) : noHeap.get? a = none := by simp [Heap.get?]
theorem news_allBut (h : Heap) (L : Addr) : News noHeap L h (allBut h L) := fun p hp => ⟨(mem_allBut.mp hp).2, (mem_allBut.mp hp).1, noHeap_get _⟩
theorem fr_any {h : Heap} {L : Addr} {m : Str → Option Value} (n : h.Ns L m) : Fr noHeap L h m := ⟨n, fun b o e => (by rw [noHeap_get] at e; cases e), Nat.zero_le _⟩

section
variable {prog : Program} {w : World} {hb : Heap} {K : Frag} {μ : Mut} {k : Nat} {X : Addr → Prop} {h h' : Heap} {s : Shared} {sc : Scope} {ρ : Str → Option V} {P : V → Mut → Prop} {N : (Str → Option V) → Mut → Prop} {R : V → Mut → Prop} {pos : Pos}
theorem setAttr_one {A : Around} {E : Value → Shared → Prop} {Q : Unit → Shared → Prop} {L x dx C : Addr} {m : Str → Option Value} {sl : Array (Option Value)} {es : List DictEntry} {n : Nat} {name : Str} {v : Value} (X0 : K.In s.heap) (nL : s.heap.Ns L m) (dL : dx ≠ L)
    (hx : s.heap.get? x = some ⟨.ref C, some dx, .plain, sl⟩) (hd : s.heap.get? dx = some (dictOf es n))
    (hs : findIn K (.ref C) "__setattr__" = some (some (.builtin "object.__setattr__"))) (hp : plainOver K C = true) (ht : takerIn K C name = some none) (hh : hasDictIn K C = true) (hl : (getL name es).isSome = true)
    (hz : (PySem.W.putL name (PyData.keyHash w.params name) (.str name (s.toks + 1)) v es).length ≤ 1000)
    (hQ : ∀ h', h'.Ns L m → (∀ b o, b ≠ L → b ≠ dx → s.heap.get? b = some o → h'.get? b = some o) → h'.get? dx = some (dictOf (PySem.W.putL name (PyData.keyHash w.params name) (.str name (s.toks + 1)) v es) (putN name es n)) → Q () { s with heap := h', toks := s.toks + 2 }) :
    wpAny (model prog w) A (setAttr (.ref x) name v) Q E s := by
  have I : InstAt s.heap x ⟨.ref C, some dx, .plain, sl⟩ C (some (dictOf es n)) := ⟨hx, rfl, rfl, hd⟩
  have NN : News noHeap L s.heap ([] ++ (dx, dictOf es n) :: (allBut s.heap L).filter fun p => decide (p.1 ≠ dx)) := by
    intro p hp
    rcases List.mem_cons.mp hp with rfl | hp
    · exact ⟨hd, dL, noHeap_get _⟩
    · exact news_allBut _ _ p (List.mem_filter.mp hp).1
  refine set_plain X0 I hs (osa_dict (s := { s with toks := s.toks + 1 }) (pre := []) (fr_any nL) NN X0 I rfl hp ht hh hl (fun _ h => nomatch h) (fun p hp => by simpa using (List.mem_filter.mp hp).2) (putName_dict ..) rfl hz fun h' F' N' => ?_)
  refine hQ h' F'.ns (fun b o n1 n2 e => ?_) (N' (dx, _) (.head _)).1
  exact (N' (b, o) (.tail _ (List.mem_filter.mpr ⟨mem_allBut.mpr ⟨n1, e⟩, by simpa using n2⟩))).1
theorem RD.handed {v : Value} {d : PyData} (r : RD X h v d) : handedIn v = true := by cases r <;> rfl
theorem getAttr_own {A : Around} {E Q : Value → Shared → Prop} {x dx C : Addr} {sl : Array (Option Value)} {es : List DictEntry} {n : Nat} {name : Str} {v : Value} {expr : Bool} (X0 : K.In s.heap) (hx : s.heap.get? x = some ⟨.ref C, some dx, .plain, sl⟩) (hd : s.heap.get? dx = some (dictOf es n))
    (hg : plainGet K C name = true) (hh : hasDictIn K C = true) (ha : findIn K (.ref C) name = some none) (hl : getL name es = some (some v)) (hv : handedIn v = true) (hQ : Q v { s with toks := s.toks + 1 }) :
    wpAny (model prog w) A (getAttr (.ref x) name expr) Q E s :=
  get_value X0 (ox := ⟨.ref C, some dx, .plain, sl⟩) (od := some (dictOf es n)) ⟨hx, rfl, rfl, hd⟩ (plainGet_of hg).1 (findObj_own hh ha rfl hl) hv hQ

theorem WE.attrTree {x : Str} {np : Pos} {i d : Addr} {b : Int} {t : PyData} (Y : Wd K hb) (hx : ρ x = some .tab) (hμ : μ.tab = some (i, d, b, t)) (hP : P (.d t) μ)
    (hg : plainGet K fibC "tree" = true) (hh : hasDictIn K fibC = true) (ha : findIn K (.ref fibC) "tree" = some Option.none)
    (he : ∀ env, eval (.Attribute (.Name x np) "tree" pos) env = (do
      let o ← eval (.Name x np) env
      standAt pos.atName
      let r ← holding [o] (getAttr o "tree" true)
      letTemporaryGo (.Name x np) o r
      pure r)) (hd : (x == ("__debug__" : Str)) = false := by decide) (hc : (x == ("__classdict__" : Str)) = false := by decide) :
    WE prog w hb k sc (.Attribute (.Name x np) "tree" pos) ρ μ P := fun A env X s Q E h1 h2 C F hQ => by
  refine Attribute_Name_ (wpAny_Name (F.load hx hc fun v r => ?_) hd) (he env)
  obtain ⟨a, q, ea, rfl⟩ := r
  rw [hμ] at ea
  have e0 := congrArg Prod.fst (Option.some.inj ea)
  simp only at e0
  subst e0
  have ht := C.mu.tab
  rw [hμ] at ht
  obtain ⟨hi, hxd, ⟨sl, ei⟩, q1, t1, tb, q2, t2, v, n, ed, rd⟩ := ht
  refine getAttr_own (Y.kin.keeps C.base) ei ed hg hh ha (v := v) (by with_unfolding_all rfl) rd.handed ?_
  exact hQ v s.heap (s.toks + 1) (.d t) μ hP (.refl C.mu) rd
theorem WE.attrBits {x : Str} {np : Pos} {i d : Addr} {b : Int} {t : PyData} (Y : Wd K hb) (hx : ρ x = some .tab) (hμ : μ.tab = some (i, d, b, t)) (hP : P (.d (.int b)) μ)
    (hg : plainGet K fibC "bits" = true) (hh : hasDictIn K fibC = true) (ha : findIn K (.ref fibC) "bits" = some Option.none)
    (he : ∀ env, eval (.Attribute (.Name x np) "bits" pos) env = (do
      let o ← eval (.Name x np) env
      standAt pos.atName
      let r ← holding [o] (getAttr o "bits" true)
      letTemporaryGo (.Name x np) o r
      pure r)) (hd : (x == ("__debug__" : Str)) = false := by decide) (hc : (x == ("__classdict__" : Str)) = false := by decide) :
    WE prog w hb k sc (.Attribute (.Name x np) "bits" pos) ρ μ P := fun A env X s Q E h1 h2 C F hQ => by
  refine Attribute_Name_ (wpAny_Name (F.load hx hc fun v r => ?_) hd) (he env)
  obtain ⟨a, q, ea, rfl⟩ := r
  rw [hμ] at ea
  have e0 := congrArg Prod.fst (Option.some.inj ea)
  simp only at e0
  subst e0
  have ht := C.mu.tab
  rw [hμ] at ht
  obtain ⟨hi, hxd, ⟨sl, ei⟩, q1, t1, tb, q2, t2, v, n, ed, rd⟩ := ht
  refine getAttr_own (Y.kin.keeps C.base) ei ed hg hh ha (v := .int b tb) (by with_unfolding_all rfl) rfl ?_
  exact hQ _ s.heap (s.toks + 1) (.d (.int b)) μ hP (.refl C.mu) (.int _ _)
theorem getMethod_tab {A : Around} {E : Value → Shared → Prop} {Q : Value × List Value → Shared → Prop} {x : Addr} {name : Str} {f : Addr} {pl : Sem Bool} {q : Addr × Int × PyData} (Y : Wd K hb) (C : Cs hb X μ s.heap) (hμ : μ.tab = some (x, q)) (hg : plainGet K fibC name = true)
    (hf : findIn K (.ref fibC) name = some (some (.ref f))) (ht : isFn K (.ref f) = true) (hl : ∀ h1 t1 v1 h2 t2 v2, getL name [⟨h1, .str "bits" t1, v1⟩, ⟨h2, .str "tree" t2, v2⟩] = some Option.none) (h : Q (.ref f, [.ref x]) s) :
    wpAny (model prog w) A (getMethod (.ref x) name pl) Q E s := by
  have ht' := C.mu.tab
  rw [hμ] at ht'
  obtain ⟨d, b, t⟩ := q
  obtain ⟨hi, hxd, ⟨sl, ei⟩, q1, t1, tb, q2, t2, v, n, ed, rd⟩ := ht'
  exact method_fn (Y.kin.keeps C.base) (ox := ⟨.ref fibC, some d, .plain, sl⟩) (od := some (dictOf _ n)) ⟨ei, rfl, rfl, ed⟩ (plainGet_of hg).1 (plainGet_of hg).2 hf (beq_iff_eq.mp ht) (by show (lookIn name (dictOf _ n)).map _ = _; rw [lookIn_dict, hl]; rfl) h
theorem WE.meth {x name : Str} {np apos : Pos} {f : Addr} {e : Expr} {es : List Expr} {q : Addr × Addr × Int × PyData} {pl : Env → Sem Bool} (Y : Wd K hb) (hx : ρ x = some .tab) (hμ : μ.tab = some q) (hg : plainGet K fibC name = true)
    (hf : findIn K (.ref fibC) name = some (some (.ref f))) (ht : isFn K (.ref f) = true) (hk : keepIn K (.ref f) = true) (hl : ∀ h1 t1 v1 h2 t2 v2, getL name [⟨h1, .str "bits" t1, v1⟩, ⟨h2, .str "tree" t2, v2⟩] = some Option.none)
    (H : WEs prog w hb k sc (e :: es) ρ μ (pushK (callK prog w hb k (.ref f) P) .tab))
    (he : ∀ env, eval (.Call (.Attribute (.Name x np) name apos) (e :: es) [] pos) env = (do
      let ov ← eval (.Name x np) env
      standAt apos.atName
      let (f, first) ← holding [ov] (getMethod ov name (pl env))
      callWith pos f first (backTo pos (starEach (e :: es) env)) []))
    (he1 : ∀ env, starEach (e :: es) env = (false, eval e env) :: starEach es env) (he2 : ∀ env pos, (backTo pos (starEach es env)).any (·.1) = false)
    (hd : (x == ("__debug__" : Str)) = false := by decide) (hc : (x == ("__classdict__" : Str)) = false := by decide) :
    WE prog w hb k sc (.Call (.Attribute (.Name x np) name apos) (e :: es) [] pos) ρ μ P := fun A env X s Q E h1 h2 C F hQ => by
  refine MethodCall_ (wpAny_Name (F.load hx hc fun v r => ?_) hd) (he env)
  obtain ⟨a, q', ea, rfl⟩ := r
  refine getMethod_tab Y C ea hg hf ht hl ?_
  refine callWith_K Y.kin hk (H A env X s pos _ E h1 h2 C F ?_) (he1 env) (he2 env pos)
  intro vs g tk Us μ1 p1 n rs
  refine ⟨Y.kin.keeps (C.nxt n).base, ?_⟩
  have rt : RV X g μ1 (.ref a) .tab := RV.nxt (⟨a, q', ea, rfl⟩ : RV X s.heap μ (.ref a) .tab) C.mu n
  exact p1 A X _ (.ref a :: vs) Q E h2 (C.nxt n) (.cons rt rs) fun v g2 tk2 U μ2 p2 n2 r => hQ v g2 tk2 U μ2 p2 (n.trans n2) r
theorem WE.meth0 {x name : Str} {np apos : Pos} {f : Addr} {q : Addr × Addr × Int × PyData} {pl : Env → Sem Bool} (Y : Wd K hb) (hx : ρ x = some .tab) (hμ : μ.tab = some q) (hg : plainGet K fibC name = true)
    (hf : findIn K (.ref fibC) name = some (some (.ref f))) (ht : isFn K (.ref f) = true) (hk : keepIn K (.ref f) = true) (hl : ∀ h1 t1 v1 h2 t2 v2, getL name [⟨h1, .str "bits" t1, v1⟩, ⟨h2, .str "tree" t2, v2⟩] = some Option.none)
    (H : WC prog w hb k (.ref f) [.tab] μ P)
    (he : ∀ env, eval (.Call (.Attribute (.Name x np) name apos) [] [] pos) env = (do
      let ov ← eval (.Name x np) env
      standAt apos.atName
      let (f, first) ← holding [ov] (getMethod ov name (pl env))
      callWith pos f first (backTo pos (starEach [] env)) []))
    (hd : (x == ("__debug__" : Str)) = false := by decide) (hc : (x == ("__classdict__" : Str)) = false := by decide) :
    WE prog w hb k sc (.Call (.Attribute (.Name x np) name apos) [] [] pos) ρ μ P := fun A env X s Q E h1 h2 C F hQ => by
  refine MethodCall_ (wpAny_Name (F.load hx hc fun v r => ?_) hd) (he env)
  obtain ⟨a, q', ea, rfl⟩ := r
  refine getMethod_tab Y C ea hg hf ht hl ?_
  refine callWith_K0 (Y.kin.keeps C.base) hk ?_
  exact H A X s [.ref a] Q E h2 C (.cons ⟨a, q', ea, rfl⟩ .nil) hQ
theorem WX.setTree {x : Str} {np tp : Pos} {e : Expr} (Y : Wd K hb) (hx : ρ x = some .tab) (H : WE prog w hb k sc e ρ μ fun U μ1 => ∃ i d b t t', μ1.tab = some (i, d, b, t) ∧ U = .d t' ∧ N ρ { μ1 with tab := some (i, d, b, t') })
    (hs : findIn K (.ref fibC) "__setattr__" = some (some (.builtin "object.__setattr__"))) (hp : plainOver K fibC = true) (ht : takerIn K fibC "tree" = some Option.none) (hh : hasDictIn K fibC = true)
    (hsw : ∀ env, swapsWith e (some (.Attribute (.Name x np) "tree" tp)) pos.line env = pure false)
    (hd : (x == ("__debug__" : Str)) = false := by decide) (hc : (x == ("__classdict__" : Str)) = false := by decide) :
    WX prog w hb k sc (.Assign [.Attribute (.Name x np) "tree" tp] e pos) ρ μ N R := fun A env X s Q E h1 h2 C F hN hR => by
  refine plainObj_wpAny_Assign_Attribute (H A env X s _ E h1 h2 C F ?_) (hsw env)
  rintro v g tk U μ1 ⟨i, d, b, t, t', hμ, rfl, hP⟩ n r
  have Cg := C.nxt n
  have Fg := F.nxt C.mu n
  refine wpAny_Name (Fm.load (s := { s with heap := g, toks := tk }) Fg hx hc fun u ru => ?_) hd
  obtain ⟨a, q, ea, rfl⟩ := ru
  rw [hμ] at ea
  have e0 := congrArg Prod.fst (Option.some.inj ea)
  simp only at e0
  subst e0
  have ht' := Cg.mu.tab
  rw [hμ] at ht'
  obtain ⟨hi, hxd, ⟨sl, ei⟩, q1, t1, tb, q2, t2, v0, nn, ed, rd⟩ := ht'
  obtain ⟨m, hn, kf⟩ := Fg.ns
  have dL : d ≠ env.locals := fun q => Fg.loc.2 (.inr ⟨i, (b, t), by rw [hμ, q]⟩)
  refine setAttr_one (s := { s with heap := g, toks := tk }) (Y.kin.keeps Cg.base) hn dL ei ed hs hp ht hh (by with_unfolding_all rfl) (by with_unfolding_all exact Nat.le_of_ble_eq_true rfl) fun h' hn' kk e' => ?_
  have eL : ∃ o, h'.get? env.locals = some o := let ⟨o, _, _, e, _⟩ := hn'; ⟨o, e⟩
  have E1 : Ext (fun a => μ1.M a ∨ a = env.locals) g h' := ⟨fun b' o nb e => kk b' o (fun q => nb (.inr q)) (fun q => nb (.inl (.inr ⟨i, (b, t), by rw [hμ, q]⟩))) e, fun b' o e => by
    by_cases q : b' = d
    · subst q; exact ⟨_, e'⟩
    · by_cases q2 : b' = env.locals
      · subst q2; exact eL
      · exact ⟨o, kk b' o q2 q e⟩⟩
  have kn : ∀ a o, ¬ X a → g.get? a = some o → ¬ X a ∧ h'.get? a = some o := fun a o nx e => ⟨nx, kk a o (fun q => nx (q ▸ Fg.loc.1)) (fun q => nx (q ▸ hxd)) e⟩
  have up : ∀ v x, RD X g v x → RD X h' v x := fun v x r => r.mono kn
  have mu2 : HasMut X h' { μ1 with tab := some (i, d, b, t') } := by
    refine ⟨Cg.mu.box.map (fun a o _ => kn a o) (fun a r o nd q e => ⟨Cg.mu.inX (.inl ⟨r, q⟩), kk a o (fun z => Fg.loc.2 (z ▸ .inl ⟨r, q⟩)) (fun z => ?_) e⟩), hi, hxd, ⟨sl, (kn _ _ hi ei).2⟩, q1, t1, tb, q2, t2, v, nn, ?_, up _ _ r⟩
    · rw [z, ed] at e; cases e; exact nd _ _ rfl
    · rw [e']
      with_unfolding_all rfl
  have sm : μ1.Same { μ1 with tab := some (i, d, b, t') } := by refine ⟨rfl, ?_⟩; rw [hμ]; rfl
  have n2 : NxtS X env μ1 g { μ1 with tab := some (i, d, b, t') } h' := ⟨E1.sub fun _ _ _ m => m.imp id .inl, mu2, sm⟩
  refine hN h' (tk + 2) ρ _ hP (n.s.trans n2) ⟨Fg.kind, Fg.glob, Fg.blt, ⟨Fg.loc.1, fun m => Fg.loc.2 ((sm.M _).mp m)⟩, fun x c e => ?_, Fg.cinj, m, hn', fun x U hx => ?_⟩
  · obtain ⟨a, b', cc, o, v, d', e2⟩ := Fg.cells x c e
    exact ⟨a, fun m => b' ((sm.M _).mp m), cc, o, v, kk c o cc (fun q => b' (.inr ⟨i, (b, t), by rw [hμ, q]⟩)) d', e2⟩
  · have upV : ∀ v U, RV X g μ1 v U → RV X h' { μ1 with tab := some (i, d, b, t') } v U := fun v U r => by
      cases U with
      | d y => exact up _ _ r
      | box => exact r
      | tab => obtain ⟨a, q, ea, rfl⟩ := r; rw [hμ] at ea; cases ea; exact ⟨_, _, rfl, rfl⟩
    rcases kf x U hx with ⟨k1, v, k2, k3⟩ | ⟨k1, c, o, v, k2, k3, k4, k5⟩
    · exact .inl ⟨k1, v, k2, upV _ _ k3⟩
    · exact .inr ⟨k1, c, o, v, k2, kk c o (Fg.cells x c k2).2.2.1 (fun q => (Fg.cells x c k2).2.1 (.inr ⟨i, (b, t), by rw [hμ, q]⟩)) k3, k4, upV _ _ k5⟩
end
local macro_rules | `(tactic| walk_at "e") => `(tactic| first
  | refine WE.attrTree (by assumption) (by walk_at "p") (by first | assumption | rfl) ?_ (by with_unfolding_all rfl) (by with_unfolding_all rfl) (by with_unfolding_all rfl) (by intro env; with_unfolding_all rfl)
  | refine WE.attrBits (by assumption) (by walk_at "p") (by first | assumption | rfl) ?_ (by with_unfolding_all rfl) (by with_unfolding_all rfl) (by with_unfolding_all rfl) (by intro env; with_unfolding_all rfl))
section
variable {prog : Program} {w : World} {hb : Heap} {μ : Mut} {k : Nat} {X : Addr → Prop} {s : Shared}
theorem make_tab {A : Around} {Q E : Value → Shared → Prop} {b : Int} {t : Tok} (Y : Wd (KK w) hb) (C : Cs hb X μ s.heap) (R : Room A 3)
    (hQ : ∀ x dx h' tk, s.heap.get? x = none → s.heap.get? dx = none → x ≠ dx → (∀ b o, s.heap.get? b = some o → h'.get? b = some o) → h'.get? x = some ⟨.ref fibC, some dx, .plain, #[]⟩ →
      (∃ q1 t1 tb q2 t2 n, h'.get? dx = some (dictOf [⟨q1, .str "bits" t1, .int b tb⟩, ⟨q2, .str "tree" t2, .none⟩] n)) → Q (.ref x) { s with heap := h', toks := tk }) :
    wpAny (model prog w) A (call (.ref 212) [.int b t]) Q E s := by
  obtain ⟨p, loose, mg, mb, T⟩ := Y.top
  have KX := Y.kin.keeps C.base
  obtain ⟨hh, g, d, tk, os⟩ := s
  refine wpAny_call (make_core (makes_of KX (by with_unfolding_all rfl)) (looks_findIn KX (show findIn (KK w) (.ref 212) "__init__" = some (some (.ref 174)) by with_unfolding_all rfl)) (fun self => bind_fn KX self (show typeIn (KK w) (.ref 174) = some (.type "function") by with_unfolding_all rfl)) (.inl rfl) ?_)
  have hx0 : ((hh.push emptyDict).push (instObj 212 hh.objs.size)).get? (hh.objs.size + 1) = some (instObj 212 hh.objs.size) := by
    have := Heap.get?_push_size (hh.push emptyDict) (o := instObj 212 hh.objs.size) rfl
    rwa [Heap.size_push] at this
  have hd0 : ((hh.push emptyDict).push (instObj 212 hh.objs.size)).get? hh.objs.size = some emptyDict := Heap.get?_push_of_some _ (Heap.get?_push_size _ rfl)
  have k0 : ∀ b o, hh.get? b = some o → ((hh.push emptyDict).push (instObj 212 hh.objs.size)).get? b = some o := fun b o e => Heap.get?_push_of_some _ (Heap.get?_push_of_some _ e)
  generalize (hh.push emptyDict).push (instObj 212 hh.objs.size) = g0 at hx0 hd0 k0
  have B0 : ∀ b o, hb.get? b = some o → g0.get? b = some o := fun b o e => k0 b o (C.base b o e)
  have K0 := Y.kin.keeps B0
  refine codeAny_call_cells (binds := [(("self" : Str), Value.ref (hh.objs.size + 1)), (("bits" : Str), .int b t)]) (s := { heap := g0, gens := g, drawn := d, toks := tk, os := os }) ?_ (K0 174 _ (by with_unfolding_all rfl)) rfl (T.nolimit.keeps B0) (codeRec_of K0 (by with_unfolding_all rfl)) rfl rfl rfl ?_ ?_ rfl rfl rfl
  · have := R.depth
    show A.depth + _ < 1000
    have e : (Code.builtin "type.__call__" ⟨.ref 212 :: [Value.int b t], []⟩).weight ≤ 2 := by exact Nat.le_of_ble_eq_true rfl
    omega
  · intro x hx
    simp only [List.mem_cons, List.not_mem_nil, or_false] at hx
    rcases hx with rfl | rfl <;> exact .inl (by with_unfolding_all rfl)
  intro s₁ ic
  obtain ⟨⟨⟨h₁, tk₁, rfl⟩, ns, kp, frh⟩, cell, apart, above⟩ := ic
  simp only at ns kp
  clear cell apart above frh
  have B1 : ∀ b o, hb.get? b = some o → h₁.get? b = some o := fun b o e => kp b o (B0 b o e)
  have n1 : ∀ b, hh.get? b = none → hb.get? b = none := fun b n => by
    cases q : hb.get? b with
    | none => rfl
    | some o => rw [C.base b o q] at n; cases n
  have hdn : hh.get? hh.objs.size = none := newGet hh
  have hxn : hh.get? (hh.objs.size + 1) = none := Heap.get?_none_of_le (Nat.le_succ _)
  refine wpAny_execs_cons (plainObj_wpAny_Assign_Attribute (wpAny_Name (wpAny_loadName_local rfl rfl ns (by with_unfolding_all rfl) ?_) (by decide)) (by with_unfolding_all rfl))
  refine wpAny_Name (wpAny_loadName_local rfl rfl ns (by with_unfolding_all rfl) ?_) (by decide)
  have nL : hh.objs.size ≠ g0.objs.size := Nat.ne_of_lt (Heap.lt_size hd0)
  have xL : hh.objs.size + 1 ≠ g0.objs.size := Nat.ne_of_lt (Heap.lt_size hx0)
  have ol : ∀ b o, hh.get? b = some o → b ≠ g0.objs.size := fun b o e => Nat.ne_of_lt (Heap.lt_size (k0 b o e))
  refine setAttr_one (K := KK w) (C := 212) (sl := #[]) (es := []) (n := 0) (Y.kin.keeps B1) ns nL (kp _ _ hx0) (kp _ _ hd0) (by with_unfolding_all rfl) (by with_unfolding_all rfl) (by with_unfolding_all rfl) (by with_unfolding_all rfl) (by with_unfolding_all rfl) (by with_unfolding_all exact Nat.le_of_ble_eq_true rfl) fun h2 ns2 kk2 e2 => ?_
  have B2 : ∀ b o, hb.get? b = some o → h2.get? b = some o := fun b o e => kk2 b o (ol b o (C.base b o e)) (fun q => by rw [q, n1 _ hdn] at e; cases e) (B1 b o e)
  have hx2 : h2.get? (hh.objs.size + 1) = some (instObj 212 hh.objs.size) := kk2 _ _ xL (Nat.succ_ne_self _) (kp _ _ hx0)
  refine wpAny_execs_cons (plainObj_wpAny_Assign_Attribute (wpAny_Constant_none ?_) (by with_unfolding_all rfl))
  refine wpAny_Name (wpAny_loadName_local rfl rfl ns2 (by with_unfolding_all rfl) ?_) (by decide)
  refine setAttr_one (K := KK w) (C := 212) (sl := #[]) (s := { heap := h2, gens := g, drawn := d, toks := tk₁ + 2, os := os }) (Y.kin.keeps B2) ns2 nL hx2 e2 (by with_unfolding_all rfl) (by with_unfolding_all rfl) (by with_unfolding_all rfl) (by with_unfolding_all rfl) (by with_unfolding_all rfl) (by with_unfolding_all exact Nat.le_of_ble_eq_true rfl) fun h3 _ kk3 e3 => ?_
  refine wpAny_execs_nil ?_
  refine ⟨rfl, ?_⟩
  refine hQ _ hh.objs.size h3 _ hxn hdn (Nat.succ_ne_self _) (fun b o e => ?_) (kk3 _ _ xL (Nat.succ_ne_self _) hx2) ⟨_, _, t, _, _, _, e3.trans (by with_unfolding_all rfl)⟩
  have nb : b ≠ hh.objs.size := fun q => by rw [q, hdn] at e; cases e
  exact kk3 b o (ol b o e) nb (kk2 b o (ol b o e) nb (kp b o (k0 b o e)))
end
/-! the plain law: no program in sight -/
theorem lcp_app : ∀ (g x y : Pf), lcp (g ++ x) (g ++ y) = g ++ lcp x y
  | [], _, _ => rfl
  | a :: g, x, y => by simp [lcp, lcp_app g x y]
theorem lcp_self_l (h s : Pf) : lcp h (h ++ s) = h := by
  have := lcp_app h [] s
  simpa [lcp] using this
theorem lcp_self_r (p s : Pf) : lcp (p ++ s) p = p := by
  have := lcp_app p s []
  have e : lcp s [] = [] := by cases s <;> rfl
  simpa [e] using this
theorem lcp_fork (g : Pf) (c : Bool) (x y : Pf) : lcp (g ++ c :: x) (g ++ (!c) :: y) = g := by
  rw [lcp_app]
  cases c <;> simp [lcp]
theorem split3 : ∀ h p : Pf, p = h ∨ (∃ c s, p = h ++ c :: s) ∨ (∃ c s, h = p ++ c :: s) ∨ ∃ g c x y, h = g ++ c :: x ∧ p = g ++ (!c) :: y
  | [], [] => .inl rfl
  | [], c :: s => .inr (.inl ⟨c, s, rfl⟩)
  | c :: s, [] => .inr (.inr (.inl ⟨c, s, rfl⟩))
  | a :: h, b :: p => by
    by_cases e : a = b
    · subst e
      rcases split3 h p with rfl | ⟨c, s, rfl⟩ | ⟨c, s, rfl⟩ | ⟨g, c, x, y, rfl, rfl⟩
      · exact .inl rfl
      · exact .inr (.inl ⟨c, s, rfl⟩)
      · exact .inr (.inr (.inl ⟨c, s, rfl⟩))
      · exact .inr (.inr (.inr ⟨a :: g, c, x, y, rfl, rfl⟩))
    · refine .inr (.inr (.inr ⟨[], a, h, p, rfl, ?_⟩))
      cases a <;> cases b <;> simp_all
theorem getD_app (g : Pf) (c : Bool) (x : Pf) : (g ++ c :: x).getD g.length false = c := by
  simp [List.getD]
theorem len_app (g : Pf) (c : Bool) (x : Pf) : (g ++ c :: x).length = g.length + 1 + x.length := by
  simp; omega
section
variable {h p g s x y : Pf} {c : Bool} {wh : Option Int} {l r t : Tr} {w : Int}
theorem put_eq : put (.node h wh l r) h w = .node h (some w) l r := by
  have e : lcp h h = h := by simpa using lcp_self_l h []
  rw [put]; simp [e]
theorem put_dn : put (.node h wh l r) (h ++ c :: s) w = if c then .node h wh l (put r (h ++ c :: s) w) else .node h wh (put l (h ++ c :: s) w) r := by
  rw [put, lcp_self_l, getD_app, len_app]
  have : ¬ (h.length = h.length + 1 + s.length) := by omega
  simp only [this, and_false, if_false, if_true]
theorem put_up : put (.node (p ++ c :: s) wh l r) p w = if c then .node p (some w) .nil (.node (p ++ c :: s) wh l r) else .node p (some w) (.node (p ++ c :: s) wh l r) .nil := by
  rw [put, lcp_self_r, getD_app, len_app]
  have : ¬ (p.length = p.length + 1 + s.length) := by omega
  simp only [this, false_and, if_false, if_true]
theorem put_fk : put (.node (g ++ c :: x) wh l r) (g ++ (!c) :: y) w = if c then .node g none (.node (g ++ (!c) :: y) (some w) .nil .nil) (.node (g ++ c :: x) wh l r) else .node g none (.node (g ++ c :: x) wh l r) (.node (g ++ (!c) :: y) (some w) .nil .nil) := by
  rw [put, lcp_fork, len_app, len_app]
  have h1 : ¬ (g.length = g.length + 1 + x.length) := by omega
  have h2 : ¬ (g.length = g.length + 1 + y.length) := by omega
  simp only [h1, h2, false_and, if_false]
  unfold fork
  rw [getD_app, getD_app]
  cases c <;> simp
theorem drop_eq : drop (.node h wh l r) h = shrunk (.node h none l r) := by
  have e : lcp h h = h := by simpa using lcp_self_l h []
  rw [drop]; simp [e]
theorem drop_dn : drop (.node h wh l r) (h ++ c :: s) = if c then shrunk (.node h wh l (drop r (h ++ c :: s))) else shrunk (.node h wh (drop l (h ++ c :: s)) r) := by
  rw [drop, lcp_self_l, getD_app, len_app]
  have : ¬ (h.length + 1 + s.length = h.length) := by omega
  simp only [this, Nat.lt_irrefl, if_false]
theorem drop_up : drop (.node (p ++ c :: s) wh l r) p = .node (p ++ c :: s) wh l r := by
  rw [drop, lcp_self_r, len_app]
  have : p.length < p.length + 1 + s.length := by omega
  simp only [this, if_true]
theorem drop_fk : drop (.node (g ++ c :: x) wh l r) (g ++ (!c) :: y) = .node (g ++ c :: x) wh l r := by
  rw [drop, lcp_fork, len_app]
  have : g.length < g.length + 1 + x.length := by omega
  simp only [this, if_true]
theorem below_up : below (.node (p ++ s) wh l r) p = all (.node (p ++ s) wh l r) := by
  rw [below, lcp_self_r]; simp
theorem below_dn : below (.node h wh l r) (h ++ c :: s) = if c then below r (h ++ c :: s) else below l (h ++ c :: s) := by
  rw [below, lcp_self_l, getD_app, len_app]
  have : ¬ (h.length = h.length + 1 + s.length) := by omega
  simp only [this, if_false, if_true]
theorem below_fk : below (.node (g ++ c :: x) wh l r) (g ++ (!c) :: y) = [] := by
  rw [below, lcp_fork, len_app, len_app]
  have h1 : ¬ (g.length = g.length + 1 + x.length) := by omega
  have h2 : ¬ (g.length = g.length + 1 + y.length) := by omega
  simp only [h1, h2, if_false]
theorem exact_eq : exact (.node h wh l r) h = wh := by
  rw [exact]; simp
theorem exact_dn : exact (.node h wh l r) (h ++ c :: s) = if c then exact r (h ++ c :: s) else exact l (h ++ c :: s) := by
  rw [exact, lcp_self_l, getD_app, len_app]
  have : h.length < h.length + 1 + s.length := by omega
  simp only [this, true_and, if_true]
theorem exact_up : exact (.node (p ++ c :: s) wh l r) p = none := by
  rw [exact, lcp_self_r, len_app]
  have h1 : ¬ (p.length + 1 + s.length < p.length) := by omega
  have h2 : ¬ (p ++ c :: s = p) := fun e => by have := congrArg List.length e; rw [len_app] at this; omega
  simp only [h1, h2, false_and, if_false]
theorem exact_fk : exact (.node (g ++ c :: x) wh l r) (g ++ (!c) :: y) = none := by
  rw [exact, lcp_fork, len_app, len_app]
  have h1 : ¬ (g.length = g.length + 1 + x.length) := by omega
  have h2 : ¬ (g ++ c :: x = g ++ (!c) :: y) := fun e => by
    have := List.append_cancel_left e
    cases c <;> simp at this
  simp only [h1, h2, and_false, if_false]
end

/-- the root's prefix extends x -/
noncomputable def Pre (x : Pf) : Tr → Prop
  | .nil => True
  | .node h _ _ _ => x <+: h
noncomputable def WF (b : Nat) : Tr → Prop
  | .nil => True
  | .node h w l r => h.length ≤ b ∧ Pre (h ++ [false]) l ∧ Pre (h ++ [true]) r ∧ WF b l ∧ WF b r ∧ (w = none → l ≠ .nil ∧ r ≠ .nil)
section
variable {b : Nat} {h p g s x y : Pf} {c : Bool} {wh : Option Int} {l r t : Tr} {w : Int}
theorem WF.short : ∀ {t : Tr}, WF b t → t.short b
  | .nil, _ => trivial
  | .node _ _ _ _, h => ⟨h.1, WF.short h.2.2.2.1, WF.short h.2.2.2.2.1⟩
theorem pre_len (h1 : Pre (h ++ [c]) t) (hw : WF b t) (hn : t ≠ .nil) : h.length < b := by
  cases t with
  | nil => exact absurd rfl hn
  | node g _ _ _ =>
    have := List.IsPrefix.length_le h1
    have h2 := hw.1
    simp at this
    omega
theorem WF.height : ∀ {t : Tr} {x : Pf}, WF b t → Pre x t → x.length ≤ b → t.height + x.length ≤ b + 1
  | .nil, x, _, _, hx => by simp [Tr.height]; omega
  | .node h w l r, x, hw, hp, hx => by
    have hl := List.IsPrefix.length_le hp
    obtain ⟨h1, h2, h3, h4, h5, _⟩ := hw
    simp only [Tr.height]
    have a1 : l.height + h.length ≤ b := by
      by_cases e : l = .nil
      · subst e; simp [Tr.height]; omega
      · have := pre_len h2 h4 e
        have := WF.height h4 h2 (by simp; omega)
        simp at this; omega
    have a2 : r.height + h.length ≤ b := by
      by_cases e : r = .nil
      · subst e; simp [Tr.height]; omega
      · have := pre_len h3 h5 e
        have := WF.height h5 h3 (by simp; omega)
        simp at this; omega
    omega
theorem Pre.mono (hx : x <+: y) (hp : Pre y t) : Pre x t := by
  cases t with
  | nil => trivial
  | node g _ _ _ => exact List.IsPrefix.trans hx hp
theorem mem_own {q : Row} : q ∈ own h wh ↔ q.1 = h ∧ wh = some q.2 := by
  obtain ⟨a, i⟩ := q
  cases wh with
  | none => simp [own]
  | some v => simp [own]; intro _; exact eq_comm
theorem mem_all_node {q : Row} : q ∈ all (.node h wh l r) ↔ (q.1 = h ∧ wh = some q.2) ∨ q ∈ all l ∨ q ∈ all r := by
  rw [all_node, List.mem_append, List.mem_append, mem_own, or_assoc]
theorem all_pre : ∀ {t : Tr} {x : Pf}, WF b t → Pre x t → ∀ q ∈ all t, x <+: q.1
  | .nil, _, _, _, q, hq => by simp [all] at hq
  | .node h w l r, x, hw, hp, q, hq => by
    obtain ⟨h1, h2, h3, h4, h5, _⟩ := hw
    rcases mem_all_node.mp hq with ⟨rfl, _⟩ | hq | hq
    · exact hp
    · exact hp.trans ((List.prefix_append h [false]).trans (all_pre h4 h2 q hq))
    · exact hp.trans ((List.prefix_append h [true]).trans (all_pre h5 h3 q hq))
theorem all_short : ∀ {t : Tr}, WF b t → shortR b (all t)
  | .nil, _, q, hq => by simp [all] at hq
  | .node h w l r, hw, q, hq => by
    obtain ⟨h1, h2, h3, h4, h5, _⟩ := hw
    rcases mem_all_node.mp hq with ⟨rfl, _⟩ | hq | hq
    · exact h1
    · exact all_short h4 q hq
    · exact all_short h5 q hq
theorem all_ne : ∀ {t : Tr}, WF b t → t ≠ .nil → ∃ q, q ∈ all t
  | .nil, _, h => absurd rfl h
  | .node h (some w) l r, hw, _ => ⟨(h, w), mem_all_node.mpr (.inl ⟨rfl, rfl⟩)⟩
  | .node h none l r, hw, _ => by
    obtain ⟨q, hq⟩ := all_ne hw.2.2.2.1 (hw.2.2.2.2.2 rfl).1
    exact ⟨q, mem_all_node.mpr (.inr (.inl hq))⟩
theorem plt_app : ∀ g x y : Pf, plt (g ++ x) (g ++ y) = plt x y
  | [], _, _ => rfl
  | a :: g, x, y => by simp [plt, plt_app g x y]
theorem plt_ext : plt h (h ++ c :: s) = true := by
  have := plt_app h [] (c :: s)
  rw [List.append_nil] at this
  rw [this]; rfl
theorem pre_dest (q : h ++ [c] <+: p) : ∃ s, p = h ++ c :: s := by
  obtain ⟨s, rfl⟩ := q
  exact ⟨s, by simp⟩
theorem all_srt : ∀ {t : Tr}, WF b t → Srt (all t)
  | .nil, _ => List.Pairwise.nil
  | .node h w l r, hw => by
    obtain ⟨h1, h2, h3, h4, h5, _⟩ := hw
    rw [all_node]
    unfold Srt
    rw [List.pairwise_append, List.pairwise_append]
    refine ⟨⟨?_, all_srt h4, ?_⟩, all_srt h5, ?_⟩
    · cases w <;> simp [own]
    · intro a ha q hq
      obtain ⟨s, e⟩ := pre_dest (all_pre h4 h2 q hq)
      rw [(mem_own.mp ha).1, e]; exact plt_ext
    · intro a ha q hq
      obtain ⟨s, e⟩ := pre_dest (all_pre h5 h3 q hq)
      rw [e]
      rcases List.mem_append.mp ha with ha | ha
      · rw [(mem_own.mp ha).1]; exact plt_ext
      · obtain ⟨s', e'⟩ := pre_dest (all_pre h4 h2 a ha)
        rw [e', plt_app]; rfl
theorem srt_ext : ∀ {l1 l2 : List Row}, Srt l1 → Srt l2 → (∀ q, q ∈ l1 ↔ q ∈ l2) → l1 = l2
  | [], [], _, _, _ => rfl
  | [], q :: _, _, _, h => absurd ((h q).mpr (.head _)) (by simp)
  | q :: _, [], _, _, h => absurd ((h q).mp (.head _)) (by simp)
  | a :: l1, q :: l2, s1, s2, h => by
    have p1 := List.pairwise_cons.mp s1
    have p2 := List.pairwise_cons.mp s2
    have e : a = q := by
      rcases List.mem_cons.mp ((h a).mp (.head _)) with e | e
      · exact e
      · rcases List.mem_cons.mp ((h q).mpr (.head _)) with e' | e'
        · exact e'.symm
        · have := plt_asymm (p1.1 q e'); rw [p2.1 a e] at this; cases this
    subst e
    congr 1
    refine srt_ext p1.2 p2.2 fun z => ?_
    have irr : ∀ l : List Row, (∀ q ∈ l, plt a.1 q.1 = true) → a ∉ l := fun l hl hm => by
      have := hl a hm; rw [plt_irr] at this; cases this
    constructor
    · intro hz
      rcases List.mem_cons.mp ((h z).mp (.tail _ hz)) with e | e
      · subst e; exact absurd hz (irr _ p1.1)
      · exact e
    · intro hz
      rcases List.mem_cons.mp ((h z).mpr (.tail _ hz)) with e | e
      · subst e; exact absurd hz (irr _ p2.1)
      · exact e
theorem srt_key {rs : List Row} (hs : Srt rs) {q q' : Row} (h1 : q ∈ rs) (h2 : q' ∈ rs) (e : q.1 = q'.1) : q = q' := by
  induction rs with
  | nil => cases h1
  | cons a rs ih =>
    have p1 := List.pairwise_cons.mp hs
    rcases List.mem_cons.mp h1 with e1 | h1' <;> rcases List.mem_cons.mp h2 with e2 | h2'
    · rw [e1, e2]
    · have := p1.1 q' h2'; rw [← e1, e, plt_irr] at this; cases this
    · have := p1.1 q h1'; rw [← e2, e, plt_irr] at this; cases this
    · exact ih p1.2 h1' h2'
theorem mem_insR {rs : List Row} {z q : Row} : q ∈ insR rs z ↔ q = z ∨ q ∈ rs := by
  unfold insR
  have : q ∈ rs ↔ q ∈ rs.takeWhile (fun r => plt r.1 z.1) ∨ q ∈ rs.dropWhile (fun r => plt r.1 z.1) := by
    rw [← List.mem_append, List.takeWhile_append_dropWhile]
  rw [this, List.mem_append, List.mem_cons]
  constructor
  · rintro (h | h | h)
    · exact .inr (.inl h)
    · exact .inl h
    · exact .inr (.inr h)
  · rintro (h | h | h)
    · exact .inr (.inl h)
    · exact .inl h
    · exact .inr (.inr h)
theorem insR_srt : ∀ {rs : List Row} {z : Row}, Srt rs → (∀ q ∈ rs, q.1 ≠ z.1) → Srt (insR rs z)
  | [], z, _, _ => by simp [insR, Srt]
  | a :: rs, z, hs, hn => by
    have p1 := List.pairwise_cons.mp hs
    cases d : plt a.1 z.1 with
    | true =>
      have e : insR (a :: rs) z = a :: insR rs z := by
        unfold insR
        rw [List.takeWhile_cons_of_pos (by simpa using d), List.dropWhile_cons_of_pos (by simpa using d)]; rfl
      rw [e]
      refine List.pairwise_cons.mpr ⟨fun q hq => ?_, insR_srt p1.2 fun q hq => hn q (.tail _ hq)⟩
      rcases mem_insR.mp hq with rfl | hq
      · exact d
      · exact p1.1 q hq
    | false =>
      have e : insR (a :: rs) z = z :: a :: rs := by
        unfold insR
        rw [List.takeWhile_cons_of_neg (by simp [d]), List.dropWhile_cons_of_neg (by simp [d])]; rfl
      rw [e]
      have hz := plt_total (hn a (.head _)) d
      refine List.pairwise_cons.mpr ⟨fun q hq => ?_, hs⟩
      rcases List.mem_cons.mp hq with rfl | hq
      · exact hz
      · exact plt_trans hz (p1.1 q hq)
theorem mem_putL {rs : List Row} {q : Row} : q ∈ putL rs p w ↔ q = (p, w) ∨ (q ∈ rs ∧ q.1 ≠ p) := by
  unfold putL
  rw [mem_insR, List.mem_filter]
  simp
theorem putL_srt {rs : List Row} (hs : Srt rs) : Srt (putL rs p w) :=
  insR_srt (List.Pairwise.filter _ hs) fun q hq => by simpa using (List.mem_filter.mp hq).2
theorem mem_all_put : ∀ {t : Tr} {p : Pf}, WF b t → ∀ {q : Row}, q ∈ all (put t p w) ↔ q = (p, w) ∨ (q ∈ all t ∧ q.1 ≠ p)
  | .nil, p, _, q => by
    rw [put, mem_all_node]
    obtain ⟨a, i⟩ := q
    simp [all]
    intro _; exact eq_comm
  | .node h wh l r, p, hw, q => by
    obtain ⟨h1, h2, h3, h4, h5, h6⟩ := hw
    have nl : ∀ {s : Pf}, q ∈ all l → q.1 ≠ h ++ true :: s := fun hq e => by
      obtain ⟨s', e'⟩ := pre_dest (all_pre h4 h2 q hq)
      rw [e] at e'
      have := List.append_cancel_left e'
      simp at this
    have nr : ∀ {s : Pf}, q ∈ all r → q.1 ≠ h ++ false :: s := fun hq e => by
      obtain ⟨s', e'⟩ := pre_dest (all_pre h5 h3 q hq)
      rw [e] at e'
      have := List.append_cancel_left e'
      simp at this
    have lh : q ∈ all l → q.1 ≠ h := fun hq e => by
      obtain ⟨s', e'⟩ := pre_dest (all_pre h4 h2 q hq)
      rw [e] at e'
      have := congrArg List.length e'
      rw [len_app] at this
      omega
    have rh : q ∈ all r → q.1 ≠ h := fun hq e => by
      obtain ⟨s', e'⟩ := pre_dest (all_pre h5 h3 q hq)
      rw [e] at e'
      have := congrArg List.length e'
      rw [len_app] at this
      omega
    have eq2 : ∀ {a : Pf} {i : Int}, (q.1 = a ∧ i = q.2) ↔ q = (a, i) := by
      intro a i
      obtain ⟨u, v⟩ := q
      simp only [Prod.mk.injEq]
      exact and_congr_right fun _ => eq_comm
    rcases split3 h p with rfl | ⟨c, s, rfl⟩ | ⟨c, s, rfl⟩ | ⟨g, c, x, y, rfl, rfl⟩
    · rw [put_eq, mem_all_node, mem_all_node, Option.some.injEq, eq2]
      constructor
      · rintro (e | e | e)
        · exact .inl e
        · exact .inr ⟨.inr (.inl e), lh e⟩
        · exact .inr ⟨.inr (.inr e), rh e⟩
      · rintro (e | ⟨e | e | e, n⟩)
        · exact .inl e
        · exact absurd e.1 n
        · exact .inr (.inl e)
        · exact .inr (.inr e)
    · rw [put_dn]
      have hne : h ≠ h ++ c :: s := fun e => by have := congrArg List.length e; rw [len_app] at this; omega
      cases c with
      | true =>
        rw [if_pos rfl, mem_all_node, mem_all_node, mem_all_put h5]
        constructor
        · rintro (⟨e1, e2⟩ | e | e | ⟨e, n⟩)
          · exact .inr ⟨.inl ⟨e1, e2⟩, by rw [e1]; exact hne⟩
          · exact .inr ⟨.inr (.inl e), nl e⟩
          · exact .inl e
          · exact .inr ⟨.inr (.inr e), n⟩
        · rintro (e | ⟨e | e | e, n⟩)
          · exact .inr (.inr (.inl e))
          · exact .inl e
          · exact .inr (.inl e)
          · exact .inr (.inr (.inr ⟨e, n⟩))
      | false =>
        rw [if_neg (by simp), mem_all_node, mem_all_node, mem_all_put h4]
        constructor
        · rintro (⟨e1, e2⟩ | (e | ⟨e, n⟩) | e)
          · exact .inr ⟨.inl ⟨e1, e2⟩, by rw [e1]; exact hne⟩
          · exact .inl e
          · exact .inr ⟨.inr (.inl e), n⟩
          · exact .inr ⟨.inr (.inr e), nr e⟩
        · rintro (e | ⟨e | e | e, n⟩)
          · exact .inr (.inl (.inl e))
          · exact .inl e
          · exact .inr (.inl (.inr ⟨e, n⟩))
          · exact .inr (.inr e)
    · rw [put_up]
      have hall : ∀ {q : Row}, q ∈ all (.node (p ++ c :: s) wh l r) → q.1 ≠ p := fun hq e => by
        have := List.IsPrefix.length_le (all_pre (x := p ++ c :: s) (t := .node (p ++ c :: s) wh l r) ⟨h1, h2, h3, h4, h5, h6⟩ (List.prefix_refl _) _ hq)
        rw [e, len_app] at this; omega
      cases c with
      | true =>
        rw [if_pos rfl, mem_all_node, Option.some.injEq, eq2]
        constructor
        · rintro (e | e | e)
          · exact .inl e
          · simp [all] at e
          · exact .inr ⟨e, hall e⟩
        · rintro (e | ⟨e, n⟩)
          · exact .inl e
          · exact .inr (.inr e)
      | false =>
        rw [if_neg (by simp), mem_all_node, Option.some.injEq, eq2]
        constructor
        · rintro (e | e | e)
          · exact .inl e
          · exact .inr ⟨e, hall e⟩
          · simp [all] at e
        · rintro (e | ⟨e, n⟩)
          · exact .inl e
          · exact .inr (.inl e)
    · rw [put_fk]
      have hall : ∀ {q : Row}, q ∈ all (.node (g ++ c :: x) wh l r) → q.1 ≠ g ++ (!c) :: y := fun hq e => by
        obtain ⟨z, e'⟩ := all_pre (x := g ++ c :: x) (t := .node (g ++ c :: x) wh l r) ⟨h1, h2, h3, h4, h5, h6⟩ (List.prefix_refl _) _ hq
        rw [e, List.append_assoc] at e'
        have := List.append_cancel_left e'
        cases c <;> simp at this
      have hleaf : q ∈ all (.node (g ++ (!c) :: y) (some w) .nil .nil) ↔ q = (g ++ (!c) :: y, w) := by
        rw [mem_all_node, Option.some.injEq, eq2]; simp [all]
      have hnone : ∀ {t1 t2 : Tr}, q ∈ all (.node g none t1 t2) ↔ q ∈ all t1 ∨ q ∈ all t2 := by
        intro t1 t2; rw [mem_all_node]; simp
      cases c with
      | true =>
        rw [if_pos rfl, hnone, hleaf]
        constructor
        · rintro (e | e)
          · exact .inl e
          · exact .inr ⟨e, hall e⟩
        · rintro (e | ⟨e, n⟩)
          · exact .inl e
          · exact .inr e
      | false =>
        rw [if_neg (by simp), hnone, hleaf]
        constructor
        · rintro (e | e)
          · exact .inr ⟨e, hall e⟩
          · exact .inl e
        · rintro (e | ⟨e, n⟩)
          · exact .inr e
          · exact .inl e
theorem put_ne : put t p w ≠ .nil := by
  cases t with
  | nil => rw [put]; simp
  | node h wh l r =>
    rcases split3 h p with rfl | ⟨c, s, rfl⟩ | ⟨c, s, rfl⟩ | ⟨g, c, x, y, rfl, rfl⟩
    · rw [put_eq]; simp
    · rw [put_dn]; split <;> simp
    · rw [put_up]; split <;> simp
    · rw [put_fk]; split <;> simp
theorem put_pre (hp : Pre x t) (hx : x <+: p) : Pre x (put t p w) := by
  cases t with
  | nil => rw [put]; exact hx
  | node h wh l r =>
    have hh : x <+: h := hp
    rcases split3 h p with rfl | ⟨c, s, rfl⟩ | ⟨c, s, rfl⟩ | ⟨g, c, u, y, rfl, rfl⟩
    · rw [put_eq]; exact hh
    · rw [put_dn]; split <;> exact hh
    · rw [put_up]; split <;> exact hx
    · have hg : x <+: g := by
        have l1 : x.length ≤ g.length := by
          rcases Nat.lt_or_ge g.length x.length with hlt | hge
          · have a1 : (g ++ [c]) <+: x := List.prefix_of_prefix_length_le (by rw [show g ++ c :: u = (g ++ [c]) ++ u by simp]; exact List.prefix_append _ _) hh (by simp; omega)
            have a2 : (g ++ [!c]) <+: x := List.prefix_of_prefix_length_le (by rw [show g ++ (!c) :: y = (g ++ [!c]) ++ y by simp]; exact List.prefix_append _ _) hx (by simp; omega)
            have a3 := List.prefix_of_prefix_length_le a1 a2 (by simp)
            have a4 := List.IsPrefix.eq_of_length a3 (by simp)
            have a5 := List.append_cancel_left a4
            cases c <;> simp at a5
          · exact hge
        exact List.prefix_of_prefix_length_le hh (List.prefix_append _ _) l1
      rw [put_fk]; split <;> exact hg
theorem pre_cons {z : Pf} : h ++ [c] <+: h ++ c :: z := ⟨z, by simp⟩
theorem put_wf : ∀ {t : Tr} {p : Pf}, WF b t → p.length ≤ b → WF b (put t p w)
  | .nil, p, _, hp => by rw [put]; exact ⟨hp, trivial, trivial, trivial, trivial, fun e => by cases e⟩
  | .node h wh l r, p, hw, hp => by
    have hw' := hw
    obtain ⟨h1, h2, h3, h4, h5, h6⟩ := hw
    rcases split3 h p with rfl | ⟨c, s, rfl⟩ | ⟨c, s, rfl⟩ | ⟨g, c, x, y, rfl, rfl⟩
    · rw [put_eq]; exact ⟨h1, h2, h3, h4, h5, fun e => by cases e⟩
    · rw [put_dn]
      cases c with
      | true => rw [if_pos rfl]; exact ⟨h1, h2, put_pre h3 pre_cons, h4, put_wf h5 hp, fun e => ⟨(h6 e).1, put_ne⟩⟩
      | false => rw [if_neg (by simp)]; exact ⟨h1, put_pre h2 pre_cons, h3, put_wf h4 hp, h5, fun e => ⟨put_ne, (h6 e).2⟩⟩
    · rw [put_up]
      cases c with
      | true => rw [if_pos rfl]; exact ⟨hp, trivial, pre_cons, trivial, hw', fun e => by cases e⟩
      | false => rw [if_neg (by simp)]; exact ⟨hp, pre_cons, trivial, hw', trivial, fun e => by cases e⟩
    · have hg : g.length ≤ b := by rw [len_app] at h1; omega
      have hleaf : WF b (.node (g ++ (!c) :: y) (some w) .nil .nil) := ⟨hp, trivial, trivial, trivial, trivial, fun e => by cases e⟩
      rw [put_fk]
      cases c with
      | true => rw [if_pos rfl]; exact ⟨hg, pre_cons, pre_cons, hleaf, hw', fun _ => ⟨by simp, by simp⟩⟩
      | false => rw [if_neg (by simp)]; exact ⟨hg, pre_cons, pre_cons, hw', hleaf, fun _ => ⟨by simp, by simp⟩⟩
theorem all_put {t : Tr} (hw : WF b t) (hp : p.length ≤ b) : all (put t p w) = putL (all t) p w :=
  srt_ext (all_srt (put_wf hw hp)) (putL_srt (all_srt hw)) fun q => by rw [mem_all_put hw, mem_putL]
theorem all_shrunk : all (shrunk t) = all t := by
  cases t with
  | nil => rfl
  | node h wh l r =>
    cases wh with
    | some v => rfl
    | none => cases l <;> cases r <;> simp [shrunk, all]
theorem shrunk_pre (hx : x <+: h) (h2 : Pre (h ++ [false]) l) (h3 : Pre (h ++ [true]) r) : Pre x (shrunk (.node h wh l r)) := by
  have e2 : Pre x l := h2.mono (hx.trans (List.prefix_append _ _))
  have e3 : Pre x r := h3.mono (hx.trans (List.prefix_append _ _))
  cases wh with
  | some v => exact hx
  | none => cases l <;> cases r <;> simp only [shrunk] <;> first | exact e2 | exact e3 | exact hx | trivial
theorem shrunk_wf (h1 : h.length ≤ b) (h2 : Pre (h ++ [false]) l) (h3 : Pre (h ++ [true]) r) (h4 : WF b l) (h5 : WF b r) : WF b (shrunk (.node h wh l r)) := by
  cases wh with
  | some v => exact ⟨h1, h2, h3, h4, h5, fun e => by cases e⟩
  | none => cases l <;> cases r <;> simp only [shrunk] <;> first | exact h4 | exact h5 | exact ⟨h1, h2, h3, h4, h5, fun _ => ⟨by simp, by simp⟩⟩
theorem drop_pre {x : Pf} : ∀ {t : Tr} {x p : Pf}, WF b t → Pre x t → Pre x (drop t p)
  | .nil, x, p, _, _ => by rw [drop]; trivial
  | .node h wh l r, x, p, hw, hx => by
    obtain ⟨h1, h2, h3, h4, h5, h6⟩ := hw
    have hx' : x <+: h := hx
    rcases split3 h p with rfl | ⟨c, s, rfl⟩ | ⟨c, s, rfl⟩ | ⟨g, c, u, y, rfl, rfl⟩
    · rw [drop_eq]; exact shrunk_pre hx' h2 h3
    · rw [drop_dn]
      cases c with
      | true => rw [if_pos rfl]; exact shrunk_pre hx' h2 (drop_pre (x := h) h5 h3)
      | false => rw [if_neg (by simp)]; exact shrunk_pre hx' (drop_pre (x := h) h4 h2) h3
    · rw [drop_up]; exact hx
    · rw [drop_fk]; exact hx
theorem drop_wf : ∀ {t : Tr} {p : Pf}, WF b t → WF b (drop t p)
  | .nil, p, _ => by rw [drop]; trivial
  | .node h wh l r, p, hw => by
    have hw' := hw
    obtain ⟨h1, h2, h3, h4, h5, h6⟩ := hw
    rcases split3 h p with rfl | ⟨c, s, rfl⟩ | ⟨c, s, rfl⟩ | ⟨g, c, u, y, rfl, rfl⟩
    · rw [drop_eq]; exact shrunk_wf h1 h2 h3 h4 h5
    · rw [drop_dn]
      cases c with
      | true => rw [if_pos rfl]; exact shrunk_wf h1 h2 (drop_pre (x := h) h5 h3) h4 (drop_wf h5)
      | false => rw [if_neg (by simp)]; exact shrunk_wf h1 (drop_pre (x := h) h4 h2) h3 (drop_wf h4) h5
    · rw [drop_up]; exact hw'
    · rw [drop_fk]; exact hw'
/-- what lies in a node, by its parts -/
theorem in_l (hw : WF b (.node h wh l r)) {q : Row} (hq : q ∈ all l) : ∃ s, q.1 = h ++ false :: s := pre_dest (all_pre hw.2.2.2.1 hw.2.1 q hq)
theorem in_r (hw : WF b (.node h wh l r)) {q : Row} (hq : q ∈ all r) : ∃ s, q.1 = h ++ true :: s := pre_dest (all_pre hw.2.2.2.2.1 hw.2.2.1 q hq)
theorem app_ne : h ≠ h ++ c :: s := fun e => by have := congrArg List.length e; rw [len_app] at this; omega
theorem app_dif {d : Bool} (n : c ≠ d) : h ++ c :: s ≠ h ++ d :: x := fun e => by
  have := List.append_cancel_left e
  simp at this
  exact n this.1
theorem mem_all_drop : ∀ {t : Tr} {p : Pf}, WF b t → ∀ {q : Row}, q ∈ all (drop t p) ↔ q ∈ all t ∧ q.1 ≠ p
  | .nil, p, _, q => by rw [drop]; simp [all]
  | .node h wh l r, p, hw, q => by
    have hl := fun hq => in_l hw (q := q) hq
    have hr := fun hq => in_r hw (q := q) hq
    have hA := fun hq => all_pre hw (List.prefix_refl h) q hq
    have hw' := hw
    obtain ⟨h1, h2, h3, h4, h5, h6⟩ := hw
    rcases split3 h p with rfl | ⟨c, s, rfl⟩ | ⟨c, s, rfl⟩ | ⟨g, c, u, y, rfl, rfl⟩
    · rw [drop_eq, all_shrunk, mem_all_node, mem_all_node]
      constructor
      · rintro (⟨_, e⟩ | e | e)
        · cases e
        · obtain ⟨z, e'⟩ := hl e
          exact ⟨.inr (.inl e), by rw [e']; exact app_ne.symm⟩
        · obtain ⟨z, e'⟩ := hr e
          exact ⟨.inr (.inr e), by rw [e']; exact app_ne.symm⟩
      · rintro ⟨⟨e, _⟩ | e | e, n⟩
        · exact absurd e n
        · exact .inr (.inl e)
        · exact .inr (.inr e)
    · rw [drop_dn]
      cases c with
      | true =>
        rw [if_pos rfl, all_shrunk, mem_all_node, mem_all_node, mem_all_drop h5]
        constructor
        · rintro (⟨e, e2⟩ | e | ⟨e, n⟩)
          · exact ⟨.inl ⟨e, e2⟩, by rw [e]; exact app_ne⟩
          · obtain ⟨z, e'⟩ := hl e
            exact ⟨.inr (.inl e), by rw [e']; exact app_dif (by simp)⟩
          · exact ⟨.inr (.inr e), n⟩
        · rintro ⟨e | e | e, n⟩
          · exact .inl e
          · exact .inr (.inl e)
          · exact .inr (.inr ⟨e, n⟩)
      | false =>
        rw [if_neg (by simp), all_shrunk, mem_all_node, mem_all_node, mem_all_drop h4]
        constructor
        · rintro (⟨e, e2⟩ | ⟨e, n⟩ | e)
          · exact ⟨.inl ⟨e, e2⟩, by rw [e]; exact app_ne⟩
          · exact ⟨.inr (.inl e), n⟩
          · obtain ⟨z, e'⟩ := hr e
            exact ⟨.inr (.inr e), by rw [e']; exact app_dif (by simp)⟩
        · rintro ⟨e | e | e, n⟩
          · exact .inl e
          · exact .inr (.inl ⟨e, n⟩)
          · exact .inr (.inr e)
    · rw [drop_up]
      refine ⟨fun e => ⟨e, fun e' => ?_⟩, fun e => e.1⟩
      have := List.IsPrefix.length_le (hA e)
      rw [e', len_app] at this; omega
    · rw [drop_fk]
      refine ⟨fun e => ⟨e, fun e' => ?_⟩, fun e => e.1⟩
      obtain ⟨z, e2⟩ := hA e
      rw [e', List.append_assoc] at e2
      exact app_dif (by cases c <;> simp) e2
theorem filter_srt {rs : List Row} {f : Row → Bool} (hs : Srt rs) : Srt (rs.filter f) := List.Pairwise.filter _ hs
theorem all_drop {t : Tr} (hw : WF b t) : all (drop t p) = (all t).filter fun r => decide (r.1 ≠ p) :=
  srt_ext (all_srt (drop_wf hw)) (filter_srt (all_srt hw)) fun q => by rw [mem_all_drop hw, List.mem_filter]; simp
theorem exact_mem : ∀ {t : Tr} {p : Pf}, WF b t → (exact t p = some w ↔ (p, w) ∈ all t)
  | .nil, p, _ => by rw [exact]; simp [all]
  | .node h wh l r, p, hw => by
    have hl := fun hq => in_l hw (q := (p, w)) hq
    have hr := fun hq => in_r hw (q := (p, w)) hq
    have hA := fun hq => all_pre hw (List.prefix_refl h) (p, w) hq
    obtain ⟨h1, h2, h3, h4, h5, h6⟩ := hw
    rcases split3 h p with rfl | ⟨c, s, rfl⟩ | ⟨c, s, rfl⟩ | ⟨g, c, u, y, rfl, rfl⟩
    · rw [exact_eq, mem_all_node]
      constructor
      · intro e; exact .inl ⟨rfl, e⟩
      · rintro (⟨_, e⟩ | e | e)
        · exact e
        · obtain ⟨z, e'⟩ := hl e; exact absurd e' app_ne
        · obtain ⟨z, e'⟩ := hr e; exact absurd e' app_ne
    · rw [exact_dn]
      cases c with
      | true =>
        rw [if_pos rfl, exact_mem h5, mem_all_node]
        refine ⟨fun e => .inr (.inr e), ?_⟩
        rintro (⟨e, _⟩ | e | e)
        · exact absurd e.symm app_ne
        · obtain ⟨z, e'⟩ := hl e; exact absurd e' (app_dif (by simp))
        · exact e
      | false =>
        rw [if_neg (by simp), exact_mem h4, mem_all_node]
        refine ⟨fun e => .inr (.inl e), ?_⟩
        rintro (⟨e, _⟩ | e | e)
        · exact absurd e.symm app_ne
        · exact e
        · obtain ⟨z, e'⟩ := hr e; exact absurd e' (app_dif (by simp))
    · rw [exact_up]
      refine ⟨fun e => (by cases e), fun e => ?_⟩
      have := List.IsPrefix.length_le (hA e)
      rw [len_app] at this; simp at this; omega
    · rw [exact_fk]
      refine ⟨fun e => (by cases e), fun e => ?_⟩
      obtain ⟨z, e2⟩ := hA e
      rw [List.append_assoc] at e2
      exact absurd e2 (app_dif (by cases c <;> simp))
theorem cov_iff : cov p g = true ↔ p <+: g := by
  unfold cov
  rw [decide_eq_true_iff, List.prefix_iff_eq_take]
  exact eq_comm
theorem below_all : ∀ {t : Tr} {p : Pf}, WF b t → below t p = (all t).filter fun r => cov p r.1
  | .nil, p, _ => by rw [below]; rfl
  | .node h wh l r, p, hw => by
    have hl := fun q hq => in_l hw (q := q) hq
    have hr := fun q hq => in_r hw (q := q) hq
    have hA := fun q hq => all_pre hw (List.prefix_refl h) q hq
    obtain ⟨h1, h2, h3, h4, h5, h6⟩ := hw
    rcases split3 h p with rfl | ⟨c, s, rfl⟩ | ⟨c, s, rfl⟩ | ⟨g, c, u, y, rfl, rfl⟩
    · have := below_up (p := p) (s := []) (wh := wh) (l := l) (r := r)
      rw [List.append_nil] at this
      rw [this]
      exact (List.filter_eq_self.mpr fun q hq => cov_iff.mpr (hA q hq)).symm
    · rw [below_dn, all_node, List.filter_append, List.filter_append]
      have eo : (own h wh).filter (fun r => cov (h ++ c :: s) r.1) = [] := List.filter_eq_nil_iff.mpr fun q hq hc => by
        have := List.IsPrefix.length_le (cov_iff.mp hc)
        rw [(mem_own.mp hq).1, len_app] at this; omega
      cases c with
      | true =>
        have el : (all l).filter (fun r => cov (h ++ true :: s) r.1) = [] := List.filter_eq_nil_iff.mpr fun q hq hc => by
          obtain ⟨z, e⟩ := hl q hq
          obtain ⟨z', e'⟩ := cov_iff.mp hc
          rw [e, List.append_assoc] at e'
          exact app_dif (by simp) e'
        rw [if_pos rfl, eo, el, below_all h5]; rfl
      | false =>
        have el : (all r).filter (fun r => cov (h ++ false :: s) r.1) = [] := List.filter_eq_nil_iff.mpr fun q hq hc => by
          obtain ⟨z, e⟩ := hr q hq
          obtain ⟨z', e'⟩ := cov_iff.mp hc
          rw [e, List.append_assoc] at e'
          exact app_dif (by simp) e'
        rw [if_neg (by simp), eo, el, below_all h4]; simp
    · rw [below_up]
      exact (List.filter_eq_self.mpr fun q hq => cov_iff.mpr ((List.prefix_append _ _).trans (hA q hq))).symm
    · rw [below_fk]
      refine (List.filter_eq_nil_iff.mpr fun q hq hc => ?_).symm
      obtain ⟨z, e⟩ := hA q hq
      obtain ⟨z', e'⟩ := cov_iff.mp hc
      rw [← e, List.append_assoc, List.append_assoc] at e'
      exact app_dif (by cases c <;> simp) e'
end
section
variable {b : Nat} {h p g s x y a : Pf} {c : Bool} {wh : Option Int} {l r t : Tr} {w : Int} {rs : List Row}
/-- the longest row that holds an address -/
noncomputable def Best (rs : List Row) (a : Pf) : Option Row → Prop
  | none => ∀ q ∈ rs, cov q.1 a = false
  | some q => q ∈ rs ∧ cov q.1 a = true ∧ ∀ q' ∈ rs, cov q'.1 a = true → q'.1.length ≤ q.1.length
theorem cov_eq {p q : Pf} (h1 : cov p a = true) (h2 : cov q a = true) (e : p.length = q.length) : p = q := by
  have e1 := of_decide_eq_true h1
  have e2 := of_decide_eq_true h2
  rw [← e1, ← e2, e]
theorem best_unique (hs : Srt rs) : ∀ {o o' : Option Row}, Best rs a o → Best rs a o' → o = o'
  | none, none, _, _ => rfl
  | none, some q, h1, h2 => by have := h1 q h2.1; rw [h2.2.1] at this; cases this
  | some q, none, h1, h2 => by have := h2 q h1.1; rw [h1.2.1] at this; cases this
  | some q, some q', h1, h2 => by
    have l1 := h1.2.2 q' h2.1 h2.2.1
    have l2 := h2.2.2 q h1.1 h1.2.1
    rw [srt_key hs h1.1 h2.1 (cov_eq h1.2.1 h2.2.1 (by omega))]
theorem step_best : ∀ (rs done : List Row) (f : Option Row), Best done a f → Best (done ++ rs) a (rs.foldl (stepL a) f)
  | [], done, f, h => by rw [List.append_nil]; exact h
  | q :: rs, done, f, h => by
    rw [List.foldl_cons, show done ++ q :: rs = (done ++ [q]) ++ rs by simp]
    refine step_best rs (done ++ [q]) _ ?_
    have hm : ∀ z, z ∈ done ++ [q] ↔ z ∈ done ∨ z = q := by simp
    unfold stepL
    cases hc : cov q.1 a with
    | false =>
      rw [if_neg (by simp)]
      cases f with
      | none =>
        intro z hz
        rcases (hm z).mp hz with hz | rfl
        · exact h z hz
        · exact hc
      | some g =>
        refine ⟨(hm g).mpr (.inl h.1), h.2.1, fun z hz hcz => ?_⟩
        rcases (hm z).mp hz with hz | rfl
        · exact h.2.2 z hz hcz
        · rw [hc] at hcz; cases hcz
    | true =>
      rw [if_pos rfl]
      cases f with
      | none =>
        refine ⟨(hm q).mpr (.inr rfl), hc, fun z hz hcz => ?_⟩
        rcases (hm z).mp hz with hz | rfl
        · have := h z hz; rw [hcz] at this; cases this
        · exact Nat.le_refl _
      | some g =>
        simp only
        by_cases d : g.1.length < q.1.length
        · rw [if_pos d]
          refine ⟨(hm q).mpr (.inr rfl), hc, fun z hz hcz => ?_⟩
          rcases (hm z).mp hz with hz | rfl
          · have := h.2.2 z hz hcz; omega
          · exact Nat.le_refl _
        · rw [if_neg d]
          refine ⟨(hm g).mpr (.inl h.1), h.2.1, fun z hz hcz => ?_⟩
          rcases (hm z).mp hz with hz | rfl
          · exact h.2.2 z hz hcz
          · omega
theorem lookL_best : Best rs a (lookL rs a) := by
  have := step_best (a := a) rs [] none (fun q hq => nomatch hq)
  simpa [lookL] using this
theorem look_best : ∀ {t : Tr} {a : Pf} {f : Option Row}, WF b t → a.length = b → ∃ o, Best (all t) a o ∧ look t a f b = (match o with | none => f | some q => some q)
  | .nil, a, f, _, _ => ⟨none, fun q hq => by simp [all] at hq, by rw [look]⟩
  | .node h wh l r, a, f, hw, ha => by
    have hl := fun q hq => in_l hw (q := q) hq
    have hr := fun q hq => in_r hw (q := q) hq
    have hA := fun q hq => all_pre hw (List.prefix_refl h) q hq
    have hw' := hw
    obtain ⟨h1, h2, h3, h4, h5, h6⟩ := hw
    by_cases hc : a.take h.length = h
    · have hp : h <+: a := cov_iff.mp (decide_eq_true hc)
      obtain ⟨s, hs⟩ := hp
      have hch : cov h a = true := decide_eq_true hc
      cases s with
      | nil =>
        rw [List.append_nil] at hs
        subst hs
        have nc : ∀ q : Row, (∃ c z, q.1 = h ++ c :: z) → cov q.1 h = true → False := by
          rintro q ⟨c, z, e⟩ hq
          have := List.IsPrefix.length_le (cov_iff.mp hq)
          rw [e, len_app] at this; omega
        cases wh with
        | none =>
          refine ⟨none, fun q hq => ?_, by rw [look_none, if_pos hc, if_pos ha]⟩
          cases e : cov q.1 h with
          | false => rfl
          | true =>
            rcases mem_all_node.mp hq with ⟨_, e'⟩ | hq | hq
            · cases e'
            · obtain ⟨z, ez⟩ := hl q hq; exact (nc q ⟨_, _, ez⟩ e).elim
            · obtain ⟨z, ez⟩ := hr q hq; exact (nc q ⟨_, _, ez⟩ e).elim
        | some v =>
          refine ⟨some (h, v), ⟨mem_all_node.mpr (.inl ⟨rfl, rfl⟩), hch, fun q hq e => List.IsPrefix.length_le (cov_iff.mp e)⟩, by rw [look_some, if_pos hc, if_pos ha]⟩
      | cons c s =>
        subst hs
        have hb : ¬ h.length = b := by rw [len_app] at ha; omega
        have oth : ∀ (d : Bool) (q : Row), (∃ z, q.1 = h ++ d :: z) → cov q.1 (h ++ c :: s) = true → d = c := by
          rintro d q ⟨z, e⟩ hq
          obtain ⟨z', e'⟩ := cov_iff.mp hq
          rw [e, List.append_assoc] at e'
          have := List.append_cancel_left e'
          simp at this
          exact this.1
        -- the child on the way
        have child : ∀ f', ∃ o, Best (all (if c then r else l)) (h ++ c :: s) o ∧ look (if c then r else l) (h ++ c :: s) f' b = (match o with | none => f' | some q => some q) := by
          intro f'
          cases c
          · exact look_best h4 ha
          · exact look_best h5 ha
        have inC : ∀ q, q ∈ all (if c then r else l) → q ∈ all (.node h wh l r) ∧ ∃ z, q.1 = h ++ c :: z := by
          intro q hq
          cases c
          · exact ⟨mem_all_node.mpr (.inr (.inl hq)), hl q hq⟩
          · exact ⟨mem_all_node.mpr (.inr (.inr hq)), hr q hq⟩
        have ofC : ∀ q, q ∈ all (.node h wh l r) → cov q.1 (h ++ c :: s) = true → (q.1 = h ∧ wh = some q.2) ∨ q ∈ all (if c then r else l) := by
          intro q hq hcq
          rcases mem_all_node.mp hq with e | hq | hq
          · exact .inl e
          · have := oth _ q (hl q hq) hcq; subst this; exact .inr hq
          · have := oth _ q (hr q hq) hcq; subst this; exact .inr hq
        have lk : ∀ f, (if c = true then look r (h ++ c :: s) f b else look l (h ++ c :: s) f b) = look (if c then r else l) (h ++ c :: s) f b := by intro f; cases c <;> rfl
        cases wh with
        | none =>
          obtain ⟨o, bo, e⟩ := child f
          refine ⟨o, ?_, by rw [look_none, if_pos hc, if_neg hb, getD_app, lk, e]⟩
          cases o with
          | none =>
            intro q hq
            cases e2 : cov q.1 (h ++ c :: s) with
            | false => rfl
            | true =>
              rcases ofC q hq e2 with ⟨_, e'⟩ | hq
              · cases e'
              · have := bo q hq; rw [e2] at this; cases this
          | some g =>
            refine ⟨(inC g bo.1).1, bo.2.1, fun q hq e2 => ?_⟩
            rcases ofC q hq e2 with ⟨_, e'⟩ | hq
            · cases e'
            · exact bo.2.2 q hq e2
        | some v =>
          obtain ⟨o, bo, e⟩ := child (some (h, v))
          cases o with
          | none =>
            refine ⟨some (h, v), ⟨mem_all_node.mpr (.inl ⟨rfl, rfl⟩), hch, fun q hq e2 => ?_⟩, by rw [look_some, if_pos hc, if_neg hb, getD_app, lk, e]⟩
            rcases ofC q hq e2 with ⟨e', _⟩ | hq
            · rw [e']; exact Nat.le_refl _
            · have := bo q hq; rw [e2] at this; cases this
          | some g =>
            refine ⟨some g, ⟨(inC g bo.1).1, bo.2.1, fun q hq e2 => ?_⟩, by rw [look_some, if_pos hc, if_neg hb, getD_app, lk, e]⟩
            rcases ofC q hq e2 with ⟨e', _⟩ | hq
            · obtain ⟨z, ez⟩ := (inC g bo.1).2
              rw [e', ez, len_app]; omega
            · exact bo.2.2 q hq e2
    · refine ⟨none, fun q hq => ?_, look_not hc⟩
      cases e : cov q.1 a with
      | false => rfl
      | true =>
        have := (hA q hq).trans (cov_iff.mp e)
        exact absurd (of_decide_eq_true (cov_iff.mpr this)) hc
theorem look_is (hw : WF b t) (ha : a.length = b) : look t a none b = lookL (all t) a := by
  obtain ⟨o, bo, e⟩ := look_best (f := none) hw ha
  rw [e]
  have := best_unique (all_srt hw) bo lookL_best
  rw [← this]
  cases o <;> rfl

/-- what turns -/
noncomputable def leO (p : Pf) : Option Row → Bool
  | none => true
  | some q => decide (q.1.length ≤ p.length)
theorem turn_put (hs : Srt rs) : lookL (putL rs p w) a = if (cov p a && leO p (lookL rs a)) = true then some (p, w) else lookL rs a := by
  have be : Best rs a (lookL rs a) := lookL_best
  have u : ∀ o', Best (putL rs p w) a o' → lookL (putL rs p w) a = o' := fun o' h => best_unique (putL_srt hs) lookL_best h
  generalize lookL rs a = e at be ⊢
  split
  · rename_i hc
    obtain ⟨c1, c2⟩ := Bool.and_eq_true_iff.mp hc
    refine u _ ⟨mem_putL.mpr (.inl rfl), c1, fun q hq hcq => ?_⟩
    rcases mem_putL.mp hq with rfl | ⟨hq, _⟩
    · exact Nat.le_refl _
    · cases e with
      | none => have := be q hq; rw [hcq] at this; cases this
      | some g => exact Nat.le_trans (be.2.2 q hq hcq) (of_decide_eq_true c2)
  · rename_i hc
    refine u _ ?_
    cases e with
    | none =>
      intro q hq
      rcases mem_putL.mp hq with rfl | ⟨hq, _⟩
      · cases d : cov p a with
        | false => rfl
        | true => exact absurd (by rw [d]; rfl) hc
      · exact be q hq
    | some g =>
      have hcc : cov p a = true → ¬ g.1.length ≤ p.length := fun c1 c2 => hc (by rw [c1, Bool.true_and]; exact decide_eq_true c2)
      have hg : g.1 ≠ p := fun e => hcc (by rw [← e]; exact be.2.1) (by rw [e]; exact Nat.le_refl _)
      refine ⟨mem_putL.mpr (.inr ⟨be.1, hg⟩), be.2.1, fun q hq hcq => ?_⟩
      rcases mem_putL.mp hq with rfl | ⟨hq, _⟩
      · exact Nat.le_of_lt (Nat.lt_of_not_le (hcc hcq))
      · exact be.2.2 q hq hcq
theorem turn_drop (hs : Srt rs) : match lookL rs a with
    | none => lookL (rs.filter fun r => decide (r.1 ≠ p)) a = none
    | some q => if q.1 = p then (∀ q', lookL (rs.filter fun r => decide (r.1 ≠ p)) a = some q' → q'.1.length < p.length) else lookL (rs.filter fun r => decide (r.1 ≠ p)) a = some q := by
  have be : Best rs a (lookL rs a) := lookL_best
  have bn : Best (rs.filter fun r => decide (r.1 ≠ p)) a (lookL (rs.filter fun r => decide (r.1 ≠ p)) a) := lookL_best
  have u : ∀ o', Best (rs.filter fun r => decide (r.1 ≠ p)) a o' → lookL (rs.filter fun r => decide (r.1 ≠ p)) a = o' := fun o' h => best_unique (filter_srt hs) lookL_best h
  have hm : ∀ q : Row, q ∈ (rs.filter fun r => decide (r.1 ≠ p)) ↔ q ∈ rs ∧ q.1 ≠ p := fun q => by rw [List.mem_filter]; simp
  generalize lookL rs a = e at be ⊢
  cases e with
  | none => exact u none fun q hq => be q ((hm q).mp hq).1
  | some g =>
    simp only
    split
    · rename_i hg
      intro q' e'
      rw [e'] at bn
      have h1 := (hm q').mp bn.1
      have h2 := be.2.2 q' h1.1 bn.2.1
      rcases Nat.lt_or_ge q'.1.length p.length with h3 | h3
      · exact h3
      · exact absurd (cov_eq bn.2.1 (hg ▸ be.2.1) (by rw [hg] at h2; omega)) h1.2
    · rename_i hg
      exact u _ ⟨(hm g).mpr ⟨be.1, hg⟩, be.2.1, fun q hq hcq => be.2.2 q ((hm q).mp hq).1 hcq⟩

/-- one tree for the same rows -/
theorem pre_side {g h : Pf} (h1 : g <+: x) (h2 : h <+: x) : g = h ∨ (∃ c, g ++ [c] <+: h) ∨ ∃ c, h ++ [c] <+: g := by
  rcases split3 g h with rfl | ⟨c, s, rfl⟩ | ⟨c, s, rfl⟩ | ⟨k, c, u, v, rfl, rfl⟩
  · exact .inl rfl
  · exact .inr (.inl ⟨c, pre_cons⟩)
  · exact .inr (.inr ⟨c, pre_cons⟩)
  · obtain ⟨z, e⟩ := h1
    obtain ⟨z', e'⟩ := h2
    rw [← e', List.append_assoc, List.append_assoc] at e
    exact absurd e (app_dif (by cases c <;> simp))
/-- the rows of a node do not all lie on one side -/
theorem not_side (hw : WF b (.node h wh l r)) (ha : ∀ q ∈ all (.node h wh l r), h ++ [c] <+: q.1) : False := by
  have hl := fun q hq => in_l hw (q := q) hq
  have hr := fun q hq => in_r hw (q := q) hq
  cases wh with
  | some v =>
    have := List.IsPrefix.length_le (ha (h, v) (mem_all_node.mpr (.inl ⟨rfl, rfl⟩)))
    simp at this
    omega
  | none =>
    obtain ⟨n1, n2⟩ := hw.2.2.2.2.2 rfl
    obtain ⟨q1, m1⟩ := all_ne hw.2.2.2.1 n1
    obtain ⟨q2, m2⟩ := all_ne hw.2.2.2.2.1 n2
    obtain ⟨z1, e1⟩ := hl q1 m1
    obtain ⟨z2, e2⟩ := hr q2 m2
    obtain ⟨y1, f1⟩ := pre_dest (ha q1 (mem_all_node.mpr (.inr (.inl m1))))
    obtain ⟨y2, f2⟩ := pre_dest (ha q2 (mem_all_node.mpr (.inr (.inr m2))))
    rw [e1] at f1
    rw [e2] at f2
    have g1 := List.append_cancel_left f1
    have g2 := List.append_cancel_left f2
    simp at g1 g2
    exact absurd (g1.1.symm.trans g2.1) (by simp)
theorem canon : ∀ {t t' : Tr}, WF b t → WF b t' → (∀ q, q ∈ all t ↔ q ∈ all t') → t = t'
  | .nil, .nil, _, _, _ => rfl
  | .nil, .node h w l r, _, hw, hq => by
    obtain ⟨q, m⟩ := all_ne hw (by simp)
    exact absurd ((hq q).mpr m) (by simp [all])
  | .node h w l r, .nil, hw, _, hq => by
    obtain ⟨q, m⟩ := all_ne hw (by simp)
    exact absurd ((hq q).mp m) (by simp [all])
  | .node h w l r, .node h' w' l' r', hw, hw', hq => by
    have hA := fun q hq => all_pre hw (List.prefix_refl h) q hq
    have hA' := fun q hq => all_pre hw' (List.prefix_refl h') q hq
    obtain ⟨q0, m0⟩ := all_ne hw (by simp)
    have e : h = h' := by
      rcases pre_side (hA q0 m0) (hA' q0 ((hq q0).mp m0)) with e | ⟨c, e⟩ | ⟨c, e⟩
      · exact e
      · exact (not_side (c := c) hw fun q m => e.trans (hA' q ((hq q).mp m))).elim
      · exact (not_side (c := c) hw' fun q m => e.trans (hA q ((hq q).mpr m))).elim
    subst e
    have hl := fun q hq => in_l hw (q := q) hq
    have hr := fun q hq => in_r hw (q := q) hq
    have hl' := fun q hq => in_l hw' (q := q) hq
    have hr' := fun q hq => in_r hw' (q := q) hq
    have key : ∀ {w w' : Option Int} {l r l' r' : Tr} {q : Row}, (∀ q, q ∈ all l → ∃ s, q.1 = h ++ false :: s) → (∀ q, q ∈ all r → ∃ s, q.1 = h ++ true :: s) → (∀ q, q ∈ all l' → ∃ s, q.1 = h ++ false :: s) → (∀ q, q ∈ all r' → ∃ s, q.1 = h ++ true :: s) →
        (q ∈ all (.node h w l r) → q ∈ all (.node h w' l' r')) → (q ∈ all l → q ∈ all l') ∧ (q ∈ all r → q ∈ all r') ∧ (q.1 = h → w = some q.2 → w' = some q.2) := by
      intro w w' l r l' r' q a1 a2 a3 a4 hh
      refine ⟨fun m => ?_, fun m => ?_, fun e1 e2 => ?_⟩
      · obtain ⟨s, e⟩ := a1 q m
        rcases mem_all_node.mp (hh (mem_all_node.mpr (.inr (.inl m)))) with ⟨e', _⟩ | m' | m'
        · rw [e'] at e; exact absurd e app_ne
        · exact m'
        · obtain ⟨s', e'⟩ := a4 q m'; rw [e] at e'; exact absurd e' (app_dif (by simp))
      · obtain ⟨s, e⟩ := a2 q m
        rcases mem_all_node.mp (hh (mem_all_node.mpr (.inr (.inr m)))) with ⟨e', _⟩ | m' | m'
        · rw [e'] at e; exact absurd e app_ne
        · obtain ⟨s', e'⟩ := a3 q m'; rw [e] at e'; exact absurd e' (app_dif (by simp))
        · exact m'
      · rcases mem_all_node.mp (hh (mem_all_node.mpr (.inl ⟨e1, e2⟩))) with ⟨_, e'⟩ | m' | m'
        · exact e'
        · obtain ⟨s', e'⟩ := a3 q m'; rw [e1] at e'; exact absurd e' app_ne
        · obtain ⟨s', e'⟩ := a4 q m'; rw [e1] at e'; exact absurd e' app_ne
    have k1 := fun q => key (w := w) (w' := w') (q := q) hl hr hl' hr' (hq q).mp
    have k2 := fun q => key (w := w') (w' := w) (q := q) hl' hr' hl hr (hq q).mpr
    have el := canon hw.2.2.2.1 hw'.2.2.2.1 fun q => ⟨(k1 q).1, (k2 q).1⟩
    have er := canon hw.2.2.2.2.1 hw'.2.2.2.2.1 fun q => ⟨(k1 q).2.1, (k2 q).2.1⟩
    have ew : w = w' := by
      cases w with
      | some v => exact ((k1 (h, v)).2.2 rfl rfl).symm
      | none =>
        cases w' with
        | none => rfl
        | some v => exact (k2 (h, v)).2.2 rfl rfl
    rw [el, er, ew]

/-- what went and came -/
theorem gone_put : goneL rs (putL rs p w) = [] := by
  unfold goneL
  rw [List.map_eq_nil_iff, List.filter_eq_nil_iff]
  intro q hq hn
  simp only [Bool.not_eq_true', List.any_eq_false, decide_eq_true_iff] at hn
  by_cases e : q.1 = p
  · exact hn (p, w) (mem_putL.mpr (.inl rfl)) e.symm
  · exact hn q (mem_putL.mpr (.inr ⟨hq, e⟩)) rfl
theorem mem_come {e n : List Row} {q : Row} : q ∈ comeL e n ↔ q ∈ n ∧ q ∉ e := by
  unfold comeL
  rw [List.mem_filter]
  simp only [Bool.not_eq_true', List.any_eq_false, decide_eq_true_iff]
  refine and_congr_right fun _ => ⟨fun h m => h q m rfl, fun h o m e => h (e ▸ m)⟩
theorem mem_gone {e n : List Row} : p ∈ goneL e n ↔ (∃ v, (p, v) ∈ e) ∧ ∀ o ∈ n, o.1 ≠ p := by
  unfold goneL
  rw [List.mem_map]
  constructor
  · rintro ⟨q, hq, rfl⟩
    obtain ⟨h1, h2⟩ := List.mem_filter.mp hq
    simp only [Bool.not_eq_true', List.any_eq_false, decide_eq_true_iff] at h2
    exact ⟨⟨q.2, h1⟩, h2⟩
  · rintro ⟨⟨v, h1⟩, h2⟩
    refine ⟨(p, v), List.mem_filter.mpr ⟨h1, ?_⟩, rfl⟩
    simp only [Bool.not_eq_true', List.any_eq_false, decide_eq_true_iff]
    exact h2
theorem come_srt {e n : List Row} (hs : Srt n) : Srt (comeL e n) := filter_srt hs
theorem come_put (hs : Srt rs) : comeL rs (putL rs p w) = if (p, w) ∈ rs then [] else [(p, w)] := by
  refine srt_ext (come_srt (putL_srt hs)) (by split <;> simp [Srt]) fun q => ?_
  rw [mem_come, mem_putL]
  split
  · rename_i hm
    constructor
    · rintro ⟨rfl | h, n⟩
      · exact absurd hm n
      · exact absurd h.1 n
    · intro h; cases h
  · rename_i hm
    rw [List.mem_singleton]
    constructor
    · rintro ⟨rfl | h, n⟩
      · rfl
      · exact absurd h.1 n
    · rintro rfl; exact ⟨.inl rfl, hm⟩
theorem come_drop : comeL rs (rs.filter fun r => decide (r.1 ≠ p)) = [] := by
  refine List.eq_nil_iff_forall_not_mem.mpr fun q hq => ?_
  obtain ⟨h1, h2⟩ := mem_come.mp hq
  exact h2 (List.mem_filter.mp h1).1
/-- the rows of a prefix -/
noncomputable def hadL (rs : List Row) (p : Pf) : List Row := rs.filter fun r => decide (r.1 = p)
theorem had_one (hs : Srt rs) : hadL rs p = [] ∨ ∃ v, hadL rs p = [(p, v)] := by
  have h1 : ∀ q ∈ hadL rs p, q.1 = p := fun q hq => by simpa using (List.mem_filter.mp hq).2
  have h2 : Srt (hadL rs p) := filter_srt hs
  revert h1 h2
  generalize hadL rs p = l
  intro h1 h2
  match l, h1, h2 with
  | [], _, _ => exact .inl rfl
  | [(u, v)], h1, _ => have := h1 _ (.head _); simp only at this; subst this; exact .inr ⟨v, rfl⟩
  | q :: q' :: l, h1, h2 =>
    have := (List.pairwise_cons.mp h2).1 q' (.head _)
    rw [h1 q (.head _), h1 q' (.tail _ (.head _)), plt_irr] at this
    cases this
theorem gone_drop (hs : Srt rs) : goneL rs (rs.filter fun r => decide (r.1 ≠ p)) = if hadL rs p = [] then [] else [p] := by
  have e : goneL rs (rs.filter fun r => decide (r.1 ≠ p)) = (hadL rs p).map (·.1) := by
    unfold goneL hadL
    congr 1
    refine List.filter_congr fun q hq => ?_
    by_cases c : q.1 = p
    · rw [decide_eq_true c, Bool.not_eq_true', List.any_eq_false]
      intro o ho
      have := (List.mem_filter.mp ho).2
      simp only [decide_eq_true_iff] at this ⊢
      rw [c]; exact this
    · rw [decide_eq_false c, Bool.not_eq_false', List.any_eq_true]
      exact ⟨q, List.mem_filter.mpr ⟨hq, by simpa using c⟩, by simp⟩
  rw [e]
  rcases had_one (p := p) hs with h | ⟨v, h⟩
  · rw [h]; rfl
  · rw [h]; simp
theorem had_exact (hw : WF b t) : (exact t p).isSome = decide (hadL (all t) p ≠ []) := by
  cases e : exact t p with
  | some v =>
    have := (exact_mem hw).mp e
    have m : (p, v) ∈ hadL (all t) p := List.mem_filter.mpr ⟨this, by simp⟩
    symm
    rw [Option.isSome_some, decide_eq_true_iff]
    intro h; rw [h] at m; cases m
  | none =>
    symm
    rw [Option.isSome_none, decide_eq_false_iff_not, Decidable.not_not]
    refine List.eq_nil_iff_forall_not_mem.mpr fun q hq => ?_
    obtain ⟨h1, h2⟩ := List.mem_filter.mp hq
    have h2 : q.1 = p := by simpa using h2
    have : exact t p = some q.2 := (exact_mem hw).mpr (by rw [← h2]; exact h1)
    rw [e] at this; cases this

/-- the last look -/
theorem drops : ∀ {ps : List Pf} {t : Tr}, WF b t → WF b (ps.foldl drop t) ∧ ∀ q, q ∈ all (ps.foldl drop t) ↔ q ∈ all t ∧ q.1 ∉ ps
  | [], t, hw => ⟨hw, fun q => by simp⟩
  | p :: ps, t, hw => by
    obtain ⟨h1, h2⟩ := drops (ps := ps) (drop_wf (p := p) hw)
    refine ⟨h1, fun q => ?_⟩
    rw [List.foldl_cons, h2, mem_all_drop hw, List.mem_cons, not_or, and_assoc]
theorem puts : ∀ {cs : List Row} {t : Tr}, Srt cs → shortR b cs → WF b t → WF b (cs.foldl (fun t c => put t c.1 c.2) t) ∧ ∀ q, q ∈ all (cs.foldl (fun t c => put t c.1 c.2) t) ↔ q ∈ cs ∨ (q ∈ all t ∧ ∀ z ∈ cs, q.1 ≠ z.1)
  | [], t, _, _, hw => ⟨hw, fun q => by simp⟩
  | z :: cs, t, hs, hl, hw => by
    have p1 := List.pairwise_cons.mp hs
    obtain ⟨h1, h2⟩ := puts (cs := cs) p1.2 (fun q hq => hl q (.tail _ hq)) (put_wf (p := z.1) (w := z.2) hw (hl z (.head _)))
    refine ⟨h1, fun q => ?_⟩
    rw [List.foldl_cons, h2, mem_all_put hw, List.mem_cons]
    constructor
    · rintro (h | ⟨h | ⟨h, n⟩, n'⟩)
      · exact .inl (.inr h)
      · exact .inl (.inl h)
      · refine .inr ⟨h, fun z' hz' => ?_⟩
        rcases List.mem_cons.mp hz' with rfl | hz'
        · exact n
        · exact n' z' hz'
    · rintro ((rfl | h) | ⟨h, n⟩)
      · refine .inr ⟨.inl rfl, fun z' hz' e => ?_⟩
        have := p1.1 z' hz'
        rw [e, plt_irr] at this; cases this
      · exact .inl h
      · exact .inr ⟨.inr ⟨h, n z (.head _)⟩, fun z' hz' => n z' (.tail _ hz')⟩
theorem last {t0 t : Tr} (h0 : WF b t0) (hw : WF b t) : (comeL (all t0) (all t)).foldl (fun t c => put t c.1 c.2) ((goneL (all t0) (all t)).foldl drop t0) = t := by
  obtain ⟨w1, m1⟩ := drops (ps := goneL (all t0) (all t)) h0
  obtain ⟨w2, m2⟩ := puts (cs := comeL (all t0) (all t)) (come_srt (all_srt hw)) (fun q hq => all_short hw q (mem_come.mp hq).1) w1
  refine canon w2 hw fun q => ?_
  rw [m2, m1, mem_come, mem_gone]
  constructor
  · rintro (h | ⟨⟨h, n⟩, n'⟩)
    · exact h.1
    · have : ∃ o ∈ all t, o.1 = q.1 := by
        refine Classical.byContradiction fun hn => n ⟨⟨q.2, h⟩, fun o ho e => hn ⟨o, ho, e⟩⟩
      obtain ⟨o, ho, e⟩ := this
      by_cases hm : o ∈ all t0
      · rw [← srt_key (all_srt h0) hm h e]; exact ho
      · exact absurd e.symm (n' o (mem_come.mpr ⟨ho, hm⟩))
  · intro h
    by_cases hm : q ∈ all t0
    · refine .inr ⟨⟨hm, fun hg => hg.2 q h rfl⟩, fun z hz e => ?_⟩
      obtain ⟨z1, z2⟩ := mem_come.mp hz
      rw [srt_key (all_srt hw) h z1 e] at hm
      exact z2 hm
    · exact .inl ⟨h, hm⟩
end
section
variable {prog : Program} {w : World} {hb : Heap} {μ : Mut} {k : Nat} {b : Nat} {p q : Pf} {i d : Addr} {t : Tr}
set_option maxHeartbeats 2000000
theorem put_c (Y : Wd (KK w) hb) (B : BP b) (hp : p.length ≤ b) (wv : Int) (hμ : μ.tab = some (i, d, (b : Int), encT b t)) (st : t.short b) : WC prog w hb (t.height + 4) (.ref 181) [.tab, .d (encP b p), .d (.int wv)] μ fun U μ' => U = .d .none ∧ μ' = { μ with tab := some (i, d, (b : Int), encT b (put t p wv)) } := by
  refine WC.fn Y (by with_unfolding_all rfl) (by with_unfolding_all rfl) ["self", "prefix", "worth"] (names3 fun _ _ _ => rfl) (by decide) rfl rfl rfl rfl ?_
  refine WS.cons (WX.setTree Y (by walk_at "p") ?_ (by with_unfolding_all rfl) (by with_unfolding_all rfl) (by with_unfolding_all rfl) (by with_unfolding_all rfl) (by intro env; with_unfolding_all rfl) (by decide) (by decide))
  repeat walk_at "s"
  refine (tree_put_c Y B hp wv t st).use (by omega) ?_
  refine ⟨_, _, _, _, _, hμ, rfl, ?_⟩
  repeat walk_at "s"
  exact ⟨rfl, rfl⟩
theorem drop_c (Y : Wd (KK w) hb) (B : BP b) (hp : p.length ≤ b) (hμ : μ.tab = some (i, d, (b : Int), encT b t)) (st : t.short b) : WC prog w hb (t.height + 4) (.ref 188) [.tab, .d (encP b p)] μ fun U μ' => U = .d (.bool (exact t p).isSome) ∧ μ' = { μ with tab := some (i, d, (b : Int), encT b (drop t p)) } := by
  refine WC.fn Y (by with_unfolding_all rfl) (by with_unfolding_all rfl) ["self", "prefix"] (names2 fun _ _ => rfl) (by decide) rfl rfl rfl rfl ?_
  repeat walk_at "s"
  refine (tree_exact_c Y B t st hp).use (by omega) ?_
  repeat walk_at "s"
  refine WX.setTree Y (by walk_at "p") ?_ (by with_unfolding_all rfl) (by with_unfolding_all rfl) (by with_unfolding_all rfl) (by with_unfolding_all rfl) (by intro env; with_unfolding_all rfl) (by decide) (by decide)
  repeat walk_at "s"
  refine (tree_drop_c Y B hp t st).use (by omega) ?_
  refine ⟨_, _, _, _, _, hμ, rfl, ?_⟩
  repeat walk_at "s"
  refine ⟨?_, rfl⟩
  cases exact t p <;> rfl
theorem look_c (Y : Wd (KK w) hb) (B : BP b) {a : Pf} (ha : a.length = b) (hμ : μ.tab = some (i, d, (b : Int), encT b t)) (st : t.short b) : WC prog w hb 3 (.ref 195) [.tab, .d (.int (val b a))] μ fun U μ' => U = .d (encF b (look t a none b)) ∧ μ' = μ := by
  refine WC.fn Y (by with_unfolding_all rfl) (by with_unfolding_all rfl) ["self", "address"] (names2 fun _ _ => rfl) (by decide) rfl rfl rfl rfl ?_
  repeat walk_at "s"
  refine (tree_look_c Y B t st ha).use (by omega) ?_
  exact ⟨rfl, rfl⟩
theorem rows_c (Y : Wd (KK w) hb) (hμ : μ.tab = some (i, d, (b : Int), encT b t)) (hz : (all t).length ≤ 1000) : WC prog w hb (t.height + 2) (.ref 209) [.tab] μ fun U μ' => U = .d (encL b (all t)) ∧ μ' = μ := by
  refine WC.fn Y (by with_unfolding_all rfl) (by with_unfolding_all rfl) ["self"] (names1 fun _ => rfl) (by decide) rfl rfl rfl rfl ?_
  repeat walk_at "s"
  refine (tree_all_c Y t hz).use (by omega) ?_
  exact ⟨rfl, rfl⟩
end
section
variable {prog : Program} {w : World} {hb : Heap} {K : Frag} {μ : Mut} {k : Nat} {X : Addr → Prop} {h h' : Heap} {s : Shared} {sc : Scope} {ρ : Str → Option V} {P : V → Mut → Prop} {N : (Str → Option V) → Mut → Prop} {R : V → Mut → Prop} {pos : Pos}
theorem setItem_exact {A : Around} {E : Value → Shared → Prop} {l : Addr} {items : Array Value} {n : Nat} {k : Int} {t : Tok} {v : Value} {Q : Unit → Shared → Prop} (ho : s.heap.get? l = some (seqObj "list" items n))
    (h0 : 0 ≤ k) (hfit : k < 2 ^ 63) (hn : k < items.size) (hQ : Q () { s with heap := s.heap.update l (Obj.mapSeq (·.setIfInBounds k.toNat v)) }) :
    wpAny (model prog w) A (setItem (.ref l) (.int k t) v) Q E s := by
  have hl : s.heap.IsList l items := ⟨_, ho, rfl, n, rfl⟩
  have hd : (seqObj "list" items n).data = .seq items n := rfl
  unfold setItem
  try with_reducible refine wpAny_holding ?_
  first | refine wpAny_bind (wpAny_pure ?_) | skip
  refine wpAny_bind (wpAny_sequenceKey hl.typeIs (by decide) ?_)
  refine wpAny_bind (wpAny_callSpecial?_slot (name := Str.ofString "__setitem__") hl.typeIs slot_list_setitem
    (wpAny_call_entry slot_list_setitem hl.typeIs entry_list_setitem ?_ (args_list_setitem _ _ _)))
  show wpAny _ _ (Builtin.List.listSubscript? (.int k t) >>= _) _ _ s
  refine wpAny_bind (wpAny_listSubscript_int (fitsIndex_of h0 hfit) ?_)
  clear hfit
  obtain ⟨j, rfl⟩ := Int.eq_ofNat_of_zero_le h0
  have hj : j < items.size := by omega
  have hx' : items[j]? = some items[j] := Array.getElem?_eq_getElem hj
  show wpAny _ _ ((seqItemAt l j >>= fun r => pure (r.map (j, ·))) >>= _) _ _ s
  refine wpAny_bind (wpAny_bind (wpAny_seqItemAt ho hd (wpAny_pure ?_)))
  rw [hx']
  show wpAny _ _ (setSeqItemAt l j v >>= _) _ _ s
  refine wpAny_bind (wpAny_setSeqItemAt ho hd ?_)
  first
    | exact wpAny_bind (wpAny_pure (wpAny_pure ⟨.none, rfl, wpAny_pure hQ⟩))
    | exact wpAny_pure ⟨.none, rfl, wpAny_pure hQ⟩

theorem WE.box0 {x : Str} {np cp : Pos} {kk : Nat} {a : Addr} {ns : List Int} {kb : Int} (hx : ρ x = some .box) (hμ : μ.box = some (a, ns, kb)) (hP : P (.d (.list (ns.map .int))) μ)
    (hs : ∀ o k u, subscripted (.Constant (.int 0) kk cp) false (.ref o) (.int k u) = operate [.ref o, .int k u] (getItem (.ref o) (.int k u)))
    (hd : (x == ("__debug__" : Str)) = false := by decide) (hc : (x == ("__classdict__" : Str)) = false := by decide) : WE prog w hb k sc (.Subscript (.Name x np) (.Constant (.int 0) kk cp) pos) ρ μ P := fun A env X s Q E h1 h2 C F hQ => by
  refine Subscript_ (wpAny_Name (F.load hx hc fun v r => wpAny_Constant_int ?_) hd)
  obtain ⟨a', q, ea, rfl⟩ := r
  rw [hμ] at ea
  have e0 := congrArg Prod.fst (Option.some.inj ea)
  simp only at e0
  subst e0
  have hbx := C.mu.box
  rw [hμ] at hbx
  obtain ⟨hxa, l, t', n, e, rd⟩ := hbx
  have hL : s.heap.IsList a #[.ref l, .int kb t'] := ⟨_, e, rfl, n, rfl⟩
  refine tail_any (s := { s with toks := s.toks + 1 }) hL.typeIs slot_list_getitem.lookup (wpAny_getItem_list (x := .ref l) (s := { s with toks := s.toks + 1 }) hL (by decide) (by decide) rfl ?_) (hs _ _ _)
  exact hQ _ s.heap _ _ μ hP (.refl C.mu) rd
theorem WE.box1 {x : Str} {np cp : Pos} {kk : Nat} {a : Addr} {ns : List Int} {kb : Int} (hx : ρ x = some .box) (hμ : μ.box = some (a, ns, kb)) (hP : P (.d (.int kb)) μ)
    (hs : ∀ o k u, subscripted (.Constant (.int 1) kk cp) false (.ref o) (.int k u) = operate [.ref o, .int k u] (getItem (.ref o) (.int k u)))
    (hd : (x == ("__debug__" : Str)) = false := by decide) (hc : (x == ("__classdict__" : Str)) = false := by decide) : WE prog w hb k sc (.Subscript (.Name x np) (.Constant (.int 1) kk cp) pos) ρ μ P := fun A env X s Q E h1 h2 C F hQ => by
  refine Subscript_ (wpAny_Name (F.load hx hc fun v r => wpAny_Constant_int ?_) hd)
  obtain ⟨a', q, ea, rfl⟩ := r
  rw [hμ] at ea
  have e0 := congrArg Prod.fst (Option.some.inj ea)
  simp only at e0
  subst e0
  have hbx := C.mu.box
  rw [hμ] at hbx
  obtain ⟨hxa, l, t', n, e, rd⟩ := hbx
  have hL : s.heap.IsList a #[.ref l, .int kb t'] := ⟨_, e, rfl, n, rfl⟩
  refine tail_any (s := { s with toks := s.toks + 1 }) hL.typeIs slot_list_getitem.lookup (wpAny_getItem_list (x := .int kb t') (s := { s with toks := s.toks + 1 }) hL (by decide) (by decide) rfl ?_) (hs _ _ _)
  exact hQ _ s.heap _ _ μ hP (.refl C.mu) (.int _ _)
theorem WX.setBox {x : Str} {np cp tp : Pos} {kk : Nat} {e : Expr} (hx : ρ x = some .box) (H : WE prog w hb k sc e ρ μ fun U μ1 => ∃ a ns kb kb', μ1.box = some (a, ns, kb) ∧ U = .d (.int kb') ∧ N ρ { μ1 with box := some (a, ns, kb') })
    (hsw : ∀ env, swapsWith e (some (.Subscript (.Name x np) (.Constant (.int 1) kk cp) tp)) pos.line env = pure false)
    (hd : (x == ("__debug__" : Str)) = false := by decide) (hc : (x == ("__classdict__" : Str)) = false := by decide) :
    WX prog w hb k sc (.Assign [.Subscript (.Name x np) (.Constant (.int 1) kk cp) tp] e pos) ρ μ N R := fun A env X s Q E h1 h2 C F hN hR => by
  refine wpAny_Assign_Subscript (H A env X s _ E h1 h2 C F ?_) (hsw env)
  rintro v g tk U μ1 ⟨a, ns, kb, kb', hμ, rfl, hP⟩ n r
  have Cg := C.nxt n
  have Fg := F.nxt C.mu n
  refine wpAny_Name (Fm.load (s := { s with heap := g, toks := tk }) Fg hx hc fun u ru => wpAny_Constant_int ?_) hd
  obtain ⟨a', q, ea, rfl⟩ := ru
  rw [hμ] at ea
  have e0 := congrArg Prod.fst (Option.some.inj ea)
  simp only at e0
  subst e0
  obtain ⟨tv, rfl⟩ := RD.int_inv r
  have hbx := Cg.mu.box
  rw [hμ] at hbx
  obtain ⟨hxa, l, t', nn, ed, rd⟩ := hbx
  have s1 := Heap.SameBut.update g a (Obj.mapSeq (·.setIfInBounds (1 : Int).toNat (.int kb' tv)))
  have e1 := get?_update_seq ed (·.setIfInBounds (1 : Int).toNat (.int kb' tv))
  refine setItem_exact (s := { s with heap := g, toks := tk + 1 }) ed (by decide) (by decide) (by show (1 : Int) < ((2 : Nat) : Int); decide) ?_
  have E0 := ext_same s1 ⟨_, e1⟩
  have mM : μ1.M a := .inl ⟨(ns, kb), hμ⟩
  have E1 : Ext μ1.M g (g.update a (Obj.mapSeq (·.setIfInBounds (1 : Int).toNat (.int kb' tv)))) := E0.sub fun _ _ _ q => q ▸ mM
  have up : ∀ v x, RD X g v x → RD X (g.update a (Obj.mapSeq (·.setIfInBounds (1 : Int).toNat (.int kb' tv)))) v x := fun v x r => r.ext E1 fun a m => Cg.mu.inX m
  have mu2 : HasMut X (g.update a (Obj.mapSeq (·.setIfInBounds (1 : Int).toNat (.int kb' tv)))) { μ1 with box := some (a, ns, kb') } := by
    refine ⟨⟨hxa, l, tv, _, e1.trans rfl, up _ _ rd⟩, ?_⟩
    have htx := Cg.mu.tab
    show HasTab X _ μ1.tab
    cases et : μ1.tab with
    | none => exact trivial
    | some y =>
      obtain ⟨i, dd, bb, tt⟩ := y
      rw [et] at htx
      obtain ⟨hi, hxd, ⟨sl, ei⟩, q1, t1, tb, q2, t2, v, n3, e3, r3⟩ := htx
      exact ⟨hi, hxd, ⟨sl, E0.1 i _ (fun q => hi (q ▸ hxa)) ei⟩, q1, t1, tb, q2, t2, v, n3, E0.1 dd _ (fun q => by rw [q, ed] at e3; exact absurd (congrArg Obj.data (Option.some.inj e3)) (fun z => by cases z)) e3, up _ _ r3⟩
  have n2 : Nxt X μ1 g { μ1 with box := some (a, ns, kb') } (g.update a (Obj.mapSeq (·.setIfInBounds (1 : Int).toNat (.int kb' tv)))) := ⟨E1, mu2, by refine ⟨?_, rfl⟩; rw [hμ]; rfl⟩
  exact hN _ _ ρ _ hP (n.s.trans n2.s) (Fg.nxt Cg.mu n2)
end
local macro_rules | `(tactic| walk_at "e") => `(tactic| first
  | refine WE.box0 (by walk_at "p") (by first | assumption | rfl) ?_ (by intro _ _ _; with_unfolding_all rfl)
  | refine WE.box1 (by walk_at "p") (by first | assumption | rfl) ?_ (by intro _ _ _; with_unfolding_all rfl))
section
variable {prog : Program} {w : World} {hb : Heap} {μ : Mut} {k : Nat} {b : Nat} {p q : Pf} {i d a : Addr} {t : Tr} {ns : List Int} {kb : Nat}
set_option maxHeartbeats 2000000
theorem fmod_range {x : Int} {m : Nat} (hm : 0 < m) : ∃ r : Nat, r < m ∧ x.fmod (m : Int) = (r : Int) := by
  have h1 := Int.fmod_nonneg_of_pos x (b := (m : Int)) (by omega)
  have h2 := Int.fmod_lt_of_pos x (b := (m : Int)) (by omega)
  exact ⟨(x.fmod m).toNat, by omega, by omega⟩
theorem draw_c (Y : Wd (KK w) hb) {many : Nat} (hm : 0 < many) (hμ : μ.box = some (a, ns, (kb : Int))) (hk : kb ≤ 1000) (hn : ns.length ≤ 1000) : WC prog w hb 1 (.ref 223) [.box, .d (.int many)] μ fun U μ' => (∃ r : Nat, r < many ∧ U = .d (.int r)) ∧ μ' = { μ with box := some (a, ns, ((kb + 1 : Nat) : Int)) } := by
  refine WC.fn Y (by with_unfolding_all rfl) (by with_unfolding_all rfl) ["box", "many"] (names2 fun _ _ => rfl) (by decide) rfl rfl rfl rfl ?_
  repeat walk_at "s"
  refine WX.setBox (by walk_at "p") ?_ (by intro env; with_unfolding_all rfl) (by decide) (by decide)
  repeat walk_at "s"
  refine ⟨_, _, _, _, hμ, rfl, ?_⟩
  refine WS.cons (WX.if ?_)
  refine WT.cmp ?_
  refine WE.name ?_
  refine WE.callB Y (by with_unfolding_all rfl) (by with_unfolding_all rfl) (by with_unfolding_all rfl) (by decide) ?_
  repeat walk_at "s"
  refine WC.len (by rw [List.length_map]; exact hn) ?_
  repeat walk_at "s"
  walk_at "u"
  refine ⟨fun hlt => ?_, fun hge => ?_⟩
  · have hlt := of_decide_eq_true hlt
    rw [List.length_map] at hlt
    have hlt' : kb < ns.length := by omega
    refine WS.cons (WX.ret (WE.bin ?_))
    refine WE.callB Y (by with_unfolding_all rfl) (by with_unfolding_all rfl) (by with_unfolding_all rfl) (by decide) ?_
    refine WEs.cons (WE.sub ?_) (by intro _; with_unfolding_all rfl)
    repeat walk_at "s"
    refine opK.mk (OpD.itemL (j := kb) rfl (by omega) (d := .int (ns[kb])) (by simp [hlt']) (by intro _ _ _; with_unfolding_all rfl)) ?_
    repeat walk_at "s"
    refine WC.abs ?_
    repeat walk_at "s"
    refine opK.mk (OpD.mod (by omega)) ?_
    obtain ⟨r, h1, h2⟩ := fmod_range (x := if ns[kb] < 0 then -ns[kb] else ns[kb]) hm
    exact ⟨⟨r, h1, by rw [h2]⟩, by simp⟩
  · repeat walk_at "s"
    refine opK.mk (OpD.mul (by decide)) ?_
    repeat walk_at "s"
    refine opK.mk (OpD.mul (by omega)) ?_
    repeat walk_at "s"
    refine opK.mk (OpD.floordiv (by decide) (by decide)) ?_
    repeat walk_at "s"
    refine opK.mk (OpD.mod (by omega)) ?_
    obtain ⟨r, h1, h2⟩ := fmod_range (x := 7 * (kb : Int) + ((kb : Int) * kb).fdiv 5 + 3) hm
    exact ⟨⟨r, h1, by rw [h2]⟩, by simp⟩
end
section
variable {prog : Program} {w : World} {hb : Heap} {μ : Mut} {k : Nat} {b : Nat} {p q : Pf} {i d a : Addr} {t : Tr} {ns : List Int} {kb : Nat}
set_option maxHeartbeats 2000000
theorem OpD.neSame {n : Nat} {d : PyData} (h : Lay n d) (l : n ≤ 64) : OpD prog w (compareOp .NotEq) d d (.bool false) := by
  have := OpD.ne (prog := prog) (w := w) (h.shaped l) (h.shaped l)
  rwa [PySem.SeqAt.eqv_refl d h.1] at this
theorem OpD.eqSame {n : Nat} {d : PyData} (h : Lay n d) (l : n ≤ 64) : OpD prog w (compareOp .Eq) d d (.bool true) := by
  have := OpD.eq (prog := prog) (w := w) (h.shaped l) (h.shaped l)
  rwa [PySem.SeqAt.eqv_refl d h.1] at this
theorem filter_tt {α : Type} (l : List α) : l.filter (fun _ => true) = l := List.filter_eq_self.mpr fun _ _ => rfl
theorem pow2 (l : Nat) : (2 : Int) ^ ((l : Int)).toNat = ((2 ^ l : Nat) : Int) := by simp
theorem prefix_c (Y : Wd (KK w) hb) (B : BP b) (hμ : μ.box = some (a, ns, (kb : Int))) (hk : kb ≤ 900) (hn : ns.length ≤ 1000) : WC prog w hb 2 (.ref 230) [.box, .d (.int b)] μ fun U μ' => (∃ p : Pf, p.length ≤ b ∧ U = .d (encP b p)) ∧ μ' = { μ with box := some (a, ns, ((kb + 2 : Nat) : Int)) } := by
  have h4 := B.hi
  refine WC.fn Y (by with_unfolding_all rfl) (by with_unfolding_all rfl) ["box", "bits"] (names2 fun _ _ => rfl) (by decide) rfl rfl rfl rfl ?_
  repeat walk_at "s"
  rw [show ((b : Int) + 1) = ((b + 1 : Nat) : Int) by omega]
  refine ((draw_c Y (by omega) hμ (by omega) hn).more (by omega)).mono ?_
  rintro U μ1 ⟨⟨l, hl, rfl⟩, rfl⟩
  repeat walk_at "s"
  refine opK.mk (OpD.pow (by omega) (by omega) (by decide)) ?_
  repeat walk_at "s"
  rw [pow2]
  refine ((draw_c Y (many := 2 ^ l) (Nat.pow_pos (by decide)) rfl (by omega) hn).more (by omega)).mono ?_
  rintro U μ1 ⟨⟨r, hr, rfl⟩, rfl⟩
  repeat walk_at "s"
  refine opK.mk (OpD.pow (by omega) (by omega) (by decide)) ?_
  have hl4 : l ≤ 4 := by omega
  have hr16 : r < 16 := Nat.lt_of_lt_of_le hr (Nat.le_trans (Nat.pow_le_pow_right (by decide) hl4) (by decide))
  refine opK.mk (OpD.mul (by omega)) ?_
  repeat walk_at "s"
  refine ⟨⟨bitsOf l r, by rw [bitsOf_length]; omega, ?_⟩, rfl⟩
  unfold encP
  rw [bitsOf_length, f_draw B (by omega) hr]
noncomputable def looksD (b : Nat) (f : Pf → Option Row) : PyData := .list ((List.range (2 ^ b)).map fun i => encF b (f (bitsOf b i)))
theorem pow_small (B : BP b) : 2 ^ b ≤ 16 := by rcases B.two with rfl | rfl <;> decide
theorem looks_c (Y : Wd (KK w) hb) (B : BP b) (hμ : μ.tab = some (i, d, (b : Int), encT b t)) (st : t.short b) : WC prog w hb 4 (.ref 235) [.tab, .d (.int b)] μ fun U μ' => U = .d (looksD b fun a => look t a none b) ∧ μ' = μ := by
  have h4 := B.hi
  have h16 := pow_small B
  refine WC.fn Y (by with_unfolding_all rfl) (by with_unfolding_all rfl) ["table", "bits"] (names2 fun _ _ => rfl) (by decide) rfl rfl rfl rfl ?_
  repeat walk_at "s"
  refine WE.compM (α := Nat) (B := false) ⟨rfl, by decide, by decide, by decide, by decide, have_of (by with_unfolding_all rfl)⟩ (WI.range Y (by with_unfolding_all rfl) (by with_unfolding_all rfl) ?_)
  refine WE.bin ?_
  repeat walk_at "s"
  refine opK.mk (OpD.pow (by omega) (by omega) (by decide)) ?_
  rw [pow2]
  refine ⟨2 ^ b, rfl, by omega, List.range (2 ^ b), (fun i : Nat => .int i), (fun _ => true), (fun i => encF b (look t (bitsOf b i) none b)), rfl, by simp; omega, ?_, ?_, ?_, ?_⟩
  · intro r _ r' _ e
    injection e with e
    omega
  · intro r hr
    exact WTI.nil ⟨rfl, rfl⟩
  · intro r hr _
    have hr' : r < 2 ^ b := List.mem_range.mp hr
    refine WE.meth Y (by with_unfolding_all rfl) hμ (by with_unfolding_all rfl) (by with_unfolding_all rfl) (by with_unfolding_all rfl) (by with_unfolding_all rfl) (by intros; with_unfolding_all rfl) ?_ (by intro env; rfl) (by intro _; with_unfolding_all rfl) (by intro _ _; with_unfolding_all rfl)
    repeat walk_at "s"
    show WC prog w hb _ _ [V.tab, V.d (.int ((r : Nat) : Int))] _ _
    rw [← f_addr B hr']
    refine (look_c Y B (bitsOf_length b r) hμ st).use (by omega) ?_
    exact ⟨rfl, rfl⟩
  · refine ⟨?_, rfl⟩
    rw [filter_tt]; rfl
theorem alike_c (Y : Wd (KK w) hb) (B : BP b) (hμ : μ.tab = some (i, d, (b : Int), encT b t)) (hw : WF b t) (hz : (all t).length ≤ 1000) (hh : t.height ≤ 6) (hp : p.length ≤ b) : WC prog w hb 11 (.ref 247) [.tab, .d (encL b (all t)), .d (looksD b (lookL (all t))), .d (encP b p), .d (.int b)] μ fun U μ' => U = .d (.bool true) ∧ μ' = μ := by
  have h4 := B.hi
  have h16 := pow_small B
  refine WC.fn Y (by with_unfolding_all rfl) (by with_unfolding_all rfl) ["table", "rows", "after", "some", "bits"] (names5 fun _ _ _ _ _ => rfl) (by decide) rfl rfl rfl rfl ?_
  repeat walk_at "s"
  refine WE.meth0 Y (by walk_at "p") hμ (by with_unfolding_all rfl) (by with_unfolding_all rfl) (by with_unfolding_all rfl) (by with_unfolding_all rfl) (by intros; with_unfolding_all rfl) ?_ (by intro env; rfl)
  refine (rows_c Y hμ hz).use (by omega) ?_
  repeat walk_at "s"
  refine opK.mk (OpD.neSame lay_encL (by omega)) ?_
  repeat walk_at "s"
  refine (tree_below_c Y B hp t hw.short hz).use (by omega) ?_
  repeat walk_at "s"
  refine (list_below_c Y B hz (all_short hw) hp).use (by omega) ?_
  rw [below_all hw]
  refine opK.mk (OpD.neSame lay_encL (by omega)) ?_
  repeat walk_at "s"
  refine WE.compM (α := Nat) (B := false) ⟨rfl, by decide, by decide, by decide, by decide, have_of (by with_unfolding_all rfl)⟩ (WI.range Y (by with_unfolding_all rfl) (by with_unfolding_all rfl) ?_)
  refine WE.bin ?_
  repeat walk_at "s"
  refine opK.mk (OpD.pow (by omega) (by omega) (by decide)) ?_
  rw [pow2]
  refine ⟨2 ^ b, rfl, by omega, List.range (2 ^ b), (fun i : Nat => .int i), (fun _ => true), (fun i => encF b (lookL (all t) (bitsOf b i))), rfl, by simp; omega, ?_, ?_, ?_, ?_⟩
  · intro r _ r' _ e
    injection e with e
    omega
  · intro r hr
    exact WTI.nil ⟨rfl, rfl⟩
  · intro r hr _
    have hr' : r < 2 ^ b := List.mem_range.mp hr
    repeat walk_at "s"
    show WC prog w hb _ _ [V.d (encL b (all t)), V.d (.int ((r : Nat) : Int)), V.d (.int b)] _ _
    rw [← f_addr B hr']
    refine (list_look_c Y B (all_short hw) (bitsOf_length b r)).use (by omega) ?_
    exact ⟨rfl, rfl⟩
  · have e : PyData.list (((List.range (2 ^ b)).filter fun _ => true).map fun i => encF b (lookL (all t) (bitsOf b i))) = looksD b (lookL (all t)) := by rw [filter_tt]; rfl
    have op : OpD prog w (compareOp .Eq) (looksD b (lookL (all t))) (.list (((List.range (2 ^ b)).filter fun _ => true).map fun i => encF b (lookL (all t) (bitsOf b i)))) (.bool true) := by
      rw [e]
      exact OpD.eqSame (lay_map (fun i : Nat => lay_encF) _) (by omega)
    exact ⟨_, _, _, rfl, rfl, op, rfl, rfl⟩
end
noncomputable def TurnOk (p : Pf) (wo : Option Int) (e n : Option Row) (held : Bool) : Prop :=
  match wo with
  | some v => n = if (held && leO p e) = true then some (p, v) else e
  | none => match e with
    | none => n = none
    | some q => if q.1 = p then ∀ q', n = some q' → q'.1.length < p.length else n = some q
local macro_rules | `(tactic| walk_at "p") => `(tactic| first | with_reducible assumption | with_reducible apply upd_same | (with_reducible refine upd_ne (by decide) ?_; walk_at "p"))
local macro_rules | `(tactic| walk_at "end") => `(tactic| exact ⟨rfl, upd_ne (by decide) (upd_ne (by decide) (upd_ne (by decide) (upd_ne (by decide) (by assumption)))), upd_ne (by decide) (upd_ne (by decide) (upd_ne (by decide) (upd_ne (by decide) (by assumption)))), upd_ne (by decide) (upd_ne (by decide) (upd_ne (by decide) (upd_ne (by decide) (by assumption)))), upd_ne (by decide) (upd_ne (by decide) (upd_ne (by decide) (upd_ne (by decide) (by assumption)))), upd_ne (by decide) (upd_ne (by decide) (upd_ne (by decide) (upd_ne (by decide) (by assumption))))⟩)
section
variable {prog : Program} {w : World} {hb : Heap} {μ : Mut} {k : Nat} {b : Nat} {p q : Pf} {i d a : Addr} {t : Tr} {ns : List Int} {kb : Nat}
set_option maxHeartbeats 4000000
theorem held_is (B : BP b) (hp : p.length ≤ b) {r : Nat} (hr : r < 2 ^ b) : ((r : Int).fdiv (2 ^ ((b : Int) - p.length).toNat) == (val b p).fdiv (2 ^ ((b : Int) - p.length).toNat)) = cov p (bitsOf b r) := by
  have := f_held B hp (bitsOf_length b r)
  rw [f_addr B hr] at this
  exact this
theorem shaped_encF {o : Option Row} : SeqAt.shaped (encF b o) = true := lay_encF.shaped (by omega)
theorem turned_c (Y : Wd (KK w) hb) (B : BP b) {fb fa : Pf → Option Row} (hp : p.length ≤ b) (wo : Option Int) (hf : ∀ a q, fb a = some q → q.1.length ≤ b) (H : ∀ a, a.length = b → TurnOk p wo (fb a) (fa a) (cov p a)) :
    WC prog w hb 1 (.ref 242) [.d (looksD b fb), .d (looksD b fa), .d (encP b p), .d (encO wo), .d (.int b)] μ fun U μ' => U = .d (.bool true) ∧ μ' = μ := by
  have h4 := B.hi
  have h16 := pow_small B
  refine WC.fn Y (by with_unfolding_all rfl) (by with_unfolding_all rfl) ["before", "after", "prefix", "worth", "bits"] (names5 fun _ _ _ _ _ => rfl) (by decide) rfl rfl rfl rfl ?_
  refine WS.cons ?_
  refine WX.for (B := false) (.inl (by with_unfolding_all rfl)) (WI.range Y (by with_unfolding_all rfl) (by with_unfolding_all rfl) ?_)
  refine WE.bin ?_
  repeat walk_at "s"
  refine opK.mk (OpD.pow (by omega) (by omega) (by decide)) ?_
  rw [pow2]
  refine ⟨2 ^ b, rfl, by omega, fun j ρ' μ' => μ' = μ ∧ ρ' "before" = some (.d (looksD b fb)) ∧ ρ' "after" = some (.d (looksD b fa)) ∧ ρ' "prefix" = some (.d (encP b p)) ∧ ρ' "worth" = some (.d (encO wo)) ∧ ρ' "bits" = some (.d (.int b)), ⟨rfl, by walk_at "p", by walk_at "p", by walk_at "p", by walk_at "p", by walk_at "p"⟩, ?_, ?_⟩
  · rintro r dd ρ' μ' hd ⟨rfl, e1, e2, e3, e4, e5⟩
    rw [List.getElem?_map] at hd
    obtain ⟨r', hr, rfl⟩ := Option.map_eq_some_iff.mp hd
    obtain ⟨hr1, hr2⟩ := List.getElem?_eq_some_iff.mp hr
    rw [List.getElem_range] at hr2
    subst hr2
    have hrb : r < 2 ^ b := by simpa using hr1
    have gb : ((List.range (2 ^ b)).map fun i => encF b (fb (bitsOf b i)))[r]? = some (encF b (fb (bitsOf b r))) := by rw [List.getElem?_map, hr]; rfl
    have ga : ((List.range (2 ^ b)).map fun i => encF b (fa (bitsOf b i)))[r]? = some (encF b (fa (bitsOf b r))) := by rw [List.getElem?_map, hr]; rfl
    have HH := H (bitsOf b r) (bitsOf_length b r)
    have hfb := hf (bitsOf b r)
    have ed1 : looksD b fb = .list ((List.range (2 ^ b)).map fun i => encF b (fb (bitsOf b i))) := rfl
    have ed2 : looksD b fa = .list ((List.range (2 ^ b)).map fun i => encF b (fa (bitsOf b i))) := rfl
    have hcov := held_is B hp hrb
    generalize fb (bitsOf b r) = e at gb HH hfb
    generalize fa (bitsOf b r) = n at ga HH
    have E1 := e1
    have E2 := e2
    rw [ed1] at e1
    rw [ed2] at e2
    clear H ed1 ed2
    generalize cov p (bitsOf b r) = held at hcov HH
    refine WS.cons ?_
    refine WX.asgT (xs := [(Str.ofString "elder", _), (Str.ofString "newer", _), (Str.ofString "is_held", _)]) (by decide) ["elder", "newer", "is_held"] rfl ?_ (by intro _; rfl) (by intro env h; cases env; cases h; rfl)
    repeat walk_at "s"
    refine opK.mk (OpD.itemL (j := r) rfl (by omega) gb (by intro _ _ _; with_unfolding_all rfl)) ?_
    repeat walk_at "s"
    refine opK.mk (OpD.itemL (j := r) rfl (by omega) ga (by intro _ _ _; with_unfolding_all rfl)) ?_
    repeat walk_at "s"
    refine opK.mk (OpD.rshift (by omega)) ?_
    repeat walk_at "s"
    refine opK.mk (OpD.rshift (by omega)) ?_
    refine opK.mk (OpD.eq (shaped_int _) (shaped_int _)) ?_
    rw [eqv_int, hcov]
    refine WEs.nil ⟨[_, _, _], (by with_unfolding_all rfl), by simp, _, rfl, rfl, ?_⟩
    show WS prog w hb 0 _ _ (upd (upd (upd (upd ρ' (Str.ofString "address") (V.d (.int r))) (Str.ofString "is_held") (V.d (.bool held))) (Str.ofString "newer") (V.d (encF b n))) (Str.ofString "elder") (V.d (encF b e))) _ _ _
    cases wo with
    | some v =>
      simp only [TurnOk] at HH
      cases held with
      | false =>
        have HE : n = e := HH
        clear HH
        subst HE
        repeat walk_at "s"
        refine opK.mk (OpD.neSame lay_encF (by omega)) ?_
        repeat walk_at "s"
        walk_at "end"
      | true =>
        cases e with
        | none =>
          have HE : n = some (p, v) := by simpa [leO] using HH
          clear HH
          subst HE
          rw [show encF b none = PyData.none from rfl]
          repeat walk_at "s"
          refine opK.mk (OpD.neSame (lay_encR (r := (p, v))) (by omega)) ?_
          repeat walk_at "s"
          walk_at "end"
        | some g =>
          by_cases hl : g.1.length ≤ p.length
          · have HE : n = some (p, v) := by simpa [leO, hl] using HH
            clear HH
            subst HE
            rw [show encF b (some g) = .tuple [encP b g.1, .int g.2] from rfl]
            repeat walk_at "s"
            refine opK.mk (OpD.neSame (lay_encR (r := (p, v))) (by omega)) ?_
            repeat walk_at "s"
            walk_at "end"
          · have HE : n = some g := by simpa [leO, hl] using HH
            clear HH
            subst HE
            rw [show encF b (some g) = .tuple [encP b g.1, .int g.2] from rfl]
            repeat walk_at "s"
            refine opK.mk (OpD.neSame (lay_encR (r := g)) (by omega)) ?_
            repeat walk_at "s"
            walk_at "end"
    | none =>
      simp only [TurnOk] at HH
      cases e with
      | none =>
        subst HH
        rw [show encF b none = PyData.none from rfl]
        repeat walk_at "s"
        refine opK.mk (OpD.neSame lay_none (by omega)) ?_
        repeat walk_at "s"
        walk_at "end"
      | some g =>
        have hg1 := hfb g rfl
        simp only at HH
        by_cases hg : g.1 = p
        · rw [if_pos hg] at HH
          cases n with
          | none =>
            rw [show encF b none = PyData.none from rfl]
            rw [show encF b (some g) = .tuple [encP b g.1, .int g.2] from rfl]
            repeat walk_at "s"
            refine opK.mk (OpD.eq (shaped_encP _ _) (shaped_encP _ _)) ?_
            rw [eqv_encP B hg1 hp]
            repeat walk_at "s"
            walk_at "end"
          | some q' =>
            have hq := HH q' rfl
            rw [show encF b (some q') = .tuple [encP b q'.1, .int q'.2] from rfl]
            rw [show encF b (some g) = .tuple [encP b g.1, .int g.2] from rfl]
            repeat walk_at "s"
            refine opK.mk (OpD.eq (shaped_encP _ _) (shaped_encP _ _)) ?_
            rw [eqv_encP B hg1 hp]
            repeat walk_at "s"
            walk_at "end"
        · rw [if_neg hg] at HH
          subst HH
          rw [show encF b (some g) = .tuple [encP b g.1, .int g.2] from rfl]
          repeat walk_at "s"
          refine opK.mk (OpD.eq (shaped_encP _ _) (shaped_encP _ _)) ?_
          rw [eqv_encP B hg1 hp]
          repeat walk_at "s"
          refine opK.mk (OpD.neSame (lay_encR (r := g)) (by omega)) ?_
          repeat walk_at "s"
          walk_at "end"
  · rintro ρ' μ' ⟨rfl, _⟩
    repeat walk_at "s"
    exact ⟨rfl, rfl⟩
end
section
variable {b : Nat} {p : Pf} {t : Tr} {w : Int} {rs : List Row}
theorem putL_len : (putL rs p w).length ≤ rs.length + 1 := by
  unfold putL insR
  have := List.takeWhile_append_dropWhile (p := fun r : Row => plt r.1 (p, w).1) (l := rs.filter fun r => decide (r.1 ≠ p))
  have h1 := congrArg List.length this
  rw [List.length_append] at h1
  have h2 := List.length_filter_le (fun r : Row => decide (r.1 ≠ p)) rs
  rw [List.length_append, List.length_cons]
  omega
theorem hgt (B : BP b) (hw : WF b t) : t.height ≤ 5 := by
  have h4 := B.hi
  have := WF.height (x := []) hw (by cases t <;> first | trivial | exact List.nil_prefix) (by simp)
  simp at this; omega
theorem looksD_congr {f g : Pf → Option Row} (h : ∀ a, a.length = b → f a = g a) : looksD b f = looksD b g := by
  unfold looksD
  congr 1
  refine List.map_congr_left fun i _ => ?_
  rw [h _ (bitsOf_length b i)]
theorem eqv_nil : PyData.eqv (encL b rs) (.list []) = decide (rs = []) := by
  cases rs with
  | nil => rfl
  | cons r rs => rfl
theorem lay_nil : Lay 1 (.list []) := by simp [Lay, PyData.canLay0, PyData.canLayAll0, PyData.depth, PyData.depthAll]
theorem lookL_short (h : shortR b rs) {a : Pf} {q : Row} (e : lookL rs a = some q) : q.1.length ≤ b := by
  have := lookL_best (rs := rs) (a := a)
  rw [e] at this
  exact h q this.1
theorem turn_put' (hs : Srt rs) {a : Pf} : TurnOk p (some w) (lookL rs a) (lookL (putL rs p w) a) (cov p a) := turn_put hs
theorem turn_drop' (hs : Srt rs) {a : Pf} {c : Bool} : TurnOk p none (lookL rs a) (lookL (rs.filter fun r => decide (r.1 ≠ p)) a) c := turn_drop hs
end
/-- the law's frame -/
structure LS (b : Nat) (a : Addr) (ns : List Int) (i d : Addr) (t : Tr) (kb : Nat) (ρ : Str → Option V) (μ : Mut) : Prop where
  wf : WF b t
  mb : μ.box = some (a, ns, (kb : Int))
  mt : μ.tab = some (i, d, (b : Int), encT b t)
  e1 : ρ "box" = some .box
  e2 : ρ "bits" = some (.d (.int b))
  e3 : ρ "table" = some .tab
  e4 : ρ "rows" = some (.d (encL b (all t)))
noncomputable def lawFn (w : World) : Option FuncData := match List.lookup (252 : Addr) (KK w) with
  | some ⟨_, _, .func fd, _⟩ => some fd
  | _ => none
noncomputable def lawBody (w : World) : List Stmt := match lawFn w with
  | some fd => (match fd.body with | .stmts b => b | _ => [])
  | none => []
noncomputable def lawScope (w : World) : Scope := match lawFn w with
  | some fd => fd.scope
  | none => { kind := .function, names := [], isGenerator := false, isCoroutine := false }
theorem WX.mono {prog : Program} {w : World} {hb : Heap} {μ : Mut} {k : Nat} {sc : Scope} {ρ : Str → Option V} {N N' : (Str → Option V) → Mut → Prop} {R : V → Mut → Prop} {st : Stmt} (H : WX prog w hb k sc st ρ μ N R) (hn : ∀ ρ' μ', N ρ' μ' → N' ρ' μ') : WX prog w hb k sc st ρ μ N' R :=
  fun A env X s Q E h1 h2 C F hN hR => H A env X s Q E h1 h2 C F (fun h' tk ρ' μ' n => hN h' tk ρ' μ' (hn _ _ n)) hR
section
variable {prog : Program} {w : World} {hb : Heap} {μ : Mut} {k : Nat} {b : Nat} {p q : Pf} {i d a : Addr} {t : Tr} {ns : List Int} {kb : Nat} {ρ : Str → Option V}
set_option maxHeartbeats 4000000
/-- the first two routes -/
theorem law_s4 (Y : Wd (KK w) hb) (B : BP b) (hn : ns.length ≤ 1000) {st : Stmt} (hst : (lawBody w)[3]? = some st) (L : LS b a ns i d .nil kb ρ μ) (hk : kb ≤ 10) {R : V → Mut → Prop} {N : (Str → Option V) → Mut → Prop}
    (hN : ∀ t kb ρ' μ', LS b a ns i d t kb ρ' μ' → kb ≤ 20 → (all t).length ≤ 2 → N ρ' μ') : WX prog w hb 30 (lawScope w) st ρ μ N R := by
  have h4 := B.hi
  obtain ⟨wf, mb, mt, e1, e2, e3, e4⟩ := L
  have hs : st = _ := (Option.some.inj (hst.symm.trans (by with_unfolding_all rfl)))
  subst hs
  clear hst
  refine WX.for (B := false) (.inl (by with_unfolding_all rfl)) (WI.tuple ?_)
  repeat walk_at "s"
  refine ⟨fun j ρ' μ' => ∃ t kb, LS b a ns i d t kb ρ' μ' ∧ kb ≤ 10 + 2 * j ∧ (all t).length ≤ j, ⟨.nil, kb, ⟨wf, mb, mt, e1, e2, e3, e4⟩, by omega, by simp [all]⟩, ?_, ?_⟩
  · rintro j dd ρ' μ' hd ⟨t, kb, ⟨wf, mb, mt, e1, e2, e3, e4⟩, hk, hl⟩
    have hj : j < 2 := by simpa using (List.getElem?_eq_some_iff.mp hd).1
    obtain ⟨wv, rfl⟩ : ∃ wv : Int, dd = .int wv := by
      match j, hj, hd with
      | 0, _, h => exact ⟨1, by simpa using h.symm⟩
      | 1, _, h => exact ⟨2, by simpa using h.symm⟩
    have hh := hgt B wf
    refine WS.cons (WX.asgC (by with_unfolding_all rfl) (fun _ env X s F h => F.cinj.2 _ (kind_of_sc h (by with_unfolding_all rfl))) ?_ (by intro env h; cases env; cases h; with_unfolding_all rfl))
    repeat walk_at "s"
    refine ((prefix_c Y B mb (by omega) hn).more (by omega)).mono ?_
    rintro U μ2 ⟨⟨p, hp, rfl⟩, hM⟩
    have mb2 : μ2.box = some (a, ns, ((kb + 2 : Nat) : Int)) := by rw [hM]
    have mt2 : μ2.tab = some (i, d, (b : Int), encT b t) := by rw [hM]; exact mt
    clear hM
    refine WS.cons (WX.expr ?_ (by intro env h; cases env; cases h; with_unfolding_all rfl) (by intro env; with_unfolding_all rfl))
    refine WE.meth Y (by walk_at "p") mt2 (by with_unfolding_all rfl) (by with_unfolding_all rfl) (by with_unfolding_all rfl) (by with_unfolding_all rfl) (by intros; with_unfolding_all rfl) ?_ (by intro env; rfl) (by intro _; with_unfolding_all rfl) (by intro _ _; with_unfolding_all rfl)
    repeat walk_at "s"
    refine ((put_c Y B hp wv mt2 wf.short).more (by omega)).mono ?_
    rintro U μ3 ⟨rfl, hM⟩
    have mb3 : μ3.box = some (a, ns, ((kb + 2 : Nat) : Int)) := by rw [hM]; exact mb2
    have mt3 : μ3.tab = some (i, d, (b : Int), encT b (put t p wv)) := by rw [hM]
    clear hM
    refine ⟨rfl, ?_⟩
    repeat walk_at "s"
    refine (list_put_c Y B (rs := all t) (by omega) (all_short wf) hp (all_srt wf) wv).use (by omega) ?_
    repeat walk_at "s"
    have hpl := putL_len (rs := all t) (p := p) (w := wv)
    exact ⟨put t p wv, kb + 2, ⟨put_wf wf hp, mb3, mt3, by walk_at "p", by walk_at "p", by walk_at "p", by rw [all_put wf hp]; walk_at "p"⟩, by omega, by rw [all_put wf hp]; omega⟩
  · rintro ρ' μ' ⟨t, kb, L, hk, hl⟩
    exact hN t kb ρ' μ' L (by simp at hk; omega) (by simpa using hl)
/-- the last puts and drops -/
theorem law_s9 (Y : Wd (KK w) hb) (B : BP b) {st : Stmt} (hst : (lawBody w)[8]? = some st) {t t0 : Tr} (L : LS b a ns i d t kb ρ μ) (w0 : WF b t0) (hl : (all t).length ≤ 7) (hl0 : (all t0).length ≤ 7)
    (f1 : ρ "tree" = some (.d (encT b t0))) (f2 : ρ "gone_come" = some (.d (.tuple [.list ((goneL (all t0) (all t)).map (encP b)), encL b (comeL (all t0) (all t))]))) {R : V → Mut → Prop} {N : (Str → Option V) → Mut → Prop}
    (hN : ∀ ρ' μ', LS b a ns i d t kb ρ' μ' → ρ' "tree" = some (.d (encT b ((goneL (all t0) (all t)).foldl drop t0))) → ρ' "gone_come" = some (.d (.tuple [.list ((goneL (all t0) (all t)).map (encP b)), encL b (comeL (all t0) (all t))])) → N ρ' μ') : WX prog w hb 30 (lawScope w) st ρ μ N R := by
  have h4 := B.hi
  obtain ⟨wf, mb, mt, e1, e2, e3, e4⟩ := L
  have hs : st = _ := (Option.some.inj (hst.symm.trans (by with_unfolding_all rfl)))
  subst hs
  clear hst
  refine WX.for (B := true) (.inr (by with_unfolding_all rfl)) (WI.list ?_)
  repeat walk_at "s"
  generalize hG : goneL (all t0) (all t) = gs at f2 hN
  have hgs : ∀ p ∈ gs, p.length ≤ b := fun p hp => by
    rw [← hG] at hp
    obtain ⟨v, hv⟩ := (mem_gone.mp hp).1
    exact all_short w0 _ hv
  refine ⟨fun j ρ' μ' => LS b a ns i d t kb ρ' μ' ∧ ρ' "tree" = some (.d (encT b ((gs.take j).foldl drop t0))) ∧ ρ' "gone_come" = some (.d (.tuple [.list (gs.map (encP b)), encL b (comeL (all t0) (all t))])), ⟨⟨wf, mb, mt, e1, e2, e3, e4⟩, f1, f2⟩, ?_, ?_⟩
  · rintro j dd ρ' μ' hd ⟨⟨wf, mb, mt, e1, e2, e3, e4⟩, f1, f2⟩
    rw [List.getElem?_map] at hd
    obtain ⟨p, hp, rfl⟩ := Option.map_eq_some_iff.mp hd
    have hpm := hgs p (List.mem_of_getElem? hp)
    have wj := (drops (ps := gs.take j) w0).1
    have hh := hgt B wj
    repeat walk_at "s"
    refine (tree_drop_c Y B hpm _ wj.short).use (by omega) ?_
    repeat walk_at "s"
    refine ⟨⟨wf, mb, mt, by walk_at "p", by walk_at "p", by walk_at "p", by walk_at "p"⟩, ?_, by walk_at "p"⟩
    rw [upd_same, List.take_add_one, hp, List.foldl_append]
    rfl
  · rintro ρ' μ' ⟨L, f1, f2⟩
    rw [List.length_map, List.take_length] at f1
    exact hN ρ' μ' L f1 f2
theorem law_s10 (Y : Wd (KK w) hb) (B : BP b) {st : Stmt} (hst : (lawBody w)[9]? = some st) {t t1 : Tr} {cs : List Row} {gd : PyData} (L : LS b a ns i d t kb ρ μ) (w1 : WF b t1) (hcs : shortR b cs) (scs : Srt cs)
    (f1 : ρ "tree" = some (.d (encT b t1))) (f2 : ρ "gone_come" = some (.d (.tuple [gd, encL b cs]))) {R : V → Mut → Prop} {N : (Str → Option V) → Mut → Prop}
    (hN : ∀ ρ' μ', LS b a ns i d t kb ρ' μ' → ρ' "tree" = some (.d (encT b (cs.foldl (fun t c => put t c.1 c.2) t1))) → N ρ' μ') : WX prog w hb 30 (lawScope w) st ρ μ N R := by
  have h4 := B.hi
  obtain ⟨wf, mb, mt, e1, e2, e3, e4⟩ := L
  have hs : st = _ := (Option.some.inj (hst.symm.trans (by with_unfolding_all rfl)))
  subst hs
  clear hst
  refine WX.forT (xs := [(Str.ofString "prefix", _), (Str.ofString "worth", _)]) ?_ (WI.list ?_)
  · intro x hx
    simp only [List.mem_cons, List.not_mem_nil, or_false] at hx
    rcases hx with rfl | rfl
    · exact .inr ⟨by with_unfolding_all rfl, fun _ env X s ρ μ F h => F.cinj.2 _ (kind_of_sc h (by with_unfolding_all rfl))⟩
    · exact .inl (by with_unfolding_all rfl)
  repeat walk_at "s"
  refine ⟨fun j ρ' μ' => LS b a ns i d t kb ρ' μ' ∧ ρ' "tree" = some (.d (encT b ((cs.take j).foldl (fun t c => put t c.1 c.2) t1))), ⟨⟨wf, mb, mt, e1, e2, e3, e4⟩, f1⟩, ?_, ?_⟩
  · rintro j dd ρ' μ' hd ⟨⟨wf, mb, mt, e1, e2, e3, e4⟩, f1⟩
    rw [List.getElem?_map] at hd
    obtain ⟨q, hq, rfl⟩ := Option.map_eq_some_iff.mp hd
    refine ⟨_, rfl, rfl, ?_⟩
    have hqm := hcs q (List.mem_of_getElem? hq)
    have wj := (puts (cs := cs.take j) (List.Pairwise.sublist (List.take_sublist _ _) scs) (fun z hz => hcs z (List.mem_of_mem_take hz)) w1).1
    have hh := hgt B wj
    show WS prog w hb 30 _ _ (upd (upd ρ' (Str.ofString "prefix") (V.d (encP b q.1))) (Str.ofString "worth") (V.d (.int q.2))) _ _ _
    repeat walk_at "s"
    refine (tree_put_c Y B hqm q.2 _ wj.short).use (by omega) ?_
    repeat walk_at "s"
    refine ⟨⟨wf, mb, mt, by walk_at "p", by walk_at "p", by walk_at "p", by walk_at "p"⟩, ?_⟩
    rw [upd_same, List.take_add_one, hq, List.foldl_append]
    rfl
  · rintro ρ' μ' ⟨L, f1⟩
    rw [List.length_map, List.take_length] at f1
    exact hN ρ' μ' L f1
end
noncomputable def lawLoop (w : World) : List Stmt := match ((lawBody w)[6]? : Option Stmt) with
  | some (Stmt.For _ _ b _ _) => b
  | _ => []
/-- within the turns -/
structure LT (b : Nat) (a : Addr) (ns : List Int) (i d : Addr) (t t1 t0 : Tr) (m : Nat) (kb : Nat) (ρ : Str → Option V) (μ : Mut) : Prop where
  ls : LS b a ns i d t1 kb ρ μ
  w : WF b t
  w0 : WF b t0
  l0 : (all t0).length ≤ 7
  f1 : ρ "before" = some (.d (looksD b (lookL (all t))))
  f2 : ρ "mark" = some (.d (.int m))
  f3 : ρ "elder" = some (.d (.tuple [encT b t0, encL b (all t0)]))
theorem opK.eqI {prog : Program} {w : World} {μ : Mut} {P : V → Mut → Prop} {i j : Int} (h : P (.d (.bool (decide (i = j)))) μ) : opK prog w (compareOp .Eq) P (.d (.int i)) (.d (.int j)) μ := opK.mk (OpD.eq (shaped_int _) (shaped_int _)) (by rw [eqv_int]; exact h)
section
variable {prog : Program} {w : World} {hb : Heap} {μ : Mut} {k : Nat} {b : Nat} {p q : Pf} {i d a : Addr} {t t0 : Tr} {ns : List Int} {kb m : Nat} {ρ : Str → Option V}
theorem had_any (B : BP b) {rs : List Row} (hs : shortR b rs) (hp : p.length ≤ b) {v : Int} : ((hadL rs p).map (encR b)).any (fun y => PyData.eqv y (encR b (p, v))) = decide ((p, v) ∈ rs) := by
  rw [Bool.eq_iff_iff, List.any_eq_true, decide_eq_true_iff]
  constructor
  · rintro ⟨y, hy, h⟩
    obtain ⟨r, hr, rfl⟩ := List.mem_map.mp hy
    have hr' := (List.mem_filter.mp hr).1
    rw [eqv_encR B (hs r hr') hp] at h
    rw [← of_decide_eq_true h]; exact hr'
  · intro hm
    refine ⟨encR b (p, v), List.mem_map.mpr ⟨(p, v), List.mem_filter.mpr ⟨hm, by simp⟩, rfl⟩, ?_⟩
    rw [eqv_encR B hp hp]; simp
theorem eqv_bool (x y : Bool) : PyData.eqv (.bool x) (.bool y) = (x == y) := by simp [PyData.eqv]
set_option maxHeartbeats 4000000
theorem law_l0 (Y : Wd (KK w) hb) (B : BP b) {st : Stmt} (hst : (lawLoop w)[0]? = some st) {j : Nat} (L : LT b a ns i d t t t0 m kb ρ μ) (hj : ρ "turn" = some (.d (.int j))) (hl : (all t).length ≤ 7) {R : V → Mut → Prop} {N : (Str → Option V) → Mut → Prop}
    (hN : ∀ t0 ρ' μ', LT b a ns i d t t t0 m kb ρ' μ' → N ρ' μ') : WX prog w hb 30 (lawScope w) st ρ μ N R := by
  obtain ⟨⟨wf, mb, mt, e1, e2, e3, e4⟩, w1, w0, l0, f1, f2, f3⟩ := L
  have hs : st = _ := (Option.some.inj (hst.symm.trans (by with_unfolding_all rfl)))
  subst hs
  clear hst
  repeat walk_at "s"
  walk_at "u"
  refine ⟨fun _ => ?_, fun _ => ?_⟩
  · repeat walk_at "s"
    exact hN t _ _ ⟨⟨wf, mb, mt, by walk_at "p", by walk_at "p", by walk_at "p", by walk_at "p"⟩, w1, wf, hl, by walk_at "p", by walk_at "p", by walk_at "p"⟩
  · repeat walk_at "s"
    exact hN t0 _ _ ⟨⟨wf, mb, mt, e1, e2, e3, e4⟩, w1, w0, l0, f1, f2, f3⟩
theorem law_l1 (Y : Wd (KK w) hb) (B : BP b) (hn : ns.length ≤ 1000) {st : Stmt} (hst : (lawLoop w)[1]? = some st) (L : LT b a ns i d t t t0 m kb ρ μ) (hk : kb ≤ 500) {R : V → Mut → Prop} {N : (Str → Option V) → Mut → Prop}
    (hN : ∀ (f : Nat) p v ρ' μ', LT b a ns i d t t t0 m (kb + 4) ρ' μ' → p.length ≤ b → ρ' "form" = some (.d (.int f)) → ρ' "prefix" = some (.d (encP b p)) → ρ' "worth" = some (.d (.int v)) → ρ' "last" = some (.d (encL b (all t))) → N ρ' μ') : WX prog w hb 30 (lawScope w) st ρ μ N R := by
  obtain ⟨⟨wf, mb, mt, e1, e2, e3, e4⟩, w1, w0, l0, f1, f2, f3⟩ := L
  have hs : st = _ := (Option.some.inj (hst.symm.trans (by with_unfolding_all rfl)))
  subst hs
  clear hst
  refine WX.asgT4 (names := ["form", "prefix", "worth", "last"]) (xs := [(Str.ofString "form", _), (Str.ofString "prefix", _), (Str.ofString "worth", _), (Str.ofString "last", _)]) ?_ ?_ rfl (by intro _; rfl) (by intro env h; cases env; cases h; with_unfolding_all rfl)
  · intro x hx
    simp only [List.mem_cons, List.not_mem_nil, or_false] at hx
    rcases hx with rfl | rfl | rfl | rfl
    · exact .inl (by with_unfolding_all rfl)
    · exact .inr ⟨by with_unfolding_all rfl, fun _ env X s F h => F.cinj.2 _ (kind_of_sc h (by with_unfolding_all rfl))⟩
    · exact .inl (by with_unfolding_all rfl)
    · exact .inl (by with_unfolding_all rfl)
  repeat walk_at "s"
  refine ((draw_c Y (many := 4) (by decide) mb (by omega) hn).more (by omega)).mono ?_
  rintro U μ1 ⟨⟨f, hf, rfl⟩, hM⟩
  have mb1 : μ1.box = some (a, ns, ((kb + 1 : Nat) : Int)) := by rw [hM]
  have mt1 : μ1.tab = some (i, d, (b : Int), encT b t) := by rw [hM]; exact mt
  clear hM
  repeat walk_at "s"
  refine ((prefix_c Y B mb1 (by omega) hn).more (by omega)).mono ?_
  rintro U μ2 ⟨⟨p, hp, rfl⟩, hM⟩
  have mb2 : μ2.box = some (a, ns, ((kb + 1 + 2 : Nat) : Int)) := by rw [hM]
  have mt2 : μ2.tab = some (i, d, (b : Int), encT b t) := by rw [hM]; exact mt1
  clear hM
  repeat walk_at "s"
  refine ((draw_c Y (many := 2) (by decide) mb2 (by omega) hn).more (by omega)).mono ?_
  rintro U μ3 ⟨⟨v, hv, rfl⟩, hM⟩
  have mb3 : μ3.box = some (a, ns, ((kb + 4 : Nat) : Int)) := by rw [hM]
  have mt3 : μ3.tab = some (i, d, (b : Int), encT b t) := by rw [hM]; exact mt2
  clear hM
  repeat walk_at "s"
  refine hN f p (1 + (v : Int)) (upd (upd (upd (upd ρ (Str.ofString "form") (V.d (.int f))) (Str.ofString "prefix") (V.d (encP b p))) (Str.ofString "worth") (V.d (.int (1 + (v : Int))))) (Str.ofString "last") (V.d (encL b (all t)))) μ3 ⟨⟨wf, mb3, mt3, by walk_at "p", by walk_at "p", by walk_at "p", by walk_at "p"⟩, w1, w0, l0, by walk_at "p", by walk_at "p", by walk_at "p"⟩ hp (by walk_at "p") (by walk_at "p") (by walk_at "p") (by walk_at "p")
theorem law_l2 (Y : Wd (KK w) hb) (B : BP b) (hn : ns.length ≤ 1000) {st : Stmt} (hst : (lawLoop w)[2]? = some st) (L : LT b a ns i d t t t0 m kb ρ μ) (hk : kb ≤ 500) (hl : (all t).length ≤ 7) {f : Nat} {v : Int} (hp : p.length ≤ b) (g1 : ρ "form" = some (.d (.int f))) (g2 : ρ "prefix" = some (.d (encP b p))) (g3 : ρ "worth" = some (.d (.int v))) (g4 : ρ "last" = some (.d (encL b (all t)))) {R : V → Mut → Prop} {N : (Str → Option V) → Mut → Prop}
    (hN : ∀ p kb' ρ' μ', LT b a ns i d t t t0 m kb' ρ' μ' → kb' ≤ kb + 1 → p.length ≤ b → ρ' "form" = some (.d (.int f)) → ρ' "prefix" = some (.d (encP b p)) → ρ' "worth" = some (.d (.int v)) → ρ' "last" = some (.d (encL b (all t))) → N ρ' μ') : WX prog w hb 30 (lawScope w) st ρ μ N R := by
  obtain ⟨⟨wf, mb, mt, e1, e2, e3, e4⟩, w1, w0, l0, f1, f2, f3⟩ := L
  have hs : st = _ := (Option.some.inj (hst.symm.trans (by with_unfolding_all rfl)))
  subst hs
  clear hst
  have skip : N ρ μ := hN p kb ρ μ ⟨⟨wf, mb, mt, e1, e2, e3, e4⟩, w1, w0, l0, f1, f2, f3⟩ (by omega) hp g1 g2 g3 g4
  repeat walk_at "s"
  refine opK.eqI ?_
  walk_at "u"
  refine ⟨fun _ => ?_, fun _ => ?_⟩
  · repeat walk_at "s"
    refine opK.mk (OpD.ne (lay_encL.shaped (by omega)) (lay_nil.shaped (by omega))) ?_
    rw [eqv_nil]
    by_cases hr : all t = []
    · rw [decide_eq_true hr]
      repeat walk_at "s"
      exact skip
    · rw [decide_eq_false hr]
      have hpos : 0 < (all t).length := by
        cases h : all t with
        | nil => exact absurd h hr
        | cons _ _ => simp
      repeat walk_at "s"
      refine WX.asgC (by with_unfolding_all rfl) (fun _ env X s F h => F.cinj.2 _ (kind_of_sc h (by with_unfolding_all rfl))) ?_ (by intro env h; cases env; cases h; with_unfolding_all rfl)
      repeat walk_at "s"
      refine WE.callB Y (by with_unfolding_all rfl) (by with_unfolding_all rfl) (by with_unfolding_all rfl) (by decide) ?_
      repeat walk_at "s"
      refine WC.len (by rw [List.length_map]; omega) ?_
      repeat walk_at "s"
      rw [List.length_map]
      refine ((draw_c Y hpos mb (by omega) hn).more (by omega)).mono ?_
      rintro U μ1 ⟨⟨r, hr1, rfl⟩, hM⟩
      have mb1 : μ1.box = some (a, ns, ((kb + 1 : Nat) : Int)) := by rw [hM]
      have mt1 : μ1.tab = some (i, d, (b : Int), encT b t) := by rw [hM]; exact mt
      clear hM
      refine opK.mk (OpD.itemL (j := r) rfl (by omega) (d := encR b (all t)[r]) (by rw [List.getElem?_map, List.getElem?_eq_getElem hr1]; rfl) (by intro _ _ _; with_unfolding_all rfl)) ?_
      repeat walk_at "s"
      exact hN (all t)[r].1 (kb + 1) _ _ ⟨⟨wf, mb1, mt1, by walk_at "p", by walk_at "p", by walk_at "p", by walk_at "p"⟩, w1, w0, l0, by walk_at "p", by walk_at "p", by walk_at "p"⟩ (by omega) (all_short wf _ (List.getElem_mem _)) (by walk_at "p") (by walk_at "p") (by walk_at "p") (by walk_at "p")
  · repeat walk_at "s"
    exact skip
theorem law_l3 (Y : Wd (KK w) hb) (B : BP b) {st : Stmt} (hst : (lawLoop w)[3]? = some st) (L : LT b a ns i d t t t0 m kb ρ μ) (hl : (all t).length ≤ 7) {f : Nat} {v : Int} (hp : p.length ≤ b) (g1 : ρ "form" = some (.d (.int f))) (g2 : ρ "prefix" = some (.d (encP b p))) (g3 : ρ "worth" = some (.d (.int v))) (g4 : ρ "last" = some (.d (encL b (all t)))) {R : V → Mut → Prop} {N : (Str → Option V) → Mut → Prop}
    (hN : ∀ ρ' μ', LT b a ns i d t t t0 m kb ρ' μ' → ρ' "form" = some (.d (.int f)) → ρ' "prefix" = some (.d (encP b p)) → ρ' "worth" = some (.d (.int v)) → ρ' "last" = some (.d (encL b (all t))) → ρ' "had" = some (.d (encL b (hadL (all t) p))) → N ρ' μ') : WX prog w hb 30 (lawScope w) st ρ μ N R := by
  obtain ⟨⟨wf, mb, mt, e1, e2, e3, e4⟩, w1, w0, l0, f1, f2, f3⟩ := L
  have hs : st = _ := (Option.some.inj (hst.symm.trans (by with_unfolding_all rfl)))
  subst hs
  clear hst
  refine WX.asgCompM (α := Row) (B := true) ⟨rfl, by decide, by decide, by decide, ?_, ?_⟩ (by with_unfolding_all rfl) (WI.list ?_) (by intro env h; cases env; cases h; with_unfolding_all rfl)
  · intro y hy hf
    simp only [List.mem_cons, List.not_mem_nil, or_false] at hy
    rcases hy with rfl | rfl | rfl
    · cases hf
    · cases hf
    · with_unfolding_all rfl
  · intro y hy hf
    simp only [List.mem_cons, List.not_mem_nil, or_false] at hy
    rcases hy with rfl | rfl | rfl
    · cases hf
    · cases hf
    · exact ⟨_, g2⟩
  repeat walk_at "s"
  refine ⟨all t, encR b, (fun r => decide (r.1 = p)), encR b, rfl, by omega, fun r hr r' hr' e => encR_inj B (all_short wf r hr) (all_short wf r' hr') e, ?_, ?_, ?_⟩
  · intro r hr
    refine WTI.one ?_
    refine WT.cmp (WE.sub (WE.name ?_ (by with_unfolding_all rfl)))
    repeat walk_at "s"
    refine WE.name (U := .d (encP b p)) ?_ g2
    refine opK.mk (OpD.eq (shaped_encP _ _) (shaped_encP _ _)) ?_
    rw [eqv_encP B (all_short wf r hr) hp]
    exact boolK.mk ⟨rfl, rfl⟩
  · intro r hr _
    exact WE.name ⟨rfl, rfl⟩ (by with_unfolding_all rfl)
  · exact hN _ _ ⟨⟨wf, mb, mt, by walk_at "p", by walk_at "p", by walk_at "p", by walk_at "p"⟩, w1, w0, l0, by walk_at "p", by walk_at "p", by walk_at "p"⟩ (by walk_at "p") (by walk_at "p") (by walk_at "p") (by walk_at "p") (by walk_at "p")
end
/-- behind the deed -/
structure L4 (b : Nat) (a : Addr) (ns : List Int) (i d : Addr) (t t' t0 : Tr) (m kb : Nat) (p : Pf) (wo : Option Int) (ρ : Str → Option V) (μ : Mut) : Prop where
  lt : LT b a ns i d t t' t0 m kb ρ μ
  w' : WF b t'
  hp : p.length ≤ b
  ln : (all t').length ≤ (all t).length + 1
  tk : ∀ a, a.length = b → TurnOk p wo (lookL (all t) a) (lookL (all t') a) (cov p a)
  g2 : ρ "prefix" = some (.d (encP b p))
  g3 : ρ "worth" = some (.d (encO wo))
  g4 : ρ "last" = some (.d (encL b (all t)))
  g5 : ρ "due" = some (.d (.tuple [.list ((goneL (all t) (all t')).map (encP b)), encL b (comeL (all t) (all t'))]))
section
variable {prog : Program} {w : World} {hb : Heap} {μ : Mut} {k : Nat} {b : Nat} {p q : Pf} {i d a : Addr} {t t0 : Tr} {ns : List Int} {kb m : Nat} {ρ : Str → Option V}
set_option maxHeartbeats 4000000
theorem law_l4 (Y : Wd (KK w) hb) (B : BP b) {st : Stmt} (hst : (lawLoop w)[4]? = some st) (L : LT b a ns i d t t t0 m kb ρ μ) (hl : (all t).length ≤ 7) {f : Nat} {v : Int} (hp : p.length ≤ b) (g1 : ρ "form" = some (.d (.int f))) (g2 : ρ "prefix" = some (.d (encP b p))) (g3 : ρ "worth" = some (.d (.int v))) (g4 : ρ "last" = some (.d (encL b (all t)))) (g5 : ρ "had" = some (.d (encL b (hadL (all t) p)))) {R : V → Mut → Prop} {N : (Str → Option V) → Mut → Prop}
    (hN : ∀ t' wo ρ' μ', L4 b a ns i d t t' t0 m kb p wo ρ' μ' → N ρ' μ') : WX prog w hb 30 (lawScope w) st ρ μ N R := by
  obtain ⟨⟨wf, mb, mt, e1, e2, e3, e4⟩, w1, w0, l0, f1, f2, f3⟩ := L
  have hs : st = _ := (Option.some.inj (hst.symm.trans (by with_unfolding_all rfl)))
  subst hs
  clear hst
  have hh := hgt B wf
  have ss := all_srt wf
  have sh := all_short wf
  repeat walk_at "s"
  walk_at "u"
  refine ⟨fun _ => ?_, fun _ => ?_⟩
  · -- a put
    refine WS.cons (WX.expr ?_ (by intro env h; cases env; cases h; with_unfolding_all rfl) (by intro env; with_unfolding_all rfl))
    refine WE.meth Y (by walk_at "p") mt (by with_unfolding_all rfl) (by with_unfolding_all rfl) (by with_unfolding_all rfl) (by with_unfolding_all rfl) (by intros; with_unfolding_all rfl) ?_ (by intro env; rfl) (by intro _; with_unfolding_all rfl) (by intro _ _; with_unfolding_all rfl)
    repeat walk_at "s"
    refine ((put_c Y B hp v mt wf.short).more (by omega)).mono ?_
    rintro U μ3 ⟨rfl, hM⟩
    have mb3 : μ3.box = some (a, ns, (kb : Int)) := by rw [hM]; exact mb
    have mt3 : μ3.tab = some (i, d, (b : Int), encT b (put t p v)) := by rw [hM]
    clear hM
    refine ⟨rfl, ?_⟩
    repeat walk_at "s"
    refine (list_put_c Y B (rs := all t) (by omega) sh hp ss v).use (by omega) ?_
    repeat walk_at "s"
    have ep : PyData.tuple [encP b p, .int v] = encR b (p, v) := rfl
    refine opK.mk (OpD.notIn (lay_encR (r := (p, v)) |>.shaped (by omega)) (lay_encL.shaped (by omega))) ?_
    rw [had_any B sh hp]
    have hpl := putL_len (rs := all t) (p := p) (w := v)
    have fin : ∀ ρ', ρ' "box" = some .box → ρ' "bits" = some (.d (.int b)) → ρ' "table" = some .tab → ρ' "rows" = some (.d (encL b (putL (all t) p v))) → ρ' "before" = some (.d (looksD b (lookL (all t)))) → ρ' "mark" = some (.d (.int m)) → ρ' "elder" = some (.d (.tuple [encT b t0, encL b (all t0)])) →
        ρ' "prefix" = some (.d (encP b p)) → ρ' "worth" = some (.d (.int v)) → ρ' "last" = some (.d (encL b (all t))) → ρ' "due" = some (.d (.tuple [.list [], if (p, v) ∈ all t then .list [] else .list [encR b (p, v)]])) → N ρ' μ3 := by
      intro ρ' a1 a2 a3 a4 a5 a6 a7 a8 a9 a10 a11
      refine hN (put t p v) (some v) ρ' μ3 ⟨⟨⟨put_wf wf hp, mb3, mt3, a1, a2, a3, by rw [all_put wf hp]; exact a4⟩, w1, w0, l0, a5, a6, a7⟩, put_wf wf hp, hp, by rw [all_put wf hp]; exact hpl, fun a _ => by rw [all_put wf hp]; exact turn_put' ss, a8, a9, a10, ?_⟩
      rw [a11, all_put wf hp, gone_put, come_put ss]
      by_cases hm : (p, v) ∈ all t
      · rw [if_pos hm, if_pos hm]; rfl
      · rw [if_neg hm, if_neg hm]; rfl
    by_cases hm : (p, v) ∈ all t
    · rw [decide_eq_true hm]
      repeat walk_at "s"
      refine fin _ (by walk_at "p") (by walk_at "p") (by walk_at "p") (by walk_at "p") (by walk_at "p") (by walk_at "p") (by walk_at "p") (by walk_at "p") (by walk_at "p") (by walk_at "p") (by rw [if_pos hm]; walk_at "p")
    · rw [decide_eq_false hm]
      repeat walk_at "s"
      refine fin _ (by walk_at "p") (by walk_at "p") (by walk_at "p") (by walk_at "p") (by walk_at "p") (by walk_at "p") (by walk_at "p") (by walk_at "p") (by walk_at "p") (by walk_at "p") (by rw [if_neg hm]; walk_at "p")
  · -- a drop
    refine WS.cons (WX.if (WT.cmp ?_))
    refine WE.meth Y (by walk_at "p") mt (by with_unfolding_all rfl) (by with_unfolding_all rfl) (by with_unfolding_all rfl) (by with_unfolding_all rfl) (by intros; with_unfolding_all rfl) ?_ (by intro env; rfl) (by intro _; with_unfolding_all rfl) (by intro _ _; with_unfolding_all rfl)
    repeat walk_at "s"
    refine ((drop_c Y B hp mt wf.short).more (by omega)).mono ?_
    rintro U μ3 ⟨rfl, hM⟩
    have mb3 : μ3.box = some (a, ns, (kb : Int)) := by rw [hM]; exact mb
    have mt3 : μ3.tab = some (i, d, (b : Int), encT b (drop t p)) := by rw [hM]
    clear hM
    repeat walk_at "s"
    refine opK.mk (OpD.ne (lay_encL.shaped (by omega)) (lay_nil.shaped (by omega))) ?_
    refine opK.mk (OpD.ne (shaped_bool _) (shaped_bool _)) ?_
    rw [eqv_nil, eqv_bool, had_exact wf]
    have eb : (!(decide (hadL (all t) p ≠ []) == !decide (hadL (all t) p = []))) = false := by
      by_cases h : hadL (all t) p = [] <;> simp [h]
    rw [eb]
    repeat walk_at "s"
    refine WX.asgT (xs := [(Str.ofString "rows", _), (Str.ofString "worth", _), (Str.ofString "due", _)]) (by intro x hx; simp only [List.mem_cons, List.not_mem_nil, or_false] at hx; rcases hx with rfl | rfl | rfl <;> with_unfolding_all rfl) ["rows", "worth", "due"] rfl ?_ (by intro _; rfl) (by intro env h; cases env; cases h; with_unfolding_all rfl)
    repeat walk_at "s"
    refine (list_drop_c Y B (rs := all t) (by omega) sh hp).use (by omega) ?_
    repeat walk_at "s"
    refine opK.mk (OpD.ne (lay_encL.shaped (by omega)) (lay_nil.shaped (by omega))) ?_
    rw [eqv_nil]
    have fin : ∀ ρ', ρ' "box" = some .box → ρ' "bits" = some (.d (.int b)) → ρ' "table" = some .tab → ρ' "rows" = some (.d (encL b ((all t).filter fun r => decide (r.1 ≠ p)))) → ρ' "before" = some (.d (looksD b (lookL (all t)))) → ρ' "mark" = some (.d (.int m)) → ρ' "elder" = some (.d (.tuple [encT b t0, encL b (all t0)])) →
        ρ' "prefix" = some (.d (encP b p)) → ρ' "worth" = some (.d .none) → ρ' "last" = some (.d (encL b (all t))) → ρ' "due" = some (.d (.tuple [if hadL (all t) p = [] then .list [] else .list [encP b p], .list []])) → N ρ' μ3 := by
      intro ρ' a1 a2 a3 a4 a5 a6 a7 a8 a9 a10 a11
      refine hN (drop t p) none ρ' μ3 ⟨⟨⟨drop_wf wf, mb3, mt3, a1, a2, a3, by rw [all_drop wf]; exact a4⟩, w1, w0, l0, a5, a6, a7⟩, drop_wf wf, hp, by rw [all_drop wf]; exact Nat.le_succ_of_le (List.length_filter_le _ _), fun a _ => by rw [all_drop wf]; exact turn_drop' ss, a8, a9, a10, ?_⟩
      rw [a11, all_drop wf, come_drop, gone_drop ss]
      by_cases hm : hadL (all t) p = []
      · rw [if_pos hm, if_pos hm]; rfl
      · rw [if_neg hm, if_neg hm]; rfl
    by_cases hm : hadL (all t) p = []
    · rw [decide_eq_true hm]
      repeat walk_at "s"
      refine fin (upd (upd (upd ρ (Str.ofString "due") (V.d (.tuple [.list [], .list []]))) (Str.ofString "worth") (V.d .none)) (Str.ofString "rows") (V.d (encL b ((all t).filter fun r => decide (r.1 ≠ p))))) (by walk_at "p") (by walk_at "p") (by walk_at "p") (by walk_at "p") (by walk_at "p") (by walk_at "p") (by walk_at "p") (by walk_at "p") (by walk_at "p") (by walk_at "p") (by rw [if_pos hm]; walk_at "p")
    · rw [decide_eq_false hm]
      repeat walk_at "s"
      refine fin (upd (upd (upd ρ (Str.ofString "due") (V.d (.tuple [.list [encP b p], .list []]))) (Str.ofString "worth") (V.d .none)) (Str.ofString "rows") (V.d (encL b ((all t).filter fun r => decide (r.1 ≠ p))))) (by walk_at "p") (by walk_at "p") (by walk_at "p") (by walk_at "p") (by walk_at "p") (by walk_at "p") (by walk_at "p") (by walk_at "p") (by walk_at "p") (by walk_at "p") (by rw [if_neg hm]; walk_at "p")
end
section
variable {prog : Program} {w : World} {hb : Heap} {μ : Mut} {k : Nat} {b : Nat} {p q : Pf} {i d a : Addr} {t t0 : Tr} {ns : List Int} {kb m : Nat} {ρ : Str → Option V}
set_option maxHeartbeats 4000000
theorem tail_stmts (Y : Wd (KK w) hb) (B : BP b) (hn : ns.length ≤ 1000) {r : List Stmt} (hr : (lawLoop w).drop 5 = r) {t' : Tr} {wo : Option Int} (L : L4 b a ns i d t t' t0 m kb p wo ρ μ) (hl : (all t).length ≤ 6) (hk : kb ≤ 500) {N : (Str → Option V) → Mut → Prop}
    (hN : ∀ ρ' μ', LT b a ns i d t' t' t0 m (kb + 2) ρ' μ' → N ρ' μ') : WS prog w hb 30 (lawScope w) r ρ μ N fun U _ => U = .d (.bool true) := by
  obtain ⟨⟨⟨wf0, mb, mt, e1, e2, e3, e4⟩, w1, w0, l0, f1, f2, f3⟩, w', hp, ln, tk, g2, g3, g4, g5⟩ := L
  have hs : r = _ := hr.symm.trans (by with_unfolding_all rfl)
  subst hs
  clear hr
  have hh := hgt B w'
  try refine restK.mk ?_
  refine WS.cons (WX.asg ?_)
  repeat walk_at "s"
  refine (looks_c Y B mt w'.short).use (by omega) ?_
  rw [looksD_congr (b := b) (g := lookL (all t')) fun a ha => look_is w' ha]
  repeat walk_at "s"
  refine (changed_rows_c Y B (e := all t) (n := all t') (by omega) (by omega) (all_short w1) (all_short w')).use (by omega) ?_
  repeat walk_at "s"
  have ly : Lay 5 (.tuple [.list ((goneL (all t) (all t')).map (encP b)), encL b (comeL (all t) (all t'))]) := lay_tuple (n := 4) fun x hx => by
    simp only [List.mem_cons, List.not_mem_nil, or_false] at hx
    rcases hx with rfl | rfl
    · exact (lay_map (fun _ => lay_encP) _).more (by omega)
    · exact lay_encL
  refine opK.mk (OpD.neSame ly (by omega)) ?_
  repeat walk_at "s"
  refine (turned_c Y B hp wo (fun a q e => lookL_short (all_short w1) e) tk).use (by omega) ?_
  repeat walk_at "s"
  refine ((prefix_c Y B mb (by omega) hn).more (by omega)).mono ?_
  rintro U μ2 ⟨⟨p2, hp2, rfl⟩, hM⟩
  have mb2 : μ2.box = some (a, ns, ((kb + 2 : Nat) : Int)) := by rw [hM]
  have mt2 : μ2.tab = some (i, d, (b : Int), encT b t') := by rw [hM]; exact mt
  clear hM
  repeat walk_at "s"
  refine (alike_c Y B mt2 w' (by omega) (by omega) hp2).use (by omega) ?_
  repeat walk_at "s"
  exact hN _ _ ⟨⟨w', mb2, mt2, by walk_at "p", by walk_at "p", by walk_at "p", by walk_at "p"⟩, w', w0, l0, by walk_at "p", by walk_at "p", by walk_at "p"⟩
theorem law_s7 (Y : Wd (KK w) hb) (B : BP b) (hn : ns.length ≤ 1000) {st : Stmt} (hst : (lawBody w)[6]? = some st) (L : LT b a ns i d t t t0 m kb ρ μ) (hk : kb ≤ 100) (hl : (all t).length ≤ 2) {N : (Str → Option V) → Mut → Prop}
    (hN : ∀ t t0 kb ρ' μ', LT b a ns i d t t t0 m kb ρ' μ' → (all t).length ≤ 7 → N ρ' μ') : WX prog w hb 30 (lawScope w) st ρ μ N fun U _ => U = .d (.bool true) := by
  have hs : st = _ := (Option.some.inj (hst.symm.trans (by with_unfolding_all rfl)))
  subst hs
  clear hst
  refine WX.for (B := false) (.inl (by with_unfolding_all rfl)) (WI.range Y (by with_unfolding_all rfl) (by with_unfolding_all rfl) ?_)
  repeat walk_at "s"
  refine ⟨by decide, fun j ρ' μ' => ∃ t t0 kb', LT b a ns i d t t t0 m kb' ρ' μ' ∧ kb' ≤ 100 + 10 * j ∧ (all t).length ≤ 2 + j, ⟨t, t0, kb, L, by omega, by omega⟩, ?_, ?_⟩
  · rintro j dd ρ' μ' hd ⟨t, t0, kb', L, hk', hl'⟩
    rw [List.getElem?_map] at hd
    obtain ⟨r', hr, rfl⟩ := Option.map_eq_some_iff.mp hd
    obtain ⟨hr1, hr2⟩ := List.getElem?_eq_some_iff.mp hr
    rw [List.getElem_range] at hr2
    subst hr2
    have hj : j < 5 := by simpa using hr1
    obtain ⟨⟨wf, mb, mt, e1, e2, e3, e4⟩, w1, w0, l0, f1, f2, f3⟩ := L
    try refine restK.mk ?_
    refine WS.cons (law_l0 Y B (by with_unfolding_all rfl) (j := j) ⟨⟨wf, mb, mt, by walk_at "p", by walk_at "p", by walk_at "p", by walk_at "p"⟩, w1, w0, l0, by walk_at "p", by walk_at "p", by walk_at "p"⟩ (by walk_at "p") (by omega) ?_)
    intro t0 ρ1 μ1 L1
    try refine restK.mk ?_
    refine WS.cons (law_l1 Y B hn (by with_unfolding_all rfl) L1 (by omega) ?_)
    intro f p v ρ2 μ2 L2 hp g1 g2 g3 g4
    try refine restK.mk ?_
    refine WS.cons (law_l2 Y B hn (by with_unfolding_all rfl) L2 (by omega) (by omega) hp g1 g2 g3 g4 ?_)
    intro p kb3 ρ3 μ3 L3 hk3 hp g1 g2 g3 g4
    try refine restK.mk ?_
    refine WS.cons (law_l3 Y B (by with_unfolding_all rfl) L3 (by omega) hp g1 g2 g3 g4 ?_)
    intro ρ4 μ4 L4 g1 g2 g3 g4 g5
    try refine restK.mk ?_
    refine WS.cons (law_l4 Y B (by with_unfolding_all rfl) L4 (by omega) hp g1 g2 g3 g4 g5 ?_)
    intro t' wo ρ5 μ5 L5
    try refine restK.mk ?_
    refine tail_stmts Y B hn (by with_unfolding_all rfl) L5 (by omega) (by omega) ?_
    intro ρ6 μ6 L6
    exact ⟨t', t0, kb3 + 2, L6, by omega, by have := L5.ln; omega⟩
  · rintro ρ' μ' ⟨t, t0, kb', L, hk', hl'⟩
    rw [List.length_map, List.length_range] at hl'
    exact hN t t0 kb' ρ' μ' L (by omega)
theorem law_rest (Y : Wd (KK w) hb) (B : BP b) (hn : ns.length ≤ 1000) {r : List Stmt} (hr : (lawBody w).drop 3 = r) (L : LS b a ns i d .nil kb ρ μ) (hk : kb ≤ 10) : WS prog w hb 30 (lawScope w) r ρ μ (fun _ _ => False) fun U _ => U = .d (.bool true) := by
  have hs : r = _ := hr.symm.trans (by with_unfolding_all rfl)
  subst hs
  clear hr
  have h4 := B.hi
  try refine restK.mk ?_
  refine WS.cons (law_s4 Y B hn (by with_unfolding_all rfl) L hk ?_)
  intro t kb ρ μ L hk hl
  obtain ⟨wf, mb, mt, e1, e2, e3, e4⟩ := L
  have hh := hgt B wf
  try refine restK.mk ?_
  refine WS.cons (WX.mono (N := fun ρ' μ' => ∃ m : Nat, ρ' = upd (upd (upd ρ (Str.ofString "elder") (V.d (.tuple [.none, .list []]))) (Str.ofString "mark") (V.d (.int m))) (Str.ofString "before") (V.d (looksD b (lookL (all t)))) ∧ μ'.box = some (a, ns, ((kb + 1 : Nat) : Int)) ∧ μ'.tab = some (i, d, (b : Int), encT b t))
    (WX.asgT (xs := [(Str.ofString "before", _), (Str.ofString "mark", _), (Str.ofString "elder", _)]) (by intro x hx; simp only [List.mem_cons, List.not_mem_nil, or_false] at hx; rcases hx with rfl | rfl | rfl <;> with_unfolding_all rfl) ["before", "mark", "elder"] rfl ?_ (by intro _; rfl) (by intro env h; cases env; cases h; with_unfolding_all rfl)) ?_)
  case refine_1 =>
    repeat walk_at "s"
    refine (looks_c Y B mt wf.short).use (by omega) ?_
    rw [looksD_congr (b := b) (g := lookL (all t)) fun a ha => look_is wf ha]
    repeat walk_at "s"
    refine ((draw_c Y (many := 5) (by decide) mb (by omega) hn).more (by omega)).mono ?_
    rintro U μ1 ⟨⟨m, hm, rfl⟩, hM⟩
    have mb1 : μ1.box = some (a, ns, ((kb + 1 : Nat) : Int)) := by rw [hM]
    have mt1 : μ1.tab = some (i, d, (b : Int), encT b t) := by rw [hM]; exact mt
    clear hM
    repeat walk_at "s"
    exact ⟨_, rfl, mb1, mt1⟩
  rintro ρ1 μ1 ⟨m, rfl, mb1, mt1⟩
  try refine restK.mk ?_
  refine WS.cons (WX.if ?_)
  repeat walk_at "s"
  rw [show PyData.tuple [.int 0, .int 0] = encP b [] from by simp [encP, val, bn]]
  refine (alike_c Y B mt1 wf (by omega) (by omega) (by simp)).use (by omega) ?_
  repeat walk_at "s"
  refine law_s7 Y B hn (m := m) (t0 := .nil) (by with_unfolding_all rfl) ⟨⟨wf, mb1, mt1, by walk_at "p", by walk_at "p", by walk_at "p", by walk_at "p"⟩, wf, trivial, by simp [all], by walk_at "p", by walk_at "p", by walk_at "p"⟩ (by omega) hl ?_
  intro t t0 kb ρ μ L hl
  obtain ⟨⟨wf, mb, mt, e1, e2, e3, e4⟩, w1, w0, l0, f1, f2, f3⟩ := L
  try refine restK.mk ?_
  refine WS.cons (WX.mono (N := fun ρ' μ' => ρ' = upd (upd ρ (Str.ofString "gone_come") (V.d (.tuple [.list ((goneL (all t0) (all t)).map (encP b)), encL b (comeL (all t0) (all t))]))) (Str.ofString "tree") (V.d (encT b t0)) ∧ μ' = μ)
    (WX.asgT (xs := [(Str.ofString "tree", _), (Str.ofString "gone_come", _)]) (by intro x hx; simp only [List.mem_cons, List.not_mem_nil, or_false] at hx; rcases hx with rfl | rfl <;> with_unfolding_all rfl) ["tree", "gone_come"] rfl ?_ (by intro _; rfl) (by intro env h; cases env; cases h; with_unfolding_all rfl)) ?_)
  case refine_1 =>
    repeat walk_at "s"
    refine (changed_rows_c Y B (e := all t0) (n := all t) (by omega) (by omega) (all_short w0) (all_short wf)).use (by omega) ?_
    repeat walk_at "s"
    exact ⟨rfl, rfl⟩
  rintro ρ1 μ1 ⟨rfl, rfl⟩
  try refine restK.mk ?_
  refine WS.cons (law_s9 Y B (by with_unfolding_all rfl) (t := t) (t0 := t0) ⟨wf, mb, mt, by walk_at "p", by walk_at "p", by walk_at "p", by walk_at "p"⟩ w0 hl l0 (by walk_at "p") (by walk_at "p") ?_)
  intro ρ μ L f1 f2
  try refine restK.mk ?_
  refine WS.cons (law_s10 Y B (by with_unfolding_all rfl) L (drops (ps := goneL (all t0) (all t)) w0).1 (fun q hq => all_short wf q (mem_come.mp hq).1) (come_srt (all_srt wf)) f1 f2 ?_)
  intro ρ μ L f1
  rw [last w0 wf] at f1
  obtain ⟨wf, mb, mt, e1, e2, e3, e4⟩ := L
  have hh := hgt B wf
  repeat walk_at "s"
  refine opK.mk (OpD.eqSame (lay_encT t) (by omega)) ?_
  rfl
end
section
variable {prog : Program} {w : World} {hb : Heap} {K : Frag} {μ : Mut} {k : Nat} {X : Addr → Prop} {h h' : Heap} {s : Shared} {env : Env} {ρ : Str → Option V}
theorem ints_rds {X : Addr → Prop} {h : Heap} : ∀ {us : List Value}, (∀ v ∈ us, ∃ i t, v = .int i t) → ∃ ns : List Int, RDs X h us (ns.map .int) ∧ ns.length = us.length
  | [], _ => ⟨[], .nil, rfl⟩
  | v :: us, hu => by
    obtain ⟨i, t, rfl⟩ := hu v (.head _)
    obtain ⟨ns, r, e⟩ := ints_rds fun v hv => hu v (.tail _ hv)
    exact ⟨i :: ns, .cons (.int i t) r, by simp [e]⟩
theorem ints_mem {vs : List Value} {ns : List Int} (hI : IntsAre vs ns) : ∀ v ∈ vs, ∃ i t, v = .int i t := by
  induction hI with
  | nil => intro v hv; cases hv
  | cons n t _ ih =>
    intro v hv
    rcases List.mem_cons.mp hv with rfl | hv
    · exact ⟨_, _, rfl⟩
    · exact ih v hv
theorem pick_mem {items : Array Value} {lo hi st : Option Int} {v : Value} (hv : v ∈ (slicePick items lo hi st).toList) : v ∈ items.toList := by
  unfold slicePick at hv
  simp only [List.toList_toArray] at hv
  obtain ⟨i, _, hi⟩ := List.mem_filterMap.mp hv
  exact Array.mem_toList_iff.mpr (Array.mem_of_getElem? hi)
theorem first_list {A : Around} {Q E : Value → Shared → Prop} {l : Addr} {vs : List Value} {ns : List Int} {fp np cp sp spos pos : Pos} {kk : Nat} {m : Str → Option Value} (Y : Wd K hb) (hkeep : ∀ b o, hb.get? b = some o → s.heap.get? b = some o)
    (hkd : env.scope.kind = .function) (hgl : env.globals = mainGlobals) (hbl : env.builtins = builtinsNs) (hk1 : env.kindOf "script" = some .local) (hk2 : env.kindOf "list" = some .globalImplicit)
    (hf : nsIn K mainGlobals ("list" : Str) = some Option.none) (hns : s.heap.Ns env.locals m) (hm : m "script" = some (.ref l)) (hL : s.heap.IsList l vs.toArray) (hI : IntsAre vs ns) (hz : ns.length ≤ 63)
    (hQ : ∀ l' us n h' tk, (∀ b o, s.heap.get? b = some o → h'.get? b = some o) → s.heap.get? l' = none → h'.get? l' = some { cls := .type "list", data := .seq (List.toArray us) n } → (∀ v ∈ us, ∃ i t, v = .int i t) → us.length ≤ 63 → Q (.ref l') { s with heap := h', toks := tk }) :
    wpAny (model prog w) A (eval (.Call (.Name ("list" : Str) fp) [.Subscript (.Name ("script" : Str) np) (.Slice none (some (.Constant (.int 40) kk cp)) none sp) spos] [] pos) env) Q E s := by
  obtain ⟨p, loose, mg, mb, T⟩ := Y.top
  have lv : vs.length ≤ 63 := by rw [hI.length]; exact hz
  refine wpAny_Call_ofName (Name_function_global hkd hk2 (loadGlobal_builtin (by rw [hgl]; exact T.g.keeps hkeep) (mg_none_of Y.kin T.g hf) (by rw [hbl]; exact T.b.keeps hkeep) ((T.builtins ("list" : Str) (by decide)).trans rfl) ?_))
  refine PyProof.Rows.callWith_type1 ?_ (by rfl) rfl
  refine spliced_cons ?_
  refine Subscript_ (wpAny_Name (wpAny_loadName_local hkd hk1 hns hm ?_))
  refine wpAny_Slice (evalPart_none_step (evalPart_some_step (wpAny_Constant_int (evalPart_none_step ?_))))
  have hsz : vs.toArray.size ≤ sizeLine := by rw [List.size_toArray, sizeLine_eq]; omega
  refine subscriptTail_ops (Heap.IsList.typeIs (s := { s with heap := s.heap.push { cls := .type "slice", data := .fields #[.none, .int 40 s.toks, .none] }, toks := s.toks + 1 }) (hL.push _)) list_getitem_lookup
    (wpAny_getItem_list_slice (s := { s with heap := s.heap.push { cls := .type "slice", data := .fields #[.none, .int 40 s.toks, .none] }, toks := s.toks + 1 }) (hL.push _) (Heap.IsSliceOf.new ..) .none (.int _ _) .none (by simp) ?_ hsz) (ops := [.ref s.heap.objs.size, .ref l]) (by with_unfolding_all rfl) (by intro _; with_unfolding_all rfl)
  refine spliced_nil ?_
  have hps : (slicePick vs.toArray none (some 40) none).toList.length ≤ 63 := by
    have := slicePick_size_le vs.toArray none (some 40) none
    have e2 : vs.toArray.size = vs.length := List.size_toArray ..
    have e3 : (slicePick vs.toArray none (some 40) none).toList.length = (slicePick vs.toArray none (some 40) none).size := Array.length_toList
    omega
  have hpm : ∀ v ∈ (slicePick vs.toArray none (some 40) none).toList, ∃ i t, v = .int i t := fun v hv => ints_mem hI v (by simpa using pick_mem hv)
  generalize hpk : slicePick vs.toArray none (some 40) none = pk at hps hpm
  have k1 : ∀ b o, s.heap.get? b = some o → ((s.heap.push { cls := .type "slice", data := .fields #[.none, .int 40 s.toks, .none] }).push { cls := .type "list", data := .seq pk }).get? b = some o := fun b o e => Heap.get?_push_of_some _ (Heap.get?_push_of_some _ e)
  have e1 : ((s.heap.push { cls := .type "slice", data := .fields #[.none, .int 40 s.toks, .none] }).push { cls := .type "list", data := .seq pk }).get? (s.heap.push { cls := .type "slice", data := .fields #[.none, .int 40 s.toks, .none] }).objs.size = some { cls := .type "list", data := .seq pk } := Heap.get?_push_size _ rfl
  generalize hg : (s.heap.push { cls := .type "slice", data := .fields #[.none, .int 40 s.toks, .none] }).push { cls := .type "list", data := .seq pk } = g at k1 e1
  refine call_list_seq (s := { s with heap := g, toks := s.toks + 1 }) _ (.inl rfl) e1 rfl rfl (fun h' c' k2 e2 => ?_) (by rw [← Array.length_toList, sizeLine_eq]; omega)
  have nw : s.heap.get? g.objs.size = none := by
    cases q : s.heap.get? g.objs.size with
    | none => rfl
    | some o => exact absurd (Heap.lt_size (k1 _ _ q)) (Nat.lt_irrefl _)
  exact hQ g.objs.size pk.toList c' h' _ (fun b o e => k2 b o (k1 b o e)) nw (by simpa using e2) hpm hps
end
section
variable {prog : Program} {w : World} {hb : Heap} {μ : Mut} {k : Nat} {b : Nat} {i d a : Addr} {t : Tr} {ns : List Int} {kb : Nat} {ρ : Str → Option V}
set_option maxHeartbeats 4000000
theorem law_s1 (Y : Wd (KK w) hb) (hn : ns.length ≤ 1000) {st : Stmt} (hst : (lawBody w)[1]? = some st) (hμ : μ.box = some (a, ns, ((0 : Nat) : Int))) (ht : μ.tab = none) (e1 : ρ "box" = some .box) : WX prog w hb 30 (lawScope w) st ρ μ
    (fun ρ' μ' => ∃ b : Nat, BP b ∧ ρ' = upd ρ "bits" (.d (.int b)) ∧ μ'.box = some (a, ns, ((1 : Nat) : Int)) ∧ μ'.tab = none) (fun _ _ => False) := by
  have hs : st = _ := (Option.some.inj (hst.symm.trans (by with_unfolding_all rfl)))
  subst hs
  clear hst
  refine WX.mono (N := fun ρ' μ' => ∃ r : Nat, r < 2 ∧ ρ' = upd ρ "bits" (.d (.int (4 - (r : Int)))) ∧ μ'.box = some (a, ns, ((1 : Nat) : Int)) ∧ μ'.tab = none) (WX.asg ?_) ?_
  · repeat walk_at "s"
    refine ((draw_c Y (many := 2) (by decide) hμ (by omega) hn).more (by omega)).mono ?_
    rintro U μ1 ⟨⟨r, hr, rfl⟩, hM⟩
    have mb1 : μ1.box = some (a, ns, ((1 : Nat) : Int)) := by rw [hM]
    have mt1 : μ1.tab = none := by rw [hM]; exact ht
    exact ⟨_, _, _, rfl, rfl, OpD.sub, r, hr, rfl, mb1, mt1⟩
  · rintro ρ' μ' ⟨r, hr, rfl, h1, h2⟩
    exact ⟨4 - r, ⟨by omega, by omega⟩, by rw [show (4 - (r : Int)) = ((4 - r : Nat) : Int) by omega], h1, h2⟩
end
section
variable {prog : Program} {w : World} {hb : Heap} {K : Frag} {μ : Mut} {k : Nat} {X : Addr → Prop} {h h' : Heap} {s : Shared} {env : Env} {ρ : Str → Option V}
/-- a new table -/
theorem Cs.newTab (C : Cs hb X μ h) (ht : μ.tab = none) {x dx : Addr} {b : Int} (kk : ∀ b o, h.get? b = some o → h'.get? b = some o) (hx : h.get? x = none) (hd : h.get? dx = none) (ne : x ≠ dx)
    (ex : h'.get? x = some ⟨.ref fibC, some dx, .plain, #[]⟩) (ed : ∃ q1 t1 tb q2 t2 n, h'.get? dx = some (dictOf [⟨q1, .str "bits" t1, .int b tb⟩, ⟨q2, .str "tree" t2, .none⟩] n)) :
    Cs hb (plus X dx) { μ with tab := some (x, dx, b, .none) } h' where
  base := fun b o e => kk b o (C.base b o e)
  xs := fun y hy => hy.elim (fun hy => ⟨(C.xs y hy).1, by obtain ⟨o, e⟩ := (C.xs y hy).2; exact ⟨o, kk _ _ e⟩⟩) fun hy => by
    subst hy
    obtain ⟨q1, t1, tb, q2, t2, n, e⟩ := ed
    exact ⟨C.fresh hd, _, e⟩
  mu := by
    have H := (C.mu.plus hd).ext (N := fun _ => False) (.keeps kk) (fun _ z => z.elim) fun _ z => z.elim
    refine ⟨H.box, ?_⟩
    obtain ⟨q1, t1, tb, q2, t2, n, e⟩ := ed
    refine ⟨fun z => z.elim (fun z => C.isLive z hx) ne, .inr rfl, ⟨_, ex⟩, q1, t1, tb, q2, t2, .none, n, e, .none⟩
theorem Fm.newTab (F : Fm X env ρ μ h) (C : Cs hb X μ h) (ht : μ.tab = none) {x dx : Addr} {b : Int} (kk : ∀ b o, h.get? b = some o → h'.get? b = some o) (hd : h.get? dx = none) :
    Fm (Rl.plus X dx) env ρ { μ with tab := some (x, dx, b, .none) } h' := by
  have M' : ∀ y, Mut.M { μ with tab := some (x, dx, b, .none) } y → μ.M y ∨ y = dx := by
    rintro y (⟨q, e⟩ | ⟨i, q, e⟩)
    · exact .inl (.inl ⟨q, e⟩)
    · cases e; exact .inr rfl
  have nX : ¬ X dx := fun z => C.isLive z hd
  refine ⟨F.kind, F.glob, F.blt, ⟨.inl F.loc.1, fun m => (M' _ m).elim F.loc.2 fun e => nX (e ▸ F.loc.1)⟩, fun y c e => ?_, F.cinj, ?_⟩
  · obtain ⟨a, b', cc, o, v, d, e'⟩ := F.cells y c e
    exact ⟨.inl a, fun m => (M' _ m).elim b' fun e => nX (e ▸ a), cc, o, v, kk _ _ d, e'⟩
  · obtain ⟨m, hn, kf⟩ := F.ns
    have up : ∀ v U, RV X h μ v U → RV (Rl.plus X dx) h' { μ with tab := some (x, dx, b, .none) } v U := fun v U r => by
      cases U with
      | d y => exact RD.mono (fun a o n e => ⟨n, kk _ _ e⟩) (RD.plus r hd)
      | box => exact r
      | tab => obtain ⟨a, q, e, _⟩ := r; rw [ht] at e; cases e
    refine ⟨m, hn.keeps kk, fun y U hy => ?_⟩
    rcases kf y U hy with ⟨k1, v, k2, k3⟩ | ⟨k1, c, o, v, k2, k3, k4, k5⟩
    · exact .inl ⟨k1, v, k2, up _ _ k3⟩
    · exact .inr ⟨k1, c, o, v, k2, kk _ _ k3, k4, up _ _ k5⟩
/-- table = FibTree(bits) -/
theorem table_step (Y : Wd (KK w) hb) {A : Around} {b : Int} {Q : Flow → Shared → Prop} {E : Value → Shared → Prop} {g : Heap} {tk : Nat} {p1 p2 p3 p4 p5 : Pos} {rest : List Stmt} (R : Room A 30) (C : Cs hb X μ g) (F : Fm X env ρ μ g) (ht : μ.tab = none)
    (hk0 : env.kindOf "table" = some .local) (hk1 : env.kindOf "FibTree" = some .globalImplicit) (e1 : ρ "bits" = some (.d (.int b)))
    (hs : swapsWith (.Call (.Name ("FibTree" : Str) p2) [.Name ("bits" : Str) p3] [] p4) (some (.Name ("table" : Str) p1)) p5.line env = pure false)
    (hQ : ∀ x dx g' tk', Cs hb (plus X dx) { μ with tab := some (x, dx, b, .none) } g' → Fm (plus X dx) env (upd ρ "table" .tab) { μ with tab := some (x, dx, b, .none) } g' → wpAny (model prog w) A (execs rest env) Q E { s with heap := g', toks := tk' }) :
    wpAny (model prog w) A (execs (.Assign [.Name ("table" : Str) p1] (.Call (.Name ("FibTree" : Str) p2) [.Name ("bits" : Str) p3] [] p4) p5 :: rest) env) Q E { s with heap := g, toks := tk } := by
  refine wpAny_execs_cons (wpAny_Assign_Name ?_ hs)
  obtain ⟨p, loose, mg, mb, T⟩ := Y.top
  refine wpAny_Call_ofName (Name_function_global F.kind hk1 (loadGlobal_global (by rw [F.glob]; exact C.ns T.g) (mg_of Y.kin T.g (v := .ref 212) (by with_unfolding_all rfl)) ?_))
  refine callWith_K Y.kin (by with_unfolding_all rfl) (spliced_cons (wpAny_Name (Fm.load (s := { s with heap := g, toks := tk }) (U := .d (.int b)) F e1 (by decide) fun v rv => spliced_nil ⟨Y.kin.keeps C.base, ?_⟩)))
  obtain ⟨tv, rfl⟩ := RD.int_inv rv
  refine make_tab (s := { s with heap := g, toks := tk }) Y C (R.less (by omega)) fun x dx g7 tk7 fx fd ne kk ex ed => ?_
  have C7 := C.newTab ht kk fx fd ne ex ed
  have F7 := F.newTab (x := x) (b := b) C ht kk fd
  refine F7.store (s := { s with heap := g7, toks := tk7 }) (U := .tab) C7 (.inl hk0) ⟨x, _, rfl, rfl⟩ ?_
  intro g8 tk8 n8 F8
  exact hQ x dx g8 tk8 (C7.nxtS F7 n8) F8
end
section
variable {prog : Program} {w : World} {hb : Heap} {K : Frag} {μ : Mut} {k : Nat} {X : Addr → Prop} {h h' : Heap} {s : Shared} {env : Env} {ρ : Str → Option V}
theorem lookup_in {x : Str} {kd : NameKind} : ∀ (l : List (Str × NameKind)), l.lookup x = some kd → (x, kd) ∈ l
  | (n, k) :: l, h => by
    rw [List.lookup_cons] at h
    by_cases e : x = n
    · subst e; simp at h; subst h; exact .head _
    · have hb' : (x == n) = false := by simpa using e
      rw [hb'] at h
      exact .tail _ (lookup_in l h)
theorem law_cells {x : Str} (h : (lawScope w).names.lookup x = some .cell) : x = "prefix" := by
  have hall : ((lawScope w).names.all fun z => z.2 != .cell || z.1 == ("prefix" : Str)) = true := by with_unfolding_all rfl
  have := List.all_eq_true.mp hall _ (lookup_in _ h)
  simpa using this
set_option maxHeartbeats 4000000
theorem law_run2 (Y : Wd (KK w) hb) {A : Around} {Q : Flow → Shared → Prop} {E : Value → Shared → Prop} {m : Str → Option Value} {c a r l' : Addr} {us : List Value} {n na nr' : Nat} {oc : Obj} {vc : Option Value} {h1 g4 : Heap} {tk tka : Nat} (R : Room A 40) (hsc : env.scope = lawScope w) (hgl : env.globals = mainGlobals) (hbl : env.builtins = builtinsNs)
    (hkd : env.scope.kind = .function) (kof : ∀ x kd, (lawScope w).names.lookup x = some kd → env.kindOf x = some kd) (llive : ∃ o, s.heap.get? env.locals = some o)
    (hns : s.heap.Ns env.locals m) (hcs : env.cells = [(("prefix" : Str), c)]) (hc : s.heap.get? c = some oc) (hcv : oc.data = .cell vc) (hcl : c ≠ env.locals) (hcb : hb.get? c = none) (hlb : hb.get? env.locals = none)
    (keep : ∀ b o, hb.get? b = some o → s.heap.get? b = some o) (k1 : ∀ b o, s.heap.get? b = some o → h1.get? b = some o) (kbase : ∀ b o, hb.get? b = some o → h1.get? b = some o) (k4 : ∀ b o, h1.get? b = some o → g4.get? b = some o)
    (fl : s.heap.get? l' = none) (el : h1.get? l' = some { cls := .type "list", data := .seq (List.toArray us) n }) (hu : ∀ v ∈ us, ∃ i t, v = .int i t) (hul : us.length ≤ 63) (fa1 : h1.get? a = none) (nr : r ≠ a)
    (ab4 : g4.get? a = some { cls := .type "list", data := .seq (List.toArray [.ref l', .int 0 tka]) na }) (ar4 : g4.get? r = some { cls := .type "list", data := .seq (List.toArray []) nr' })
    {st1 st2 : Stmt} {rest : List Stmt} (hbody : (lawBody w).drop 1 = st1 :: st2 :: rest)
    (hQ : ∀ h' tk, (∀ b o, hb.get? b = some o → h'.get? b = some o) → Q (.ret (.bool true)) { s with heap := h', toks := tk }) :
    wpAny (model prog w) A (assignInOrder (([("rows" : Str), ("box" : Str)] : List Str).map fun n => bindName env n) [.ref r, .ref a]) (fun _ s' => wpAny (model prog w) A (execs (st1 :: st2 :: rest) env) Q E s') E { s with heap := g4, toks := tk } := by
  have fa : s.heap.get? a = none := by
    cases q : s.heap.get? a with
    | none => rfl
    | some o => rw [k1 _ _ q] at fa1; cases fa1
  have fab : hb.get? a = none := by
    cases q : hb.get? a with
    | none => rfl
    | some o => rw [keep _ _ q] at fa; cases fa
  have al : a ≠ env.locals := fun q => by obtain ⟨o, e⟩ := llive; rw [← q, fa] at e; cases e
  have ac : a ≠ c := fun q => by rw [← q, fa] at hc; cases hc
  obtain ⟨nss, hnr, hnl⟩ := ints_rds (X := fun z => z = env.locals ∨ z = c ∨ z = a) (h := g4) hu
  have la : l' ≠ a := fun q => by rw [q, fa1] at el; cases el
  have ll : l' ≠ env.locals := fun q => by obtain ⟨o, e⟩ := llive; rw [← q, fl] at e; cases e
  have lc : l' ≠ c := fun q => by rw [← q, fl] at hc; cases hc
  have nrl : ¬ (r = env.locals ∨ r = c ∨ r = a) := by
    rintro (q | q | q)
    · obtain ⟨o, es, ep, e, ed, _⟩ := hns
      have := k4 _ _ (k1 _ _ e)
      rw [← q, ar4] at this
      have := congrArg Obj.data (Option.some.inj this)
      rw [ed] at this; cases this
    · have := k4 _ _ (k1 _ _ hc)
      rw [← q, ar4] at this
      have := congrArg Obj.data (Option.some.inj this)
      rw [hcv] at this; cases this
    · exact nr q
  have C1 : Cs hb (fun z => z = env.locals ∨ z = c ∨ z = a) { box := some (a, nss, ((0 : Nat) : Int)), tab := none } g4 := by
    refine ⟨fun b o e => k4 b o (kbase b o e), ?_, ⟨⟨.inr (.inr rfl), l', tka, _, ab4, RD.list (fun q => q.elim ll fun q => q.elim lc la) (k4 _ _ el) hnr⟩, trivial⟩⟩
    rintro z (rfl | rfl | rfl)
    · obtain ⟨o, e⟩ := llive
      exact ⟨hlb, o, k4 _ _ (k1 _ _ e)⟩
    · exact ⟨hcb, oc, k4 _ _ (k1 _ _ hc)⟩
    · exact ⟨fab, _, ab4⟩
  have M1 : ∀ z, Mut.M { box := some (a, nss, ((0 : Nat) : Int)), tab := none } z → z = a := by
    rintro z (⟨q, e⟩ | ⟨i, q, e⟩)
    · cases e; rfl
    · cases e
  have lk : ∀ x c', env.cells.lookup x = some c' → x = "prefix" ∧ c' = c := fun x c' e => by
    rw [hcs, List.lookup_cons] at e
    by_cases q : x = "prefix"
    · subst q; simp at e; exact ⟨rfl, e.symm⟩
    · have hb' : (x == ("prefix" : Str)) = false := by simpa using q
      rw [hb'] at e; cases e
  have F1 : Fm (fun z => z = env.locals ∨ z = c ∨ z = a) env (fun _ => none) { box := some (a, nss, ((0 : Nat) : Int)), tab := none } g4 := by
    refine ⟨hkd, hgl, hbl, ⟨.inl rfl, fun q => al (M1 _ q).symm⟩, fun x c' e => ?_, ⟨fun x y c' e1 e2 => (lk x c' e1).1.trans (lk y c' e2).1.symm, fun x hx => ?_⟩, m, (hns.keeps k1).keeps k4, fun x U hx => by cases hx⟩
    · obtain ⟨rfl, rfl⟩ := lk x c' e
      exact ⟨.inr (.inl rfl), fun q => ac (M1 _ q).symm, hcl, oc, vc, k4 _ _ (k1 _ _ hc), hcv⟩
    · have : x = "prefix" := law_cells (by rw [← hsc]; exact hx)
      subst this
      exact ⟨c, by rw [hcs]; simp⟩
  refine storeAll (fun x v => bindName env x v) (fun x v Q s hh => wpAny_bindName hh) ["rows", "box"] [.ref r, .ref a] [.d (.list []), .box] (fun _ => none) { s with heap := g4, toks := tk } _ F1 C1 ?_ rfl (.cons (RD.list nrl ar4 .nil) (.cons ⟨a, _, rfl, rfl⟩ .nil)) ?_
  · intro x hx
    simp only [List.mem_cons, List.not_mem_nil, or_false] at hx
    rcases hx with rfl | rfl
    · exact .inl (kof _ _ (by with_unfolding_all rfl))
    · exact .inl (kof _ _ (by with_unfolding_all rfl))
  intro g5 tk5 n5 F5
  have hst1 : (lawBody w)[1]? = some st1 := by
    have := congrArg (fun l => l[0]?) hbody
    rw [List.getElem?_drop] at this; simpa using this
  have hst3 : (lawBody w).drop 3 = rest := by
    have := congrArg (List.drop 2) hbody
    rw [List.drop_drop] at this; simpa using this
  obtain ⟨p1, p2, p3, p4, p5, he2, hs2⟩ : ∃ p1 p2 p3 p4 p5, st2 = .Assign [.Name ("table" : Str) p1] (.Call (.Name ("FibTree" : Str) p2) [.Name ("bits" : Str) p3] [] p4) p5 ∧
      ∀ env : Env, env.scope = lawScope w → swapsWith (.Call (.Name ("FibTree" : Str) p2) [.Name ("bits" : Str) p3] [] p4) (some (.Name ("table" : Str) p1)) p5.line env = pure false :=
    ⟨_, _, _, _, _, Option.some.inj ((show some st2 = (lawBody w)[2]? by
      have := congrArg (fun l => l[1]?) hbody
      rw [List.getElem?_drop] at this; simpa using this.symm).trans (by with_unfolding_all rfl)), by intro env h; cases env; cases h; with_unfolding_all rfl⟩
  subst he2
  have C5 := C1.nxtS F1 n5
  have hn : nss.length ≤ 1000 := by omega
  refine wpAny_execs_cons (law_s1 Y hn (hst1) rfl rfl (by walk_at "p") A env _ { s with heap := g5, toks := tk5 } _ E hsc (R.less (by omega)) C5 F5 ?_ (fun _ _ _ _ _ q => q.elim))
  rintro g6 tk6 ρ6 μ6 ⟨b, B, rfl, hmb, hmt⟩ n6 F6
  have C6 := C5.nxtS F5 n6
  refine table_step Y (R.less (by omega)) C6 F6 hmt (kof _ _ (by with_unfolding_all rfl)) (kof _ _ (by with_unfolding_all rfl)) (by walk_at "p") (hs2 env hsc) ?_
  intro x dx g8 tk8 C8 F8
  have q1 : upd (upd (updAll (fun _ => none) [("rows" : Str), ("box" : Str)] [.d (.list []), .box]) "bits" (.d (.int b))) "table" .tab ("box" : Str) = some V.box := by with_unfolding_all rfl
  have q2 : upd (upd (updAll (fun _ => none) [("rows" : Str), ("box" : Str)] [.d (.list []), .box]) "bits" (.d (.int b))) "table" .tab ("bits" : Str) = some (V.d (.int b)) := by with_unfolding_all rfl
  have q3 : upd (upd (updAll (fun _ => none) [("rows" : Str), ("box" : Str)] [.d (.list []), .box]) "bits" (.d (.int b))) "table" .tab ("table" : Str) = some V.tab := by with_unfolding_all rfl
  have q4 : upd (upd (updAll (fun _ => none) [("rows" : Str), ("box" : Str)] [.d (.list []), .box]) "bits" (.d (.int b))) "table" .tab ("rows" : Str) = some (V.d (encL b (all .nil))) := by with_unfolding_all rfl
  have HR := law_rest (prog := prog) (hb := hb) (μ := { μ6 with tab := some (x, dx, (b : Int), .none) }) (a := a) (ns := nss) (i := x) (d := dx) Y B hn (kb := 1) hst3 ⟨trivial, hmb, rfl, q1, q2, q3, q4⟩ (by omega)
  show wpAny (model prog w) A (execs rest env) Q E { s with heap := g8, toks := tk8 }
  refine HR A env _ { s with heap := g8, toks := tk8 } _ E hsc (R.less (by omega)) C8 F8 (fun _ _ _ _ q => q.elim) ?_
  rintro v g9 tk9 U μ9 rfl n9 r9
  have e9 := RD.bool_inv r9
  subst e9
  exact hQ g9 tk9 (C8.nxtS F8 n9).base
end
section
variable {prog : Program} {w : World} {hb : Heap} {K : Frag} {μ : Mut} {k : Nat} {X : Addr → Prop} {h h' : Heap} {s : Shared} {env : Env} {ρ : Str → Option V}
theorem unpack_two {A : Around} {Q : List Value → Shared → Prop} {E : Value → Shared → Prop} {h1 g3 : Heap} {a r t3 l' : Addr} {tk tka : Nat} {o1 o2 o3 : Obj} (hh : A.handled = none)
    (ak : ∀ b o, h1.get? b = some o → g3.get? b = some o) (ab : g3.get? a = some o1) (ar : g3.get? r = some o2) (a3 : g3.get? t3 = some o3)
    (ho1 : o1 = { cls := .type "list", data := .seq (List.toArray [.ref l', .int 0 tka]) }) (ho2 : o2 = { cls := .type "list", data := .seq (List.toArray []) }) (ho3 : o3 = { cls := .type "tuple", data := .seq (List.toArray [.ref a, .ref r]) }) (fa : h1.get? a = none) (nr : r ≠ a)
    (hQ : ∀ g4 : Heap, (∀ b o, h1.get? b = some o → g4.get? b = some o) → g4.get? a = some { cls := .type "list", data := .seq (List.toArray [.ref l', .int 0 tka]) } → g4.get? r = some { cls := .type "list", data := .seq (List.toArray []) } → Q [.ref a, .ref r] { s with heap := g4, toks := tk }) :
    wpAny (model prog w) A (unpackItems (.ref t3) 2 none) Q E { s with heap := g3, toks := tk } := by
  have ht : g3.IsTuple t3 #[.ref a, .ref r] := ⟨_, a3, by rw [ho3], ⟨_, by rw [ho3]⟩⟩
  refine wpAny_unpackItems_tuple (items := #[.ref a, .ref r]) (Q := Q) (E := E) (s := { s with heap := g3, toks := tk }) hh ht ?_
  intro g4 hx2
  exact hQ g4 (fun b o e => hx2 b o (Nat.ne_of_lt (Heap.lt_size (ak b o e))) (ak b o e))
    ((hx2 _ _ (Nat.ne_of_lt (Heap.lt_size ab)) ab).trans (by rw [ho1])) ((hx2 _ _ (Nat.ne_of_lt (Heap.lt_size ar)) ar).trans (by rw [ho2]))
theorem pair_step {A : Around} {Q : List Value → Shared → Prop} {E : Value → Shared → Prop} {l : Addr} {vs : List Value} {ns : List Int} {fp np cp sp spos pos p1 p2 p3 p4 : Pos} {kk k2 k3 : Nat} {m : Str → Option Value} (Y : Wd K hb) (hkeep : ∀ b o, hb.get? b = some o → s.heap.get? b = some o) (hh : A.handled = none)
    (hkd : env.scope.kind = .function) (hgl : env.globals = mainGlobals) (hbl : env.builtins = builtinsNs) (hk1 : env.kindOf "script" = some .local) (hk2 : env.kindOf "list" = some .globalImplicit)
    (hf : nsIn K mainGlobals ("list" : Str) = some Option.none) (hns : s.heap.Ns env.locals m) (hm : m "script" = some (.ref l)) (hL : s.heap.IsList l vs.toArray) (hI : IntsAre vs ns) (hz : ns.length ≤ 63)
    (hQ : ∀ (l' : Addr) (us : List Value) (n : Nat) (h1 : Heap) (a r : Addr) (na nr' tka : Nat) (g4 : Heap) (tk : Nat), (∀ b o, s.heap.get? b = some o → h1.get? b = some o) → s.heap.get? l' = none → h1.get? l' = some { cls := .type "list", data := .seq (List.toArray us) n } → (∀ v ∈ us, ∃ i t, v = .int i t) → us.length ≤ 63 →
      h1.get? a = none → r ≠ a → (∀ b o, h1.get? b = some o → g4.get? b = some o) → g4.get? a = some { cls := .type "list", data := .seq (List.toArray [.ref l', .int 0 tka]) na } → g4.get? r = some { cls := .type "list", data := .seq (List.toArray []) nr' } →
      Q [.ref a, .ref r] { s with heap := g4, toks := tk }) :
    wpAny (model prog w) A (eval (.Tuple [.List [.Call (.Name ("list" : Str) fp) [.Subscript (.Name ("script" : Str) np) (.Slice none (some (.Constant (.int 40) kk cp)) none sp) spos] [] pos, .Constant (.int 0) k2 p1] p2, .List [] p3] k3 p4) env)
      (fun v s₁ => wpAny (model prog w) A (unpackItems v 2 none) Q E s₁) E s := by
  refine Tuple_ ?_
  refine spliced_cons (List_ (spliced_cons ?_))
  refine first_list Y hkeep hkd hgl hbl hk1 hk2 hf hns hm hL hI hz ?_
  intro l' us n h1 tk1 k1 fl el hu hul
  refine spliced_cons (wpAny_Constant_int (k := 0) (pos := ⟨0, 0, 0, 0⟩) (spliced_nil (wpAny_newObj_type ?_ (Nat.le_of_ble_eq_true rfl))))
  refine spliced_cons (List_ (spliced_nil (wpAny_newObj_type ?_ (Nat.zero_le _))))
  refine spliced_nil (wpAny_newObj_type ?_ (Nat.le_of_ble_eq_true rfl))
  dsimp only
  obtain ⟨o1, ho1⟩ : ∃ o : Obj, o = { cls := .type "list", data := .seq (List.toArray [.ref l', .int 0 tk1]) } := ⟨_, rfl⟩
  obtain ⟨o2, ho2⟩ : ∃ o : Obj, o = { cls := .type "list", data := .seq (List.toArray []) } := ⟨_, rfl⟩
  obtain ⟨o3, ho3⟩ : ∃ o : Obj, o = { cls := .type "tuple", data := .seq (List.toArray [.ref h1.objs.size, .ref (h1.push o1).objs.size]) } := ⟨_, rfl⟩
  have ak : ∀ b o, h1.get? b = some o → (((h1.push o1).push o2).push o3).get? b = some o := fun b o e => Heap.get?_push_of_some _ (Heap.get?_push_of_some _ (Heap.get?_push_of_some _ e))
  have ab : (((h1.push o1).push o2).push o3).get? h1.objs.size = some o1 := Heap.get?_push_of_some _ (Heap.get?_push_of_some _ (Heap.get?_push_size _ (by subst ho1; rfl)))
  have ar : (((h1.push o1).push o2).push o3).get? (h1.push o1).objs.size = some o2 := Heap.get?_push_of_some _ (Heap.get?_push_size _ (by subst ho2; rfl))
  have a3 : (((h1.push o1).push o2).push o3).get? ((h1.push o1).push o2).objs.size = some o3 := Heap.get?_push_size _ (by subst ho3; rfl)
  have nr : (h1.push o1).objs.size ≠ h1.objs.size := by rw [Heap.size_push]; exact Nat.succ_ne_self _
  have key := unpack_two (prog := prog) (w := w) (Q := Q) (E := E) (s := s) (tk := tk1 + 1) hh ak ab ar a3 ho1 ho2 ho3 (newGet h1) nr (fun g4 k4 ab4 ar4 => hQ l' us n h1 _ _ _ _ tk1 g4 _ k1 fl el hu hul (newGet h1) nr k4 ab4 ar4)
  subst ho1 ho2 ho3
  exact key
set_option maxHeartbeats 4000000
theorem law_run (Y : Wd (KK w) hb) {A : Around} {Q : Flow → Shared → Prop} {E : Value → Shared → Prop} {m : Str → Option Value} {l c : Addr} {vs : List Value} {ns : List Int} {oc : Obj} {vc : Option Value} (R : Room A 40) (hsc : env.scope = lawScope w) (hgl : env.globals = mainGlobals) (hbl : env.builtins = builtinsNs)
    (hns : s.heap.Ns env.locals m) (hm : m "script" = some (.ref l)) (hcs : env.cells = [(("prefix" : Str), c)]) (hc : s.heap.get? c = some oc) (hcv : oc.data = .cell vc) (hcl : c ≠ env.locals) (hcb : hb.get? c = none) (hlb : hb.get? env.locals = none)
    (keep : ∀ b o, hb.get? b = some o → s.heap.get? b = some o) (hL : hb.IsList l vs.toArray) (hI : IntsAre vs ns) (hz : ns.length ≤ 63)
    (hQ : ∀ h' tk, (∀ b o, hb.get? b = some o → h'.get? b = some o) → Q (.ret (.bool true)) { s with heap := h', toks := tk }) :
    wpAny (model prog w) A (execs (lawBody w) env) Q E s := by
  have hkd : env.scope.kind = .function := by rw [hsc]; with_unfolding_all rfl
  have kof : ∀ x kd, (lawScope w).names.lookup x = some kd → env.kindOf x = some kd := fun x kd e => by rw [← e, ← hsc]; rfl
  obtain ⟨body, hbody⟩ : ∃ body, lawBody w = body := ⟨_, rfl⟩
  rw [hbody]
  have hs : body = _ :: _ :: _ :: _ := hbody.symm.trans (by with_unfolding_all rfl)
  subst hs
  have llive : ∃ o, s.heap.get? env.locals = some o := by obtain ⟨o, _, _, e, _⟩ := hns; exact ⟨o, e⟩
  refine wpAny_execs_cons (Assign_Tuple_swapped (names := ["box", "rows"]) ?_ (by rfl) (by clear hQ kof hkd hns hc hcv hcl hcb hlb keep hm hcs; cases env; cases hsc; with_unfolding_all rfl))
  refine pair_step Y keep R.handled hkd hgl hbl (kof _ _ (by with_unfolding_all rfl)) (kof _ _ (by with_unfolding_all rfl)) (by with_unfolding_all rfl) hns hm (let ⟨o, e, r⟩ := hL; ⟨o, keep _ _ e, r⟩) hI hz ?_
  intro l' us n h1 a r na nr' tka g4 tk k1 fl el hu hul fa nr k4 ab4 ar4
  exact law_run2 Y R hsc hgl hbl hkd kof llive hns hcs hc hcv hcl hcb hlb keep k1 (fun b o e => k1 b o (keep b o e)) k4 fl el hu hul fa nr ab4 ar4 (by with_unfolding_all rfl) hQ
end
section
variable {prog : Program} {w : World}
theorem goodW_true {c : ClaimW} {cl : Str → Option Addr} {mean : ExcName → Option Value} {args : List WData} {s₁ s' : Shared} (keep : ∀ b o, s₁.heap.get? b = some o → s'.heap.get? b = some o) (hg : s'.gens = #[]) (hn : ∀ cls, c.raises args cls = false)
    (hp : c.post args (.bool true) args = true) (hos : s'.os = s₁.os) : GoodW c cl mean args s₁ (.ok (.ret (.bool true))) s' :=
  ⟨.inl ⟨.bool true, .bool true, _, rfl, hn, .bool true, hp, unshared_nil⟩, keep, hos, hg⟩
theorem room_caller (env : Env) : Room (callerA.deeper env) 40 := ⟨rfl, (show callerA.depth + 1 + 40 < 900 by decide +kernel), (show callerA.units + 3 + 8 * 40 < 9000 by decide +kernel)⟩
theorem law_fin {A : Around} {Q : Flow → Shared → Prop} {E : Value → Shared → Prop} {s₁ : Shared} {h₁ : Heap} {tk : Nat} {env : Env} {body : List Stmt} {m : Str → Option Value} {L l c : Addr} {vs : List Value} {ns : List Int} {oc : Obj} {vc : Option Value}
    {p : Program} {loose : List Str} {mean : ExcName → Option Value} {mg mb : Str → Option Value} (T : Top p loose mean mg mb s₁.heap) (KX : (KK w).In s₁.heap) (F : Fr s₁.heap L h₁ m) (N : News s₁.heap L h₁ [(c, oc)]) (hcv : oc.data = .cell vc)
    (hL : s₁.heap.IsList l vs.toArray) (hI : IntsAre vs ns) (hz : ns.length ≤ 63) (hb : body = lawBody w) (hloc : env.locals = L) (hm : m "script" = some (.ref l)) (hsc : env.scope = lawScope w) (hgl : env.globals = mainGlobals) (hbl : env.builtins = builtinsNs) (hcs : env.cells = [(("prefix" : Str), c)]) (R : Room A 40)
    (hQ : ∀ h' tk', (∀ b o, s₁.heap.get? b = some o → h'.get? b = some o) → Q (.ret (.bool true)) { heap := h', gens := s₁.gens, drawn := s₁.drawn, toks := tk', os := s₁.os }) :
    wpAny (model prog w) A (execs body env) Q E { heap := h₁, gens := s₁.gens, drawn := s₁.drawn, toks := tk, os := s₁.os } := by
  subst hb hloc
  have c0 : c ≠ env.locals := (N _ (.head _)).2.1
  have cg : h₁.get? c = some oc := (N _ (.head _)).1
  have cn : s₁.heap.get? c = none := (N _ (.head _)).2.2
  exact law_run (s := { heap := h₁, gens := s₁.gens, drawn := s₁.drawn, toks := tk, os := s₁.os }) (hb := s₁.heap) ⟨KX, _, _, _, _, topRead_of T⟩ R hsc hgl hbl F.ns hm hcs cg hcv c0 cn (Heap.get?_none_of_le F.above) F.keep hL hI hz hQ
end
end Rl
set_option maxRecDepth 100000 in
set_option maxHeartbeats 8000000 in
theorem PySem.Challenge.cw_sj0178_01_holds : PySem.Challenge.rw_sj0178_01.Holds := by
  refine Rl.head ?_
  k_go0
  rename_i w s₀ s₁ mg mb G Y fa o pm doc ho hg KX X V GL T B TE TW a1 o1 M a2 a3 hcd is hs hlay0 hL1 hr1 hl2 l4 l5 l vs l1 hL ra w1 r0 hI hr hcond hc2 K0 hD h₁ tk₁ F oc hcv N0 X0
  refine Rl.law_fin T KX F N0 hcv hL hI (by omega) (by with_unfolding_all rfl) (by with_unfolding_all rfl) (by with_unfolding_all rfl) (by with_unfolding_all rfl) (by with_unfolding_all rfl) (by with_unfolding_all rfl) (by with_unfolding_all rfl) (Rl.room_caller _) ?_
  intro h' tk' kp
  refine Rl.goodW_true kp hg (raisesW_false ?_) ?_ rfl
  · wrow_none_raised
  · kc_post
