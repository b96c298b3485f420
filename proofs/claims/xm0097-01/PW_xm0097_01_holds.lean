import PyProof.Rows.All
import Wide.All
import OpenK.AllK
import Wide.FinOn
import Lean
import PySem.Challenge.RW_xm0097_01
set_option Elab.async false
set_option maxRecDepth 100000
set_option linter.unusedVariables false
set_option linter.unusedSimpArgs false
set_option genSizeOf false
namespace Mine
open PySem PySem.W PyProof.Rows PySem.Calls
abbrev rr0 : RowW := OpenRow.toRowW (OpenLaw.row PySem.Challenge.rw_xm0097_01)
noncomputable def vw0 : Program := view PySem.Challenge.pw_xm0097_01 [1, 3, 4, 6, 7, 8, 9, 10, 11, 12, 13, 14, 16, 17, 19, 20, 21, 22, 24, 25, 26, 28, 29, 30, 31, 32, 33, 34, 35, 36, 38, 39, 40, 41, 42, 43, 44, 46, 48, 49, 50, 51, 52, 53, 54, 55, 56, 57, 58, 60, 61, 62, 63, 64, 65]
noncomputable def bareO (o : Obj) : Bool := o.dict.isNone && o.slots.isEmpty
noncomputable def refAt (s : Shared) : Value → Bool
  | .ref a => (s.heap.get? a).any bareO
  | _ => false
noncomputable def tupAt (s : Shared) (x : Str) : Bool := (s.heap.nsMap mainGlobals x).any (refAt s)
noncomputable def xt0 (s : Shared) : Bool := (tupAt s (Str.ofString "R0") && tupAt s (Str.ofString "R1")) && recOk [] s
noncomputable def BareAt (mg : Str → Option Value) (h : Heap) (x : Str) : Prop := ∃ a o, mg x = some (.ref a) ∧ h.get? a = some o ∧ bareO o = true
noncomputable def XR (mg : Str → Option Value) (h : Heap) : Prop := BareAt mg h (Str.ofString "R0") ∧ BareAt mg h (Str.ofString "R1")
theorem tupAt_spec {s : Shared} {x : Str} (e : tupAt s x = true) : BareAt (s.heap.nsMap mainGlobals) s.heap x := by
  unfold tupAt at e
  obtain ⟨v, h1, h2⟩ := Option.any_eq_true _ _ |>.mp e
  cases v with
  | ref a =>
    obtain ⟨o, h3, h4⟩ := Option.any_eq_true _ _ |>.mp h2
    exact ⟨a, o, h1, h3, h4⟩
  | _ => cases h2
theorem xt0_spec {s : Shared} (e : xt0 s = true) : XR (s.heap.nsMap mainGlobals) s.heap :=
  ⟨tupAt_spec (Bool.and_eq_true_iff.mp (Bool.and_eq_true_iff.mp e).1).1, tupAt_spec (Bool.and_eq_true_iff.mp (Bool.and_eq_true_iff.mp e).1).2⟩
theorem BareAt.keeps {mg : Str → Option Value} {h h' : Heap} {x : Str} (b : BareAt mg h x) (k : ∀ b o, h.get? b = some o → h'.get? b = some o) : BareAt mg h' x :=
  let ⟨a, o, h1, h2, h3⟩ := b; ⟨a, o, h1, k _ _ h2, h3⟩
theorem boot0 : opening PySem.Challenge.pw_xm0097_01 = plainProg PySem.Challenge.pw_xm0097_01.main.scope.names := by kernel_rfl!
theorem fence0 (s : Shared) : fenceModules? PySem.Challenge.pw_xm0097_01 s = some s := by kernel_rfl!
noncomputable def topRunT (tb : String → Option Builtin) (p : Program) (w : World) (n₀ : Nat) (ann : Option Value) : Nat → SharedT → Thread → Option SharedT
  | 0, _, _ => none
  | n + 1, s, t => match through t with
    | true => some s
    | false => match stepOk n₀ ann t with
      | false => none
      | true => match stepT (denote tb) p w s t with
        | some (s', t') => topRunT tb p w n₀ ann n s' t'
        | none => none
theorem topRun_of {tb : String → Option Builtin} {p : Program} {w : World} {n₀ : Nat} {ann : Option Value} : ∀ {n : Nat} {s s' : SharedT} {t : Thread}, topRunT tb p w n₀ ann n s t = some s' → topRun tb p w n₀ ann n s.abs t = some s'.abs
  | 0, _, _, _, h => by cases h
  | n + 1, s, s', t, h => by
    unfold topRunT at h
    unfold topRun
    cases he : through t with
    | true => rw [he] at h; cases h; rfl
    | false =>
      rw [he] at h
      cases hk : stepOk n₀ ann t with
      | false => rw [hk] at h; cases h
      | true =>
        rw [hk] at h
        cases hs : stepT (denote tb) p w s t with
        | none => rw [hs] at h; cases h
        | some r => obtain ⟨s₂, t₂⟩ := r; rw [hs] at h; rw [stepT_spec hs]; exact topRun_of h
noncomputable def treeOf (l : List Obj) : BT := (l.foldl (fun (x : BT × Nat) o => (x.1.ins x.2 o, x.2 + 1)) (BT.nil, 0)).1
noncomputable def bootT (H : Heap) (d : Drawn) (k : Nat) (os : OsState) : SharedT := ⟨treeOf H.objs.toList, H.objs.size, H.life, Array.mk [], d, k, os⟩
theorem bootT_abs (w : World) (os : OsState) : (bootT (boot_heap w.params) boot_drawn boot_toks os).abs = ⟨boot_heap w.params, Array.mk [], boot_drawn, boot_toks, os⟩ := by kernel_rfl!
noncomputable def runT (H : Heap) (d : Drawn) (k : Nat) (p : Program) (w : World) (os : OsState) : Option SharedT := topRunT treeTable p w H.objs.size (H.nsMap mainGlobals "__annotations__") 3888 (bootT H d k os) (topStub p)
noncomputable def look0 (H : Heap) (p : Program) (s : SharedT) : Bool := staticsOk (importedModules p.main.body) H s.abs.heap && namesBound p s.abs.heap && gensDone s.abs && laidKept H s.abs.heap
noncomputable def seen0 (p q : Program) (s : SharedT) := openSeen q [] (importedModules p.main.body) xt0 true s.abs
theorem ns0 (w : World) : ((boot_heap w.params).isNs mainGlobals && (Array.mk [] : Array GenState).size == 0) = true := by kernel_rfl!
noncomputable def always {α β γ : Type} (_ : α) (_ : β) (_ : γ) : Bool := true
theorem laid0 : always runT look0 seen0 = true := by k_qdec
noncomputable def partA {α β : Type} (x : α × β) : α := match x with | (a, _) => a
noncomputable def partB {α β γ δ ε ζ : Type} (x : α × β × γ × δ × ε × ζ) : β × γ × δ × ε := match x with | (_, b, c, d, e, _) => (b, c, d, e)
noncomputable def partC {α β γ δ ε ζ : Type} (x : α × β × γ × δ × ε × ζ) : ζ := match x with | (_, _, _, _, _, f) => f
set_option maxHeartbeats 0 in
theorem topA : ∀ (w : World) (os : OsState), (PySem.W.Fast.tw1274714115002603182 (boot_heap w.params) boot_drawn boot_toks PySem.Challenge.pw_xm0097_01 w os).map (PySem.W.Fast.tw3058511608840590595 (boot_heap w.params) PySem.Challenge.pw_xm0097_01) = some true := fun w os => by
  kernel_rfl!
set_option maxHeartbeats 0 in
theorem topB : ∀ (w : World) (os : OsState), (PySem.W.Fast.tw1274714115002603182 (boot_heap w.params) boot_drawn boot_toks PySem.Challenge.pw_xm0097_01 w os).map (fun s => partA (PySem.W.Fast.tw16164479422392802310 PySem.Challenge.pw_xm0097_01 vw0 s)) = some (PyProof.Rows.expectedOf vw0) := fun w os => by
  kernel_rfl!
set_option maxHeartbeats 0 in
theorem topC : ∀ (w : World) (os : OsState), (PySem.W.Fast.tw1274714115002603182 (boot_heap w.params) boot_drawn boot_toks PySem.Challenge.pw_xm0097_01 w os).map (fun s => partB (PySem.W.Fast.tw16164479422392802310 PySem.Challenge.pw_xm0097_01 vw0 s)) = some (bltViewBooted, true, true, pinGoodD (drecsOf vw0)) := fun w os => by
  kernel_rfl!
set_option maxHeartbeats 0 in
theorem topD : ∀ (w : World) (os : OsState), (PySem.W.Fast.tw1274714115002603182 (boot_heap w.params) boot_drawn boot_toks PySem.Challenge.pw_xm0097_01 w os).map (fun s => partC (PySem.W.Fast.tw16164479422392802310 PySem.Challenge.pw_xm0097_01 vw0 s)) = some (plainGoodE vw0 (looseW vw0 []), plainGoodD vw0 [], wideGood vw0, clsGoodW vw0 []) := fun w os => by
  kernel_rfl!
theorem run_eq : runT = PySem.W.Fast.tw1274714115002603182 := PySem.W.Fast.te1274714115002603182
theorem look_eq : look0 = PySem.W.Fast.tw3058511608840590595 := PySem.W.Fast.te3058511608840590595
theorem seen_eq : seen0 = PySem.W.Fast.tw16164479422392802310 := PySem.W.Fast.te16164479422392802310
theorem parts {α β γ δ ε ζ : Type} {x : α × β × γ × δ × ε × ζ} {a : α} {b : β} {c : γ} {d : δ} {e : ε} {f : ζ} (h1 : partA x = a) (h2 : partB x = (b, c, d, e)) (h3 : partC x = f) : x = (a, b, c, d, e, f) := by
  obtain ⟨a', b', c', d', e', f'⟩ := x
  cases h1
  cases h2
  cases h3
  rfl
theorem top0 (w : World) (os : OsState) : ∃ r, runT (boot_heap w.params) boot_drawn boot_toks PySem.Challenge.pw_xm0097_01 w os = some r ∧ look0 (boot_heap w.params) PySem.Challenge.pw_xm0097_01 r = true ∧ seen0 PySem.Challenge.pw_xm0097_01 vw0 r = openGood vw0 [] := by
  obtain ⟨r, hr, h1⟩ := Option.map_eq_some_iff.mp (topA w os)
  have h2 := topB w os
  have h3 := topC w os
  have h4 := topD w os
  rw [hr] at h2 h3 h4
  refine ⟨r, by rw [run_eq]; exact hr, by rw [look_eq]; exact h1, ?_⟩
  rw [seen_eq]
  exact parts (Option.some.inj h2) (Option.some.inj h3) (Option.some.inj h4)
theorem left0 : LeftO PySem.Challenge.pw_xm0097_01 vw0 [] xt0 (Hook.obs Hook.none) (Hook.val Hook.none) 3888 := fun w => by
  obtain ⟨s, hs, hv⟩ := Option.map_eq_some_iff.mp (boot_open (p := PySem.Challenge.pw_xm0097_01) (N := 3888) boot0 rfl fence0 w)
  obtain ⟨h, g, d, t, os⟩ := s
  simp only [Prod.mk.injEq] at hv
  obtain ⟨rfl, rfl, rfl, rfl⟩ := hv
  obtain ⟨r, hr, l1, l2⟩ := top0 w os
  have run := topRun_of hr
  rw [bootT_abs] at run
  have e : topFrom treeTable PySem.Challenge.pw_xm0097_01 w 3888 ⟨boot_heap w.params, Array.mk [], boot_drawn, boot_toks, os⟩ = some r.abs := by
    unfold topFrom
    dsimp only
    rw [ns0, run]
    show (match staticsOk (importedModules PySem.Challenge.pw_xm0097_01.main.body) (boot_heap w.params) r.abs.heap && namesBound PySem.Challenge.pw_xm0097_01 r.abs.heap && gensDone r.abs && laidKept (boot_heap w.params) r.abs.heap with | true => some r.abs | false => none) = _
    unfold look0 at l1
    rw [l1]
  unfold openEnds
  rw [hs, Option.bind_some, e]
  exact congrArg (fun x => some (x, ())) l2
end Mine
namespace Mine
open PySem PySem.W PyProof.Rows PySem.Calls
abbrev P : Program := PySem.Challenge.pw_xm0097_01
inductive AV where
  | dat (d : PyData)
  | own (a : Addr)
abbrev Om := Addr → Option (List AV)
mutual
inductive Den (om : Om) (h : Heap) : Value → PyData → Prop
  | none : Den om h .none .none
  | bool (b) : Den om h (.bool b) (.bool b)
  | int (i t) : Den om h (.int i t) (.int i)
  | list {a vs n xs} : om a = Option.none → IsL h a vs n → DenL om h vs.toList xs → Den om h (.ref a) (.list xs)
  | tuple {a vs n xs} : om a = Option.none → IsT h a vs n → DenL om h vs.toList xs → Den om h (.ref a) (.tuple xs)
inductive DenL (om : Om) (h : Heap) : List Value → List PyData → Prop
  | nil : DenL om h [] []
  | cons {v vs d ds} : Den om h v d → DenL om h vs ds → DenL om h (v :: vs) (d :: ds)
end
noncomputable def AVR (om : Om) (h : Heap) (v : Value) : AV → Prop
  | .dat d => Den om h v d
  | .own a => v = .ref a
inductive AVL (om : Om) (h : Heap) : List Value → List AV → Prop
  | nil : AVL om h [] []
  | cons {v vs d ds} : AVR om h v d → AVL om h vs ds → AVL om h (v :: vs) (d :: ds)
structure Ef (W : Addr → Prop) (om : Om) (h : Heap) (om' : Om) (h' : Heap) : Prop where
  keep : ∀ b o, ¬ W b → om b = none → h.get? b = some o → h'.get? b = some o
  stay : ∀ b, h'.get? b = none → h.get? b = none
  fresh : ∀ b, om' b ≠ none → om b ≠ none ∨ h.get? b = none
noncomputable def NoW : Addr → Prop := fun _ => False
abbrev Step (om : Om) (h : Heap) (om' : Om) (h' : Heap) : Prop := Ef NoW om h om' h'
theorem Ef.refl {W om h} : Ef W om h om h := ⟨fun _ _ _ _ e => e, fun _ e => e, fun _ e => .inl e⟩
theorem Ef.still {W om h om1 h1} (x : Ef W om h om1 h1) {b : Addr} {o : Obj} (e1 : om b = none) (e2 : h.get? b = some o) : om1 b = none := by
  cases e : om1 b with
  | none => rfl
  | some l =>
    rcases x.fresh b (by rw [e]; exact Option.some_ne_none _) with q | q
    · exact absurd e1 q
    · rw [q] at e2; cases e2
theorem Ef.trans {W om h om1 h1 om2 h2} (x : Ef W om h om1 h1) (y : Ef W om1 h1 om2 h2) : Ef W om h om2 h2 :=
  ⟨fun b o hw e1 e2 => y.keep b o hw (x.still e1 e2) (x.keep b o hw e1 e2), fun b e => x.stay b (y.stay b e), fun b e => (y.fresh b e).elim (x.fresh b) fun q => .inr (x.stay b q)⟩
theorem Ef.weak {W W' : Addr → Prop} {om h om1 h1} (x : Ef W om h om1 h1) (hw : ∀ b, W b → W' b) : Ef W' om h om1 h1 :=
  ⟨fun b o n => x.keep b o fun q => n (hw b q), x.stay, x.fresh⟩
theorem Step.weak {W : Addr → Prop} {om h om1 h1} (x : Step om h om1 h1) : Ef W om h om1 h1 := Ef.weak x fun _ f => f.elim
noncomputable def Ext (h h' : Heap) : Prop := ∀ b o, h.get? b = some o → h'.get? b = some o
theorem Ext.refl {h} : Ext h h := fun _ _ e => e
theorem Ext.trans {h h1 h2} (x : Ext h h1) (y : Ext h1 h2) : Ext h h2 := fun b o e => y b o (x b o e)
theorem Ext.push (h : Heap) (o : Obj) : Ext h (h.push o) := fun _ _ e => Heap.get?_push_of_some _ e
theorem Ext.step {h h' om} (x : Ext h h') : Step om h om h' :=
  ⟨fun b o _ _ e => x b o e, fun b e => (by
    cases q : h.get? b with
    | none => rfl
    | some o => rw [x b o q] at e; cases e), fun _ e => .inl e⟩
section
variable {W : Addr → Prop} {om om' : Om} {h h' : Heap}
mutual
theorem Den.mono (hk : ∀ b o, om b = none → (∃ vs n, o.data = .seq vs n) → h.get? b = some o → om' b = none ∧ h'.get? b = some o) : ∀ {v d}, Den om h v d → Den om' h' v d
  | _, _, .none => .none
  | _, _, .bool b => .bool b
  | _, _, .int i t => .int i t
  | _, _, .list ha hl hd => .list (hk _ _ ha ⟨_, _, rfl⟩ hl).1 (hk _ _ ha ⟨_, _, rfl⟩ hl).2 (DenL.mono hk hd)
  | _, _, .tuple ha hl hd => .tuple (hk _ _ ha ⟨_, _, rfl⟩ hl).1 (hk _ _ ha ⟨_, _, rfl⟩ hl).2 (DenL.mono hk hd)
theorem DenL.mono (hk : ∀ b o, om b = none → (∃ vs n, o.data = .seq vs n) → h.get? b = some o → om' b = none ∧ h'.get? b = some o) : ∀ {vs ds}, DenL om h vs ds → DenL om' h' vs ds
  | _, _, .nil => .nil
  | _, _, .cons x y => .cons (Den.mono hk x) (DenL.mono hk y)
end
noncomputable def NoSeq (W : Addr → Prop) (h : Heap) : Prop := ∀ b o, W b → h.get? b = some o → ∀ vs n, o.data ≠ .seq vs n
theorem NoSeq.no : NoSeq NoW h := fun _ _ f => f.elim
theorem Ef.den (x : Ef W om h om' h') (hW : NoSeq W h) {v d} (y : Den om h v d) : Den om' h' v d :=
  y.mono fun b o e1 ec e2 => ⟨x.still e1 e2, x.keep b o (fun w => by obtain ⟨vs, n, q⟩ := ec; exact hW b o w e2 vs n q) e1 e2⟩
theorem Ef.denL (x : Ef W om h om' h') (hW : NoSeq W h) {v d} (y : DenL om h v d) : DenL om' h' v d :=
  y.mono fun b o e1 ec e2 => ⟨x.still e1 e2, x.keep b o (fun w => by obtain ⟨vs, n, q⟩ := ec; exact hW b o w e2 vs n q) e1 e2⟩
theorem Ef.avr (x : Ef W om h om' h') (hW : NoSeq W h) {v a} (y : AVR om h v a) : AVR om' h' v a := by
  cases a with
  | dat d => exact x.den hW y
  | own a => exact y
theorem Ef.avl (x : Ef W om h om' h') (hW : NoSeq W h) : ∀ {vs as}, AVL om h vs as → AVL om' h' vs as
  | _, _, .nil => .nil
  | _, _, .cons y z => .cons (x.avr hW y) (x.avl hW z)
theorem Step.avr (x : Step om h om' h') {v a} (y : AVR om h v a) : AVR om' h' v a := Ef.avr x NoSeq.no y
theorem Step.avl (x : Step om h om' h') {vs as} (y : AVL om h vs as) : AVL om' h' vs as := Ef.avl x NoSeq.no y
theorem Step.den (x : Step om h om' h') {v a} (y : Den om h v a) : Den om' h' v a := Ef.den x NoSeq.no y
theorem Step.denL (x : Step om h om' h') {v a} (y : DenL om h v a) : DenL om' h' v a := Ef.denL x NoSeq.no y
end
theorem AVL.length {om h} : ∀ {vs as}, AVL om h vs as → vs.length = as.length
  | _, _, .nil => rfl
  | _, _, .cons _ y => by simp [AVL.length y]
theorem AVL.get {om h} : ∀ {vs as}, AVL om h vs as → ∀ {i : Nat} {a}, as[i]? = some a → ∃ v, vs[i]? = some v ∧ AVR om h v a
  | _, _, .cons x y, 0, a, e => by simp at e; subst e; exact ⟨_, rfl, x⟩
  | _, _, .cons x y, i + 1, a, e => by simp at e ⊢; exact AVL.get y e
theorem AVL.get' {om h} : ∀ {vs as}, AVL om h vs as → ∀ {i : Nat} {v}, vs[i]? = some v → ∃ a, as[i]? = some a ∧ AVR om h v a
  | _, _, .cons x y, 0, a, e => by simp at e; subst e; exact ⟨_, rfl, x⟩
  | _, _, .cons x y, i + 1, a, e => by simp at e ⊢; exact AVL.get' y e
theorem AVL.append {om h} : ∀ {vs as ws bs}, AVL om h vs as → AVL om h ws bs → AVL om h (vs ++ ws) (as ++ bs)
  | _, _, _, _, .nil, y => y
  | _, _, _, _, .cons x z, y => .cons x (AVL.append z y)
theorem AVL.set {om h} {w b} (hw : AVR om h w b) : ∀ {vs as}, AVL om h vs as → ∀ (i : Nat), AVL om h (vs.set i w) (as.set i b)
  | _, _, .nil, i => by simpa using .nil
  | _, _, .cons x y, 0 => .cons hw y
  | _, _, .cons x y, i + 1 => .cons x (AVL.set hw y i)
theorem DenL.avl {om h} : ∀ {vs ds}, DenL om h vs ds → AVL om h vs (ds.map .dat)
  | _, _, .nil => .nil
  | _, _, .cons x y => .cons x (DenL.avl y)
theorem AVL.denL {om h} : ∀ {ds vs}, AVL om h vs (ds.map .dat) → DenL om h vs ds
  | [], _, .nil => .nil
  | _ :: _, _, .cons x y => .cons x (AVL.denL y)
theorem DenL.length {om h} {vs ds} (x : DenL om h vs ds) : vs.length = ds.length := by simpa using x.avl.length
structure OwnOk (h₀ : Heap) (om : Om) (h : Heap) : Prop where
  at' : ∀ a l, om a = some l → ∃ vs n, IsL h a vs n ∧ AVL om h vs.toList l
  new : ∀ a, om a ≠ none → h₀.get? a = none
theorem OwnOk.step {h₀ om h h'} (x : OwnOk h₀ om h) (k : Ext h h') : OwnOk h₀ om h' :=
  ⟨fun a l e => let ⟨vs, n, h1, h2⟩ := x.at' a l e; ⟨vs, n, k _ _ h1, (k.step (om := om)).avl h2⟩, x.new⟩
noncomputable def bltNames : List Str := ["len", "abs", "max", "range", "list", "enumerate", "sum", "int"]
noncomputable def r0D : PyData := .tuple [.int 0, .int 1]
noncomputable def r1D : PyData := .tuple [.int 1, .int 1]
structure Cx where
  w : World
  mg : Str → Option Value
  mb : Str → Option Value
  h0 : Heap
  g : h0.Ns mainGlobals mg
  b : h0.Ns builtinsNs mb
  nolimit : h0.NoLimit
  seer : h0.NoSeer
  fn : ∀ d ∈ recsOf P, ∃ a o pm code doc, mg d.name = some (.ref a) ∧ h0.get? a = some o ∧ o.data = .func (docDef d.name d.params d.body d.scope pm code doc) ∧ h0.CodeRec code d.name
  noglob : ∀ x ∈ bltNames, mg x = none
  blt : ∀ x : Str, x ≠ "__name__" → mb x = bootBuiltins x
  r0 : ∃ v, mg "R0" = some v ∧ Den (fun _ => none) h0 v r0D
  r1 : ∃ v, mg "R1" = some v ∧ Den (fun _ => none) h0 v r1D
structure EnvG (env : Env) : Prop where
  gen : env.scope.isGenerator = false
  co : env.scope.isCoroutine = false
  blt : env.builtins = builtinsNs
  glob : env.globals = mainGlobals
structure COk (k : Nat) (A : Around) : Prop where
  hd : A.handled = none
  dp : A.depth + k ≤ 600
  un : A.units + 100 * k ≤ 9000
  frs : ∃ l, A.frames = some l
structure AOk (k : Nat) (A : Around) : Prop extends COk k A where
  fr : ∃ env l, A.frames = some (env :: l) ∧ EnvG env
theorem COk.mono {k k' A} (x : COk k A) (h : k' ≤ k) : COk k' A := ⟨x.hd, by have := x.dp; lia, by have := x.un; lia, x.frs⟩
theorem AOk.mono {k k' A} (x : AOk k A) (h : k' ≤ k) : AOk k' A := ⟨x.toCOk.mono h, x.fr⟩
theorem COk.deeper {k A env} (x : COk (k + 1) A) (g : EnvG env) : AOk k (A.deeper env) := by
  obtain ⟨l, h⟩ := x.frs
  exact ⟨⟨x.hd, by have := x.dp; simp [Around.deeper]; lia, by have := x.un; simp [Around.deeper]; lia, ⟨env :: l, by simp [Around.deeper, h]⟩⟩, env, l, by simp [Around.deeper, h], g⟩
noncomputable def Rd (env : Env) (h : Heap) (x : Str) (v : Value) : Prop :=
  (env.kindOf x = some .local ∧ ∃ m, h.Ns env.locals m ∧ m x = some v) ∨
  ((env.kindOf x = some .cell ∨ env.kindOf x = some .free) ∧ ∃ c, env.cells.lookup x = some c ∧ h.IsCell c (some v))
abbrev Sto := Str → Option AV
noncomputable def Sto.set (σ : Sto) (x : Str) (a : AV) : Sto := fun y => if y = x then some a else σ y
noncomputable def Wr (env : Env) : Addr → Prop := fun b => b = env.locals ∨ ∃ x, (env.kindOf x = some .cell) ∧ env.cells.lookup x = some b
structure Fro (C : Cx) (sc : Scope) (env : Env) (h : Heap) : Prop where
  base : Ext C.h0 h
  scope : env.scope = sc
  kind : sc.kind = .function
  glob : env.globals = mainGlobals
  blt : env.builtins = builtinsNs
  ns : ∃ m, h.Ns env.locals m
  nsNew : C.h0.get? env.locals = none
  cell : ∀ x c, env.cells.lookup x = some c → ∃ v, h.IsCell c v
  cellNew : ∀ x c, env.cells.lookup x = some c → C.h0.get? c = none
  apart : ∀ x y c, env.cells.lookup x = some c → env.cells.lookup y = some c → x = y
  cellAll : ∀ x, sc.names.lookup x = some .cell → ∃ c, env.cells.lookup x = some c
structure St (C : Cx) (sc : Scope) (σ : Sto) (om : Om) (env : Env) (h : Heap) : Prop where
  fro : Fro C sc env h
  own : OwnOk C.h0 om h
  rd : ∀ x a, σ x = some a → ∃ v, Rd env h x v ∧ AVR om h v a
theorem Fro.noSeq {C sc env h} (F : Fro C sc env h) : NoSeq (Wr env) h := by
  rintro b o (rfl | ⟨x, _, hx⟩) e vs n q
  · obtain ⟨m, o', es, ep, e1, e2, _⟩ := F.ns
    rw [e1] at e; cases e; rw [e2] at q; cases q
  · obtain ⟨v, o', e1, e2⟩ := F.cell x b hx
    rw [e1] at e; cases e; rw [e2] at q; cases q
abbrev MM (C : Cx) : Model := model P C.w
noncomputable def We (C : Cx) (k : Nat) (sc : Scope) (σ : Sto) (om : Om) (e : PySem.Expr) (Φ : AV → Om → Prop) : Prop :=
  ∀ (A : Around) (env : Env) (s : Shared) (E : Value → Shared → Prop) (Q : Value → Shared → Prop), AOk k A → St C sc σ om env s.heap →
    (∀ v a om' h' tk, Φ a om' → Step om s.heap om' h' → OwnOk C.h0 om' h' → AVR om' h' v a → Q v { s with heap := h', toks := tk }) →
    wpAny (MM C) A (eval e env) Q E s
noncomputable def Wc (C : Cx) (k : Nat) (f : Value) (om : Om) (as : List AV) (Φ : AV → Om → Prop) : Prop :=
  ∀ (A : Around) (vs : List Value) (s : Shared) (E : Value → Shared → Prop) (Q : Value → Shared → Prop), COk k A → Ext C.h0 s.heap → OwnOk C.h0 om s.heap → AVL om s.heap vs as →
    (∀ v a om' h' tk, Φ a om' → Step om s.heap om' h' → OwnOk C.h0 om' h' → AVR om' h' v a → Q v { s with heap := h', toks := tk }) →
    wpAny (MM C) A (call f vs) Q E s
inductive Fl where
  | nx | br | ct
  | rt (a : AV)
noncomputable def FlR (om : Om) (h : Heap) : Flow → Fl → Prop
  | .next, .nx => True
  | .brk, .br => True
  | .cont, .ct => True
  | .ret v, .rt a => AVR om h v a
  | _, _ => False
noncomputable def Wx (C : Cx) (k : Nat) (sc : Scope) (σ : Sto) (om : Om) (b : List Stmt) (Φ : Fl → Sto → Om → Prop) : Prop :=
  ∀ (A : Around) (env : Env) (s : Shared) (E : Value → Shared → Prop) (Q : Flow → Shared → Prop), AOk k A → St C sc σ om env s.heap →
    (∀ fl f σ' om' h' tk, Φ f σ' om' → Ef (Wr env) om s.heap om' h' → St C sc σ' om' env h' → FlR om' h' fl f → Q fl { s with heap := h', toks := tk }) →
    wpAny (MM C) A (execs b env) Q E s
noncomputable def Ws (C : Cx) (k : Nat) (sc : Scope) (σ : Sto) (om : Om) (b : Stmt) (Φ : Fl → Sto → Om → Prop) : Prop :=
  ∀ (A : Around) (env : Env) (s : Shared) (E : Value → Shared → Prop) (Q : Flow → Shared → Prop), AOk k A → St C sc σ om env s.heap →
    (∀ fl f σ' om' h' tk, Φ f σ' om' → Ef (Wr env) om s.heap om' h' → St C sc σ' om' env h' → FlR om' h' fl f → Q fl { s with heap := h', toks := tk }) →
    wpAny (MM C) A (exec b env) Q E s
theorem OwnOk.not {h₀ om h} (O : OwnOk h₀ om h) {b : Addr} {o : Obj} (e : h.get? b = some o) (hd : ∀ vs n, o.data ≠ .seq vs n) : om b = none := by
  cases q : om b with
  | none => rfl
  | some l => obtain ⟨vs, n, hl, _⟩ := O.at' b l q; rw [hl] at e; cases e; exact absurd rfl (hd _ _)
theorem OwnOk.base {h₀ om h} (O : OwnOk h₀ om h) {b : Addr} {o : Obj} (e : h₀.get? b = some o) : om b = none := by
  cases q : om b with
  | none => rfl
  | some l => have := O.new b (by rw [q]; exact Option.some_ne_none _); rw [this] at e; cases e
theorem Ef.ns {W om h om' h' h₀ L m} (x : Ef W om h om' h') (O : OwnOk h₀ om h) (hw : ¬ W L) (n : h.Ns L m) : h'.Ns L m := by
  obtain ⟨oL, es, ep, hL, hd, r⟩ := n
  exact ⟨oL, es, ep, x.keep _ _ hw (O.not hL (by rw [hd]; intro _ _ q; cases q)) hL, hd, r⟩
theorem Ef.cell {W om h om' h' h₀ L m} (x : Ef W om h om' h') (O : OwnOk h₀ om h) (hw : ¬ W L) (n : h.IsCell L m) : h'.IsCell L m := by
  obtain ⟨oL, hL, hd⟩ := n
  exact ⟨oL, x.keep _ _ hw (O.not hL (by rw [hd]; intro _ _ q; cases q)) hL, hd⟩
theorem Ef.ext {W om h om' h' h₀} (x : Ef W om h om' h') (O : OwnOk h₀ om h) (hw : ∀ b, W b → h₀.get? b = none) (e : Ext h₀ h) : Ext h₀ h' := fun b o q =>
  x.keep b o (fun w => by rw [hw b w] at q; cases q) (O.base q) (e b o q)
theorem Fro.step {C sc env om h om' h'} (F : Fro C sc env h) (O : OwnOk C.h0 om h) (x : Step om h om' h') : Fro C sc env h' :=
  ⟨x.ext O (fun _ f => f.elim) F.base, F.scope, F.kind, F.glob, F.blt, (let ⟨m, hm⟩ := F.ns; ⟨m, x.ns O id hm⟩), F.nsNew,
    fun y c e => (let ⟨v, hv⟩ := F.cell y c e; ⟨v, x.cell O id hv⟩), F.cellNew, F.apart, F.cellAll⟩
theorem Rd.step {C sc env om h om' h' n v} (F : Fro C sc env h) (O : OwnOk C.h0 om h) (x : Step om h om' h') (r : Rd env h n v) : Rd env h' n v := by
  rcases r with ⟨hk, m, hn, hm⟩ | ⟨hk, c, hc, hv⟩
  · exact .inl ⟨hk, m, x.ns O id hn, hm⟩
  · exact .inr ⟨hk, c, hc, x.cell O id hv⟩
theorem St.step {C sc σ om env h om' h'} (S : St C sc σ om env h) (x : Step om h om' h') (O' : OwnOk C.h0 om' h') : St C sc σ om' env h' :=
  ⟨S.fro.step S.own x, O', fun n a e => let ⟨v, r, q⟩ := S.rd n a e; ⟨v, r.step S.fro S.own x, x.avr q⟩⟩
theorem St.ext {C sc σ om env h h'} (S : St C sc σ om env h) (x : Ext h h') : St C sc σ om env h' := S.step x.step (S.own.step x)
theorem We.mono {C k sc σ om e Φ Ψ} (x : We C k sc σ om e Φ) (h : ∀ a om', Φ a om' → Ψ a om') : We C k sc σ om e Ψ :=
  fun A env s E Q hA S hQ => x A env s E Q hA S fun v a om' h' tk q => hQ v a om' h' tk (h _ _ q)
theorem We.lift {C k k' sc σ om e Φ} (x : We C k' sc σ om e Φ) (h : k' ≤ k) : We C k sc σ om e Φ :=
  fun A env s E Q hA S hQ => x A env s E Q (hA.mono h) S hQ
theorem Wc.mono {C k f om as Φ Ψ} (x : Wc C k f om as Φ) (h : ∀ a om', Φ a om' → Ψ a om') : Wc C k f om as Ψ :=
  fun A vs s E Q hA hb ho hv hQ => x A vs s E Q hA hb ho hv fun v a om' h' tk q => hQ v a om' h' tk (h _ _ q)
theorem Wc.lift {C k k' f om as Φ} (x : Wc C k' f om as Φ) (h : k' ≤ k) : Wc C k f om as Φ :=
  fun A vs s E Q hA hb ho hv hQ => x A vs s E Q (hA.mono h) hb ho hv hQ
theorem Wx.mono {C k sc σ om e Φ Ψ} (x : Wx C k sc σ om e Φ) (h : ∀ f σ' om', Φ f σ' om' → Ψ f σ' om') : Wx C k sc σ om e Ψ :=
  fun A env s E Q hA S hQ => x A env s E Q hA S fun v f σ' om' h' tk q => hQ v f σ' om' h' tk (h _ _ _ q)
theorem We.bind {C : Cx} {k sc σ om e Φ} {A : Around} {env : Env} {s : Shared} {E : Value → Shared → Prop} {Q : Value → Shared → Prop}
    (x : We C k sc σ om e Φ) (hA : AOk k A) (S : St C sc σ om env s.heap)
    (h : ∀ v a om' h' tk, Φ a om' → Step om s.heap om' h' → St C sc σ om' env h' → AVR om' h' v a → Q v { s with heap := h', toks := tk }) :
    wpAny (MM C) A (eval e env) Q E s := x A env s E Q hA S fun v a om' h' tk q st o r => h v a om' h' tk q st (S.step st o) r
theorem We.cInt {C k sc σ om i kd pos Φ} (h : Φ (.dat (.int i)) om) : We C k sc σ om (.Constant (.int i) kd pos) Φ :=
  fun A env s E Q hA S hQ => wpAny_Constant_int (hQ _ _ om s.heap _ h Ef.refl S.own (.int _ _))
theorem We.cNone {C k sc σ om kd pos Φ} (h : Φ (.dat .none) om) : We C k sc σ om (.Constant .none kd pos) Φ :=
  fun A env s E Q hA S hQ => fun _ _ _ => hQ .none _ om s.heap s.toks h Ef.refl S.own .none
theorem We.cBool {C k sc σ om b kd pos Φ} (h : Φ (.dat (.bool b)) om) : We C k sc σ om (.Constant (.bool b) kd pos) Φ :=
  fun A env s E Q hA S hQ => fun _ _ _ => hQ (.bool b) _ om s.heap s.toks h Ef.refl S.own (.bool _)
theorem We.name {C k sc σ om x pos a Φ} (hx : σ x = some a) (h : Φ a om) (hd : (x == ("__debug__" : Str)) = false := by decide) (hc : (x == ("__classdict__" : Str)) = false := by decide) : We C k sc σ om (.Name x pos) Φ := by
  intro A env s E Q hA S hQ
  obtain ⟨v, r, hv⟩ := S.rd x a hx
  have fin := hQ v a om s.heap s.toks h Ef.refl S.own hv
  have hk : env.scope.kind = .function := by rw [S.fro.scope]; exact S.fro.kind
  refine wpAny_Name ?_ hd
  rcases r with ⟨hl, m, hm, hv⟩ | ⟨hl, c, hc', hv⟩
  · exact wpAny_loadName_local hk hl hm hv fin
  · rcases hl with hl | hl
    · exact wpAny_loadName_cell hk hl hc' hv fin
    · exact wpAny_loadName_free hk hl hc' hv fin hc
theorem We.binop {C k sc σ om l op r pos Φ} (x : We C k sc σ om l (fun a om1 => We C k sc σ om1 r (fun b om2 =>
      ∀ A env s E Q va vb, AOk k A → St C sc σ om2 env s.heap → AVR om2 s.heap va a → AVR om2 s.heap vb b →
        (∀ v a om' h' tk, Φ a om' → Step om2 s.heap om' h' → OwnOk C.h0 om' h' → AVR om' h' v a → Q v { s with heap := h', toks := tk }) → wpAny (MM C) A (binaryOp op va vb) Q E s))) :
    We C k sc σ om (.BinOp l op r pos) Φ := by
  intro A env s E Q hA S hQ
  refine wpAny_BinOp (x.bind hA S fun va a om1 h1 tk1 y st1 S1 ra => y.bind hA S1 fun vb b om2 h2 tk2 z st2 S2 rb => ?_)
  exact z A env _ E Q va vb hA S2 (st2.avr ra) rb fun v a' om' h' tk p st o r' => hQ v a' om' h' tk p ((st1.trans st2).trans st) o r'
section
variable {C : Cx} {k : Nat} {sc : Scope} {σ : Sto} {om : Om} {Φ : AV → Om → Prop}
theorem fin_int {s : Shared} {Q : Value → Shared → Prop} {i : Int} (O : OwnOk C.h0 om s.heap) (h : Φ (.dat (.int i)) om)
    (hQ : ∀ v a om' h' tk, Φ a om' → Step om s.heap om' h' → OwnOk C.h0 om' h' → AVR om' h' v a → Q v { s with heap := h', toks := tk }) {t tk : Nat} :
    Q (.int i t) { s with toks := tk } := hQ _ _ om s.heap tk h Ef.refl O (.int _ _)
theorem fin_bool {s : Shared} {Q : Value → Shared → Prop} {i : Bool} (O : OwnOk C.h0 om s.heap) (h : Φ (.dat (.bool i)) om)
    (hQ : ∀ v a om' h' tk, Φ a om' → Step om s.heap om' h' → OwnOk C.h0 om' h' → AVR om' h' v a → Q v { s with heap := h', toks := tk }) :
    Q (.bool i) s := hQ _ _ om s.heap s.toks h Ef.refl O (.bool _)
theorem room {A : Around} {s : Shared} (hA : AOk k A) (b : Ext C.h0 s.heap) : PylongRoom (MM C) A s := by
  obtain ⟨env, l, hf, g⟩ := hA.fr
  exact PylongRoom.of (C.nolimit.keeps b) (by have := hA.dp; simp [Builtin.pylongFrames, recursionLimit]; lia)
    (SeerAt.of (C.seer.keeps b) rfl hf g.gen g.co g.blt g.glob)
@[reducible] noncomputable def KB (C : Cx) (k : Nat) (sc : Scope) (σ : Sto) (r : PySem.Expr) (P : AV → AV → Om → Prop) : AV → Om → Prop := fun a om1 => We C k sc σ om1 r (P a)
inductive Padd (Φ : AV → Om → Prop) (a b : AV) (om2 : Om) : Prop
  | mk (i j : Int) (e1 : a = .dat (.int i)) (e2 : b = .dat (.int j)) (h : Φ (.dat (.int (i + j))) om2)
inductive Psub (Φ : AV → Om → Prop) (a b : AV) (om2 : Om) : Prop
  | mk (i j : Int) (e1 : a = .dat (.int i)) (e2 : b = .dat (.int j)) (h : Φ (.dat (.int (i - j))) om2)
inductive Pmul (Φ : AV → Om → Prop) (a b : AV) (om2 : Om) : Prop
  | mk (i j : Int) (e1 : a = .dat (.int i)) (e2 : b = .dat (.int j)) (m : IntMulOk i j) (h : Φ (.dat (.int (i * j))) om2)
inductive Pdiv (Φ : AV → Om → Prop) (a b : AV) (om2 : Om) : Prop
  | mk (i j : Int) (e1 : a = .dat (.int i)) (e2 : b = .dat (.int j)) (m : j ≠ 0) (h : Φ (.dat (.int (i.fdiv j))) om2)
inductive Pmod (Φ : AV → Om → Prop) (a b : AV) (om2 : Om) : Prop
  | mk (i j : Int) (e1 : a = .dat (.int i)) (e2 : b = .dat (.int j)) (m : j ≠ 0) (h : Φ (.dat (.int (i.fmod j))) om2)
inductive Ppow (Φ : AV → Om → Prop) (a b : AV) (om2 : Om) : Prop
  | mk (i j : Int) (e1 : a = .dat (.int i)) (e2 : b = .dat (.int j)) (m : 0 ≤ j) (m2 : (Builtin.Int.intBits i : Int) * j ≤ 2 ^ 27) (h : Φ (.dat (.int (i ^ j.toNat))) om2)
section
variable {l r : PySem.Expr} {pos : Pos}
theorem We.add (x : We C k sc σ om l (KB C k sc σ r (Padd Φ))) :
    We C k sc σ om (.BinOp l .Add r pos) Φ := .binop (x.mono fun a om1 y => y.mono fun b om2 ⟨i, j, e1, e2, h⟩ A env s E Q va vb hA S ra rb hQ => by
  subst e1 e2; cases ra; cases rb; exact add_int (fin_int S.own h hQ))
theorem We.sub (x : We C k sc σ om l (KB C k sc σ r (Psub Φ))) :
    We C k sc σ om (.BinOp l .Sub r pos) Φ := .binop (x.mono fun a om1 y => y.mono fun b om2 ⟨i, j, e1, e2, h⟩ A env s E Q va vb hA S ra rb hQ => by
  subst e1 e2; cases ra; cases rb; exact sub_int (fin_int S.own h hQ))
theorem We.mul (x : We C k sc σ om l (KB C k sc σ r (Pmul Φ))) :
    We C k sc σ om (.BinOp l .Mult r pos) Φ := .binop (x.mono fun a om1 y => y.mono fun b om2 ⟨i, j, e1, e2, hm, h⟩ A env s E Q va vb hA S ra rb hQ => by
  subst e1 e2; cases ra; cases rb; exact PyProof.Rows.mul_int (fin_int S.own h hQ) hm)
theorem We.fdiv (x : We C k sc σ om l (KB C k sc σ r (Pdiv Φ))) :
    We C k sc σ om (.BinOp l .FloorDiv r pos) Φ := .binop (x.mono fun a om1 y => y.mono fun b om2 ⟨i, j, e1, e2, hm, h⟩ A env s E Q va vb hA S ra rb hQ => by
  subst e1 e2; cases ra; cases rb; exact PyProof.Rows.floordiv_int hm (fin_int S.own h hQ) (.inr (room hA S.fro.base)))
theorem We.mod (x : We C k sc σ om l (KB C k sc σ r (Pmod Φ))) :
    We C k sc σ om (.BinOp l .Mod r pos) Φ := .binop (x.mono fun a om1 y => y.mono fun b om2 ⟨i, j, e1, e2, hm, h⟩ A env s E Q va vb hA S ra rb hQ => by
  subst e1 e2; cases ra; cases rb; exact PyProof.Rows.mod_int' hm (fin_int S.own h hQ))
theorem We.pow (x : We C k sc σ om l (KB C k sc σ r (Ppow Φ))) :
    We C k sc σ om (.BinOp l .Pow r pos) Φ := .binop (x.mono fun a om1 y => y.mono fun b om2 ⟨i, j, e1, e2, hm, hm2, h⟩ A env s E Q va vb hA S ra rb hQ => by
  subst e1 e2; cases ra; cases rb; exact PyProof.Rows.pow_int hm hm2 (fin_int S.own h hQ))
end
noncomputable def Om.set (om : Om) (D : Addr) (l : List AV) : Om := fun b => if b = D then some l else om b
noncomputable def Om.del (om : Om) (D : Addr) : Om := fun b => if b = D then none else om b
theorem Om.set_at {D l} : om.set D l D = some l := by simp [Om.set]
theorem Om.del_set {D l} (h : om D = none) : (om.set D l).del D = om := by
  funext b; simp only [Om.del, Om.set]; by_cases e : b = D
  · subst e; simp [h]
  · simp [e]
theorem OwnOk.free {h₀ h D} (O : OwnOk h₀ om h) (hD : h.get? D = none) : om D = none := by
  cases q : om D with
  | none => rfl
  | some l => obtain ⟨ws, m, hw, _⟩ := O.at' D l q; rw [hw] at hD; cases hD
theorem freeze_step {h D} : Step om h (om.del D) h := ⟨fun _ _ _ _ e => e, fun _ e => e, fun b e => .inl (by
  by_cases q : b = D
  · subst q; simp [Om.del] at e
  · simpa [Om.del, q] using e)⟩
theorem freeze_own {h₀ h D} (O : OwnOk h₀ om h) : OwnOk h₀ (om.del D) h := by
  refine ⟨fun a l e => ?_, fun a e => O.new a ?_⟩
  · by_cases q : a = D
    · subst q; simp [Om.del] at e
    · simp only [Om.del, if_neg q] at e
      obtain ⟨vs, n, h1, h2⟩ := O.at' a l e
      exact ⟨vs, n, h1, freeze_step.avl h2⟩
  · by_cases q : a = D
    · subst q; simp [Om.del] at e
    · simpa [Om.del, q] using e
theorem freeze_den {h₀ h D ds} (O : OwnOk h₀ om h) (e : om D = some (ds.map .dat)) : Den (om.del D) h (.ref D) (.list ds) := by
  obtain ⟨vs, n, h1, h2⟩ := O.at' D _ e
  exact .list (by simp [Om.del]) h1 (freeze_step.avl h2).denL
noncomputable def NewL (om : Om) (as : List AV) (Φ : AV → Om → Prop) : Prop :=
  (∃ ds, as = ds.map .dat ∧ Φ (.dat (.list ds)) om) ∨ (∀ a, om a = none → Φ (.own a) (om.set a as))
theorem NewL.dat {ds} (h : Φ (.dat (.list ds)) om) : NewL om (ds.map .dat) Φ := .inl ⟨ds, rfl, h⟩
theorem NewL.own {as} (h : ∀ a, om a = none → Φ (.own a) (om.set a as)) : NewL om as Φ := .inr h
theorem fin_list {om1 : Om} {s : Shared} {Q : Value → Shared → Prop} {as : List AV} {D : Addr} {h1 : Heap} {tk1 : Nat} (hN : NewL om1 as Φ)
    (hQ : ∀ v a om' h' tk, Φ a om' → Step om s.heap om' h' → OwnOk C.h0 om' h' → AVR om' h' v a → Q v { s with heap := h', toks := tk })
    (hD : om1 D = none) (hx : Step om s.heap (om1.set D as) h1) (O1 : OwnOk C.h0 (om1.set D as) h1) : Q (.ref D) { s with heap := h1, toks := tk1 } := by
  rcases hN with ⟨ds, rfl, h⟩ | h
  · have hf := freeze_den O1 (D := D) Om.set_at
    rw [Om.del_set hD] at hf
    have hs := hx.trans (freeze_step (D := D))
    rw [Om.del_set hD] at hs
    have ho := freeze_own (D := D) O1
    rw [Om.del_set hD] at ho
    exact hQ _ _ om1 h1 tk1 h hs ho hf
  · exact hQ _ _ _ h1 tk1 (h D hD) hx O1 rfl
theorem push_list {h₀ h vs n as} (O : OwnOk h₀ om h) (b0 : Ext h₀ h) (hv : AVL om h vs.toList as) (h1 : Heap) (hx : Ext h h1) (D : Addr) (hD : h.get? D = none) (hl : IsL h1 D vs n) :
    Step om h (om.set D as) h1 ∧ OwnOk h₀ (om.set D as) h1 := by
  have hD0 : h₀.get? D = none := by
    cases q : h₀.get? D with
    | none => rfl
    | some o => rw [b0 D o q] at hD; cases hD
  have st : Step om h (om.set D as) h1 := ⟨fun b o _ _ e => hx b o e, hx.step (om := om).stay, fun b e => by
    by_cases q : b = D
    · subst q; exact .inr hD
    · simp only [Om.set, if_neg q] at e; exact .inl e⟩
  refine ⟨st, fun a l e => ?_, fun a e => ?_⟩
  · by_cases q : a = D
    · subst q
      simp only [Om.set, if_true, Option.some.injEq] at e; subst e
      exact ⟨vs, n, hl, st.avl hv⟩
    · simp only [Om.set, if_neg q] at e
      obtain ⟨ws, m, h3, h4⟩ := O.at' a l e
      exact ⟨ws, m, hx _ _ h3, st.avl h4⟩
  · by_cases q : a = D
    · subst q; exact hD0
    · simp only [Om.set, if_neg q] at e; exact O.new a e
theorem size_new (h : Heap) : h.get? h.objs.size = none := by
  cases q : h.get? h.objs.size with
  | none => rfl
  | some o => exact absurd (Heap.lt_size q) (Nat.lt_irrefl _)
theorem fin_push {s s1 : Shared} {Q : Value → Shared → Prop} {as : List AV} {vs : Array Value} (hN : NewL om as Φ) (O : OwnOk C.h0 om s.heap) (b0 : Ext C.h0 s.heap) (hv : AVL om s.heap vs.toList as)
    (hQ : ∀ v a om' h' tk, Φ a om' → Step om s.heap om' h' → OwnOk C.h0 om' h' → AVR om' h' v a → Q v { s with heap := h', toks := tk }) {tk : Nat} :
    Q (.ref s.heap.objs.size) { s with heap := s.heap.push { cls := .type "list", data := .seq vs }, toks := tk } := by
  obtain ⟨st, O1⟩ := push_list O b0 hv (s.heap.push { cls := .type "list", data := .seq vs }) (Ext.push _ _) s.heap.objs.size (size_new _) (Heap.get?_push_size _ rfl)
  exact fin_list hN hQ (O.free (size_new _)) st O1
theorem fin_tup {s : Shared} {Q : Value → Shared → Prop} {ds : List PyData} {vs : Array Value} (h : Φ (.dat (.tuple ds)) om) (O : OwnOk C.h0 om s.heap) (hv : DenL om s.heap vs.toList ds)
    (hQ : ∀ v a om' h' tk, Φ a om' → Step om s.heap om' h' → OwnOk C.h0 om' h' → AVR om' h' v a → Q v { s with heap := h', toks := tk }) {tk : Nat} :
    Q (.ref s.heap.objs.size) { s with heap := s.heap.push { cls := .type "tuple", data := .seq vs }, toks := tk } :=
  have x := Ext.push s.heap { cls := .type "tuple", data := .seq vs }
  hQ _ _ om _ tk h x.step (O.step x) (.tuple (O.free (size_new _)) (Heap.get?_push_size _ rfl) (x.step.denL hv))
noncomputable def LsOf (om : Om) : AV → List AV → Prop
  | .dat (.list ds), l => l = ds.map .dat
  | .own a, l => om a = some l
  | _, _ => False
theorem LsOf.is {h₀ h v a l} (O : OwnOk h₀ om h) (hv : AVR om h v a) (hl : LsOf om a l) : ∃ b vs n, v = .ref b ∧ IsL h b vs n ∧ AVL om h vs.toList l := by
  cases a with
  | own a =>
    obtain ⟨vs, n, h1, h2⟩ := O.at' a l hl
    exact ⟨a, vs, n, hv, h1, h2⟩
  | dat d =>
    cases d <;> first | exact hl.elim | skip
    rename_i ds
    cases hv with
    | list _ h1 h2 => exact ⟨_, _, _, rfl, h1, by rw [show l = ds.map .dat from hl]; exact h2.avl⟩
section
variable {l r : PySem.Expr} {pos : Pos}
theorem We.addL (x : We C k sc σ om l (fun a om1 => We C k sc σ om1 r (fun b om2 => ∃ xs ys, LsOf om2 a xs ∧ LsOf om2 b ys ∧ xs.length + ys.length ≤ 2 ^ 20 ∧ NewL om2 (xs ++ ys) Φ))) :
    We C k sc σ om (.BinOp l .Add r pos) Φ := .binop (x.mono fun a om1 y => y.mono fun b om2 ⟨xs, ys, e1, e2, hl, h⟩ A env s E Q va vb hA S ra rb hQ => by
  obtain ⟨b1, vs1, n1, rfl, i1, d1⟩ := e1.is S.own ra
  obtain ⟨b2, vs2, n2, rfl, i2, d2⟩ := e2.is S.own rb
  have z1 := d1.length
  have z2 := d2.length
  simp only [Array.length_toList] at z1 z2
  exact PySem.P.add_list i1 i2 (fin_push (s1 := s) h S.own S.fro.base (by simpa using d1.append d2) hQ) (by rw [sizeLine_eq]; lia))
end
end
theorem foldl_app {α : Type} : ∀ (n : Nat) (z items : Array α), (List.foldl (fun x1 x2 => x1 ++ x2) z (List.replicate n items)).toList = z.toList ++ (List.replicate n items.toList).flatten
  | 0, z, items => by simp
  | n + 1, z, items => by
    rw [List.replicate_succ, List.foldl_cons, foldl_app n]
    simp [List.replicate_succ]
theorem AVL.rep {om h vs as} (x : AVL om h vs as) : ∀ n, AVL om h (List.replicate n vs).flatten (List.replicate n as).flatten
  | 0 => .nil
  | n + 1 => by simp only [List.replicate_succ, List.flatten_cons]; exact x.append (x.rep n)
theorem rep_len {α : Type} (n : Nat) (l : List α) : (List.replicate n l).flatten.length = n * l.length := by
  induction n with
  | zero => simp
  | succ n ih => simp [List.replicate_succ, ih, Nat.succ_mul, Nat.add_comm]
mutual
theorem Den.reads {om h} : ∀ {v d}, Den om h v d → ∃ as, Reads h v d as
  | _, _, .none => ⟨_, .none⟩
  | _, _, .bool b => ⟨_, .bool b⟩
  | _, _, .int i t => ⟨_, .int i t⟩
  | _, _, .list _ h1 h2 => let ⟨as, q⟩ := h2.reads; ⟨_, .list h1 rfl rfl q⟩
  | _, _, .tuple _ h1 h2 => let ⟨as, q⟩ := h2.reads; ⟨_, .tuple h1 rfl rfl q⟩
theorem DenL.reads {om h} : ∀ {v d}, DenL om h v d → ∃ as, ReadsAll h v d as
  | _, _, .nil => ⟨_, .nil⟩
  | _, _, .cons x y => let ⟨_, q⟩ := x.reads; let ⟨_, r⟩ := y.reads; ⟨_, .cons q r⟩
end
noncomputable def cmpI (i j : Int) : CmpOp → Option Bool
  | .Eq => some (i == j)
  | .NotEq => some (i != j)
  | .Lt => some (decide (i < j))
  | .LtE => some (decide (i ≤ j))
  | .Gt => some (decide (j < i))
  | .GtE => some (decide (j ≤ i))
  | _ => none
noncomputable def cmpS (d e : PyData) (b : Bool) : CmpOp → Option Bool
  | .Eq => if SeqAt.shaped d && SeqAt.shaped e then some b else none
  | .NotEq => if SeqAt.shaped d && SeqAt.shaped e then some (!b) else none
  | _ => none
noncomputable def cmpN (b : Bool) : CmpOp → Option Bool
  | .Is => some b
  | _ => none
noncomputable def cmpD (op : CmpOp) (d e : PyData) : Option Bool := match d with
  | .int i => (match e with
    | .int j => cmpI i j op
    | .none => cmpN false op
    | _ => none)
  | .none => (match e with
    | .none => cmpN true op
    | _ => none)
  | .list xs => (match e with
    | .list ys => cmpS (.list xs) (.list ys) (PyData.eqvAll xs ys) op
    | _ => none)
  | .tuple xs => (match e with
    | .tuple ys => cmpS (.tuple xs) (.tuple ys) (PyData.eqvAll xs ys) op
    | _ => none)
  | _ => none
noncomputable def cmpV (op : CmpOp) (a b : AV) : Option Bool := match a with
  | .own _ => none
  | .dat d => (match b with
    | .own _ => none
    | .dat e => cmpD op d e)
theorem cmpS_ok {C : Cx} {k : Nat} {om : Om} {op : CmpOp} {d e : PyData} {b c : Bool} {A : Around} {E : Value → Shared → Prop} {s : Shared} {va vb : Value} {Q : Value → Shared → Prop}
    (hc : cmpS d e b op = some c) (he : PyData.eqv d e = b) (hA : AOk k A) (ra : Den om s.heap va d) (rb : Den om s.heap vb e) (h : Q (.bool c) s) : wpAny (MM C) A (compareOp op va vb) Q E s := by
  have hu : A.units + 64 < cLine := by have := hA.un; simp [cLine]; lia
  obtain ⟨as, r1⟩ := Den.reads ra
  obtain ⟨bs, r2⟩ := Den.reads rb
  subst he
  cases op <;> first | (cases hc; done) | skip
  · by_cases hs : (SeqAt.shaped d && SeqAt.shaped e) = true
    · have := (if_pos hs).symm.trans hc
      cases this
      obtain ⟨s1, s2⟩ := Bool.and_eq_true_iff.mp hs
      exact eq_dataH r1 r2 s1 s2 hu h
    · have := (if_neg hs).symm.trans hc
      cases this
  · by_cases hs : (SeqAt.shaped d && SeqAt.shaped e) = true
    · have := (if_pos hs).symm.trans hc
      cases this
      obtain ⟨s1, s2⟩ := Bool.and_eq_true_iff.mp hs
      exact ne_dataH r1 r2 s1 s2 hu h
    · have := (if_neg hs).symm.trans hc
      cases this
theorem cmpV_ok {C : Cx} {k : Nat} {om : Om} {op : CmpOp} {a b : AV} {c : Bool} {A : Around} {E : Value → Shared → Prop} {s : Shared} {va vb : Value} {Q : Value → Shared → Prop}
    (hc : cmpV op a b = some c) (hA : AOk k A) (ra : AVR om s.heap va a) (rb : AVR om s.heap vb b) (h : Q (.bool c) s) : wpAny (MM C) A (compareOp op va vb) Q E s := by
  cases a with
  | own _ => cases hc
  | dat d =>
    cases b with
    | own _ => cases d <;> cases hc
    | dat e =>
      change cmpD op d e = some c at hc
      cases d <;> cases e <;> first | (cases hc; done) | skip
      · cases ra; cases rb
        cases op <;> first | (cases hc; done) | (cases hc; exact wpAny_is_self rfl h)
      · cases ra; cases rb
        cases op <;> first | (cases hc; done) | (cases hc; exact is_int_none h)
      · cases ra; cases rb
        cases op
        case Eq => cases hc; exact PyProof.Rows.eq_int h
        case NotEq => cases hc; exact PyProof.Rows.ne_int h
        case Lt => cases hc; exact PyProof.Rows.lt_int h
        case LtE => cases hc; exact PyProof.Rows.le_int h
        case Gt => cases hc; exact PyProof.Rows.gt_int h
        case GtE => cases hc; exact PyProof.Rows.ge_int h
        all_goals cases hc
      · exact cmpS_ok hc (by rw [PyData.eqv]) hA ra rb h
      · exact cmpS_ok hc (by rw [PyData.eqv]) hA ra rb h
noncomputable def Wt (C : Cx) (k : Nat) (sc : Scope) (σ : Sto) (om : Om) (e : PySem.Expr) (Φ : Bool → Om → Prop) : Prop :=
  ∀ (A : Around) (env : Env) (s : Shared) (E : Value → Shared → Prop) (Q : Bool → Shared → Prop), AOk k A → St C sc σ om env s.heap →
    (∀ b om' h' tk, Φ b om' → Step om s.heap om' h' → OwnOk C.h0 om' h' → Q b { s with heap := h', toks := tk }) →
    wpAny (MM C) A (isTrue e env (eval e env)) Q E s
section
variable {C : Cx} {k : Nat} {sc : Scope} {σ : Sto} {om : Om} {Φ : AV → Om → Prop}
theorem Wt.mono {e} {Φ Ψ : Bool → Om → Prop} (x : Wt C k sc σ om e Φ) (h : ∀ a om', Φ a om' → Ψ a om') : Wt C k sc σ om e Ψ :=
  fun A env s E Q hA S hQ => x A env s E Q hA S fun a om' h' tk q => hQ a om' h' tk (h _ _ q)
inductive Pcmp (op : PySem.CmpOp) (Ψ : Bool → Om → Prop) (a b : AV) (om2 : Om) : Prop
  | mk (c : Bool) (e : cmpV op a b = some c) (h : Ψ c om2)
inductive PcmpE (op : PySem.CmpOp) (Φ : AV → Om → Prop) (a b : AV) (om2 : Om) : Prop
  | mk (c : Bool) (e : cmpV op a b = some c) (h : Φ (.dat (.bool c)) om2)
theorem Wt.cmp {l op r pos} {Ψ : Bool → Om → Prop} (x : We C k sc σ om l (KB C k sc σ r (Pcmp op Ψ)))
    (hm : behindInMarks op r = false := by with_unfolding_all rfl) : Wt C k sc σ om (.Compare l [op] [r] pos) Ψ := by
  intro A env s E Q hA S hQ
  refine wpAny_isTrue_Compare1 (x.bind hA S fun va a om1 h1 tk1 y st1 S1 ra => y.bind hA S1 fun vb b om2 h2 tk2 ⟨c, hc, z⟩ st2 S2 rb => ?_) hm
  exact cmpV_ok hc hA (st2.avr ra) rb (wpAny_truthy_bool (hQ c om2 h2 tk2 z (st1.trans st2) S2.own))
theorem We.cmp {l op r pos} (x : We C k sc σ om l (KB C k sc σ r (PcmpE op Φ)))
    (hm : behindInMarks op r = false := by with_unfolding_all rfl) : We C k sc σ om (.Compare l [op] [r] pos) Φ := by
  intro A env s E Q hA S hQ
  refine wpAny_Compare1 (x.bind hA S fun va a om1 h1 tk1 y st1 S1 ra => y.bind hA S1 fun vb b om2 h2 tk2 ⟨c, hc, z⟩ st2 S2 rb => ?_) hm
  exact cmpV_ok hc hA (st2.avr ra) rb (hQ _ _ om2 h2 tk2 z (st1.trans st2) S2.own (.bool c))
theorem Wt.and {a b pos} {Ψ : Bool → Om → Prop} (x : Wt C k sc σ om a (fun c om1 => if c then Wt C k sc σ om1 b Ψ else Ψ false om1)) : Wt C k sc σ om (.BoolOp .And [a, b] pos) Ψ := by
  intro A env s E Q hA S hQ
  refine isTrue_and (x A env s E _ hA S fun c om1 h1 tk1 y st1 O1 => ?_)
  cases c with
  | false => exact hQ false om1 h1 tk1 y st1 O1
  | true =>
    simp only [if_true] at y ⊢
    refine isTrue_and (y A env _ E _ hA (S.step st1 O1) fun c om2 h2 tk2 z st2 O2 => ?_)
    have fin := hQ c om2 h2 tk2 z (st1.trans st2) O2
    cases c with
    | false => exact fin
    | true => exact isTrue_and_nil fin
theorem Wt.or {a b pos} {Ψ : Bool → Om → Prop} (x : Wt C k sc σ om a (fun c om1 => if c then Ψ true om1 else Wt C k sc σ om1 b Ψ)) : Wt C k sc σ om (.BoolOp .Or [a, b] pos) Ψ := by
  intro A env s E Q hA S hQ
  refine isTrue_or (x A env s E _ hA S fun c om1 h1 tk1 y st1 O1 => ?_)
  cases c with
  | true => exact hQ true om1 h1 tk1 y st1 O1
  | false =>
    simp only [Bool.false_eq_true, if_false] at y ⊢
    refine isTrue_or (y A env _ E _ hA (S.step st1 O1) fun c om2 h2 tk2 z st2 O2 => ?_)
    have fin := hQ c om2 h2 tk2 z (st1.trans st2) O2
    cases c with
    | true => exact fin
    | false => exact isTrue_or_nil fin
theorem We.ifexp {t a b pos} (x : Wt C k sc σ om t (fun c om1 => if c then We C k sc σ om1 a Φ else We C k sc σ om1 b Φ)) : We C k sc σ om (.IfExp t a b pos) Φ := by
  intro A env s E Q hA S hQ
  refine IfExp_ (x A env s E _ hA S fun c om1 h1 tk1 y st1 O1 => ?_)
  cases c with
  | true => exact y A env _ E _ hA (S.step st1 O1) fun v a om' h' tk p st o r => hQ v a om' h' tk p (st1.trans st) o r
  | false => exact y A env _ E _ hA (S.step st1 O1) fun v a om' h' tk p st o r => hQ v a om' h' tk p (st1.trans st) o r
theorem We.neg {e pos} (x : We C k sc σ om e (fun a om1 => ∃ i, a = .dat (.int i) ∧ Φ (.dat (.int (-i))) om1)) : We C k sc σ om (.UnaryOp .USub e pos) Φ := by
  intro A env s E Q hA S hQ
  refine UnaryOp_ (x.bind hA S fun va a om1 h1 tk1 ⟨i, e1, h⟩ st1 S1 ra => ?_)
  subst e1; cases ra
  exact neg_int (hQ _ _ om1 h1 _ h st1 S1.own (.int _ _))
theorem We.mulL {l r pos} (x : We C k sc σ om l (fun a om1 => We C k sc σ om1 r (fun b om2 => ∃ xs i, LsOf om2 a xs ∧ b = .dat (.int i) ∧ i < 2 ^ 20 ∧ -(2 ^ 20) ≤ i ∧ xs.length * i.toNat ≤ 2 ^ 20 ∧ NewL om2 (List.replicate i.toNat xs).flatten Φ))) :
    We C k sc σ om (.BinOp l .Mult r pos) Φ := .binop (x.mono fun a om1 y => y.mono fun b om2 ⟨xs, i, e1, e2, hb, hb2, hl, h⟩ A env s E Q va vb hA S ra rb hQ => by
  obtain ⟨b1, vs1, n1, rfl, i1, d1⟩ := e1.is S.own ra
  subst e2; cases rb
  rename_i u
  have z1 := d1.length
  simp only [Array.length_toList] at z1
  refine wpAny_binaryOp_repeat_ref (T := "list") (U := "int") (by decide) ⟨_, i1, rfl⟩ (fun s' => typeIs_int s' i u) noFill_list_mul F.fills_int_mul F.slot_int_rmul repeat_list F.slot_int_index.lookup
    (call_meets F.slot_int_rmul (typeIs_int s i u) F.entry_int_rmul (F.args_int_rmul_2 _ _) (int___rmul___int_list i u b1 vs1 n1)
      ⟨i1, rfl, ⟨_, i1, rfl⟩, call_meets F.slot_list_mul ⟨_, i1, rfl⟩ F.entry_list_mul (F.args_list_mul_2 _ _)
        (AutoListH.list___mul___list_int_3 b1 vs1 n1 i u (by simp [Builtin.List.listFitsIndex]; (clear hl z1; omega)) (by rw [z1]; lia) (by rw [z1]; simp [Builtin.List.listTooLong, sizeLine]; (exact Nat.le_trans (by assumption) (Nat.le_of_ble_eq_true rfl))))
        ⟨i1, fin_push (s1 := s) h S.own S.fro.base ?_ hQ⟩⟩)
  rw [foldl_app]
  by_cases hemp : vs1.isEmpty = true
  · have : xs = [] := by
      have : vs1.size = 0 := by simpa [Array.isEmpty] using hemp
      exact List.eq_nil_of_length_eq_zero (by lia)
    subst this
    rw [if_pos hemp]
    simpa using AVL.nil
  · rw [if_neg hemp]
    simpa using d1.rep i.toNat)
end
section
variable {C : Cx} {k : Nat} {sc : Scope} {σ : Sto} {om : Om} {Φ : AV → Om → Prop}
noncomputable def pyIx (n : Nat) (i : Int) : Option Nat := if 0 ≤ i ∧ i < n then some i.toNat else if i < 0 ∧ -(n : Int) ≤ i then some (i + n).toNat else none
theorem pyIx_lt {n i j} (h : pyIx n i = some j) : j < n := by
  unfold pyIx at h
  split at h
  · cases h; lia
  · split at h
    · cases h; lia
    · cases h
theorem pyIx_bd {n i j} (h : pyIx n i = some j) : -(n : Int) ≤ i ∧ i < n := by
  unfold pyIx at h
  split at h
  · omega
  · split at h
    · lia
    · cases h
theorem AVL.take {om h} : ∀ {vs as}, AVL om h vs as → ∀ m, AVL om h (vs.take m) (as.take m)
  | _, _, .nil, m => by simpa using AVL.nil
  | _, _, .cons a b, 0 => by simpa using AVL.nil
  | _, _, .cons a b, m + 1 => .cons a (b.take m)
noncomputable def SqOf (om : Om) : AV → List AV → Prop
  | .dat (.list ds), l => l = ds.map .dat
  | .dat (.tuple ds), l => l = ds.map .dat
  | .own a, l => om a = some l
  | _, _ => False
theorem sub_ok {A : Around} {E : Value → Shared → Prop} {s : Shared} {va vi : Value} {a : AV} {i : Int} {l : List AV} {j : Nat} {b : AV} {base slice : PySem.Expr} {Q : Value → Shared → Prop}
    (O : OwnOk C.h0 om s.heap) (ra : AVR om s.heap va a) (ri : AVR om s.heap vi (.dat (.int i))) (hl : SqOf om a l) (hj : pyIx l.length i = some j) (hb : l[j]? = some b) (hlen : l.length ≤ 2 ^ 24)
    (hs : ∀ o v, subscripted slice false o v = operate [o, v] (getItem o v))
    (h : ∀ v, AVR om s.heap v b → Q v s) : wpAny (MM C) A (subscriptTail base slice va vi) Q E s := by
  cases ri
  rename_i t
  have hj' := hj
  unfold pyIx at hj'
  have hL : ∀ c vs n, va = .ref c → IsL s.heap c vs n → AVL om s.heap vs.toList l → wpAny (MM C) A (subscriptTail base slice va (.int i t)) Q E s := by
    rintro c vs n rfl hi hv
    have z := hv.length
    simp only [Array.length_toList] at z
    obtain ⟨v, hv1, hv2⟩ := hv.get hb
    have hv3 : vs[j]? = some v := by simpa using hv1
    have hlst : s.heap.IsList c vs := IsL.isList hi
    refine tail_any hlst.typeIs slot_list_getitem.lookup ?_ (hs _ _)
    split at hj'
    · rename_i hc
      cases hj'
      exact wpAny_getItem_list hlst hc.1 (by lia) hv3 (h v hv2)
    · split at hj'
      · rename_i hc
        cases hj'
        exact wpAny_getItem_list_neg hlst hc.1 (by rw [z]; (exact And.right (by assumption))) (by lia) (by rw [z]; exact hv3) (h v hv2)
      · cases hj'
  cases a with
  | own c =>
    obtain ⟨vs, n, h1, h2⟩ := O.at' c l hl
    exact hL c vs n ra h1 h2
  | dat d =>
    cases d with
    | list ds =>
      cases ra with
      | list _ h1 h2 => exact hL _ _ _ rfl h1 (by rw [show l = ds.map .dat from hl]; exact h2.avl)
    | tuple ds =>
      cases ra with
      | tuple _ h1 h2 =>
        rename_i c vs n _
        have hv : AVL om s.heap vs.toList l := by rw [show l = ds.map .dat from hl]; exact h2.avl
        have z := hv.length
        simp only [Array.length_toList] at z
        obtain ⟨v, hv1, hv2⟩ := hv.get hb
        have hv3 : vs[j]? = some v := by simpa using hv1
        refine tail_any (T := "tuple") ⟨_, h1, rfl⟩ F.slot_tuple_getitem.lookup ?_ (hs _ _)
        refine PySem.P.getItem_tuple h1 (by have := pyIx_bd hj; lia) (by have := pyIx_bd hj; lia) (k := j) ?_ hv3 (h v hv2)
        rw [z]
        unfold seqIndex?
        split at hj'
        · rename_i hc
          cases hj'
          simp; lia
        · split at hj'
          · rename_i hc
            cases hj'
            simp; lia
          · cases hj'
    | _ => exact hl.elim
theorem We.sub1 {v sl pos} (x : We C k sc σ om v (fun a om1 => We C k sc σ om1 sl (fun b om2 => ∃ i l j c, b = .dat (.int i) ∧ SqOf om2 a l ∧ l.length ≤ 2 ^ 24 ∧ pyIx l.length i = some j ∧ l[j]? = some c ∧ Φ c om2)))
    (hs : ∀ o v, subscripted sl false o v = operate [o, v] (getItem o v) := by intros; rfl) : We C k sc σ om (.Subscript v sl pos) Φ := by
  intro A env s E Q hA S hQ
  refine Subscript_ (x.bind hA S fun va a om1 h1 tk1 y st1 S1 ra => y.bind hA S1 fun vb b om2 h2 tk2 ⟨i, l, j, c, e1, hl, hn, hj, hc, h⟩ st2 S2 rb => ?_)
  subst e1
  exact sub_ok S2.own (st2.avr ra) rb hl hj hc hn hs fun v r => hQ v c om2 h2 tk2 h (st1.trans st2) S2.own r
theorem We.upto {x up p pos p2 as} (hx : σ x = some as) (y : We C k sc σ om up (fun b om1 => ∃ i l, b = .dat (.int i) ∧ LsOf om1 as l ∧ l.length ≤ 2 ^ 20 ∧
      NewL om1 (l.take (if i < 0 then (l.length + i).toNat else i.toNat)) Φ)) (hd : (x == ("__debug__" : Str)) = false := by decide) (hc : (x == ("__classdict__" : Str)) = false := by decide) :
    We C k sc σ om (.Subscript (.Name x p) (.Slice none (some up) none p2) pos) Φ := by
  intro A env s E Q hA S hQ
  refine wpAny_Subscript_list_slice ((We.name (Φ := fun a om1 => a = as ∧ om1 = om) hx ⟨rfl, rfl⟩ hd hc).bind hA S fun va a om1 h1 tk1 e st1 S1 ra => ?_)
  obtain ⟨rfl, rfl⟩ := e
  show wpAny (MM C) A (pure Value.none) _ _ _
  refine wpAny_pure ?_
  show wpAny (MM C) A (eval up env) _ _ _
  refine y.bind hA S1 fun vb b om2 h2 tk2 ⟨i, l, e1, hl, hn, hN⟩ st2 S2 rb => ?_
  subst e1
  obtain ⟨c, vs, n, rfl, hi, hv⟩ := hl.is S2.own (st2.avr ra)
  cases rb
  rename_i t
  have z := hv.length
  simp only [Array.length_toList] at z
  refine ⟨c, vs, none, some i, rfl, IsL.isList hi, by rw [sizeLine_eq]; lia, .none, .int i t, ?_⟩
  have ep := Ext.push h2 { cls := .type "slice", data := .fields #[.none, .int i t, .none] }
  have hpick : (slicePick vs none (some i) none).toList = vs.toList.take (if i < 0 then (vs.size + i).toNat else i.toNat) := by
    by_cases hneg : i < 0
    · rw [if_pos hneg]
      obtain ⟨m, rfl⟩ : ∃ m : Nat, i = -(m : Int) := ⟨i.natAbs, by (clear hn z; omega)⟩
      rw [slicePick_butLast _ m (by lia)]
      simp only []
      congr 1
      omega
    · rw [if_neg hneg]
      obtain ⟨m, rfl⟩ : ∃ m : Nat, i = (m : Int) := ⟨i.toNat, by (clear hn z; omega)⟩
      rw [slicePick_upto']
      simp
  have hav : AVL om2 h2 (slicePick vs none (some i) none).toList (l.take (if i < 0 then (l.length + i).toNat else i.toNat)) := by
    rw [hpick, z]
    exact hv.take _
  have hsz : (h2.push { cls := .type "slice", data := .fields #[.none, .int i t, .none] }).objs.size = h2.objs.size + 1 := Heap.size_push ..
  have := fin_push (C := C) (s := { s with heap := h2.push { cls := .type "slice", data := .fields #[.none, .int i t, .none] }, toks := tk2 }) (s1 := s) (Q := Q) (tk := tk2) hN (S2.own.step ep) (fun b o e => ep b o (S2.fro.base b o e)) (ep.step.avl hav)
    (fun v a om' h' tk p st o r => hQ v a om' h' tk p ((st1.trans (st2.trans ep.step)).trans st) o r)
  simp only [hsz] at this
  exact this
noncomputable def Wl (C : Cx) (k : Nat) (sc : Scope) (σ : Sto) (om : Om) (es : List PySem.Expr) (Φ : List AV → Om → Prop) : Prop :=
  ∀ (A : Around) (env : Env) (pos : Pos) (s : Shared) (E : Value → Shared → Prop) (Q : List Value → Shared → Prop), AOk k A → St C sc σ om env s.heap →
    (∀ vs as om' h' tk, Φ as om' → Step om s.heap om' h' → OwnOk C.h0 om' h' → AVL om' h' vs as → Q vs { s with heap := h', toks := tk }) →
    wpAny (MM C) A (spliced (backTo pos (starEach es env))) Q E s
theorem Wl.nil {Ψ : List AV → Om → Prop} (h : Ψ [] om) : Wl C k sc σ om [] Ψ :=
  fun A env pos s E Q hA S hQ => args_nil (hQ [] [] om s.heap s.toks h Ef.refl S.own .nil)
@[reducible] noncomputable def KL (C : Cx) (k : Nat) (sc : Scope) (σ : Sto) (es : List PySem.Expr) (Ψ : List AV → Om → Prop) : AV → Om → Prop := fun a om1 => Wl C k sc σ om1 es (fun as om2 => Ψ (a :: as) om2)
theorem Wl.cons {e es} {Ψ : List AV → Om → Prop} (x : We C k sc σ om e (KL C k sc σ es Ψ))
    (he : ∀ env, starEach (e :: es) env = (false, eval e env) :: starEach es env := by intros; rfl) : Wl C k sc σ om (e :: es) Ψ := by
  intro A env pos s E Q hA S hQ
  refine args_cons (x.bind hA S fun va a om1 h1 tk1 y st1 S1 ra => ?_) (he env)
  exact y A env pos _ E _ hA S1 fun vs as om' h' tk p st o r => hQ (va :: vs) (a :: as) om' h' tk p (st1.trans st) o (.cons (st.avr ra) r)
theorem Wl.mono {es} {Φ Ψ : List AV → Om → Prop} (x : Wl C k sc σ om es Φ) (h : ∀ a om', Φ a om' → Ψ a om') : Wl C k sc σ om es Ψ :=
  fun A env pos s E Q hA S hQ => x A env pos s E Q hA S fun v a om' h' tk q => hQ v a om' h' tk (h _ _ q)
theorem We.tup {es kd pos} (x : Wl C k sc σ om es (fun as om1 => ∃ ds, as = ds.map .dat ∧ ds.length ≤ 1000 ∧ Φ (.dat (.tuple ds)) om1)) : We C k sc σ om (.Tuple es kd pos) Φ := by
  intro A env s E Q hA S hQ
  refine wpAny_Tuple_spliced (x A env pos s E _ hA S fun vs as om1 h1 tk1 ⟨ds, e1, hn, y⟩ st1 O1 ra => ?_)
  subst e1
  have z := ra.length
  refine ⟨by rw [sizeLine_eq]; simp at z; lia, ?_⟩
  exact fin_tup (s := { s with heap := h1, toks := tk1 }) y O1 (by simpa using ra.denL) fun v a om' h' tk p st o r => hQ v a om' h' tk p (st1.trans st) o r
theorem We.lst {es pos} (x : Wl C k sc σ om es (fun as om1 => as.length ≤ 1000 ∧ NewL om1 as Φ)) : We C k sc σ om (.List es pos) Φ := by
  intro A env s E Q hA S hQ
  refine wpAny_List_spliced (x A env pos s E _ hA S fun vs as om1 h1 tk1 ⟨hn, y⟩ st1 O1 ra => ?_)
  have z := ra.length
  refine ⟨by rw [sizeLine_eq]; lia, ?_⟩
  exact fin_push (s := { s with heap := h1, toks := tk1 }) (s1 := s) y O1 (S.step st1 O1).fro.base (by simpa using ra) fun v a om' h' tk p st o r => hQ v a om' h' tk p (st1.trans st) o r
end
section
variable {C : Cx} {k : Nat} {sc : Scope} {σ : Sto} {om : Om} {Φ : AV → Om → Prop}
noncomputable def Wf (C : Cx) (k : Nat) (f : Str) (om : Om) (as : List AV) (Φ : AV → Om → Prop) : Prop :=
  ∃ a o fd, C.mg f = some (.ref a) ∧ C.h0.get? a = some o ∧ o.data = .func fd ∧ Wc C k (.ref a) om as Φ
theorem Wf.mono {f as} {Φ Ψ : AV → Om → Prop} (x : Wf C k f om as Φ) (h : ∀ a om', Φ a om' → Ψ a om') : Wf C k f om as Ψ :=
  let ⟨a, o, fd, h1, h2, h3, h4⟩ := x; ⟨a, o, fd, h1, h2, h3, h4.mono h⟩
theorem Wf.lift {f as k'} (x : Wf C k' f om as Φ) (h : k' ≤ k) : Wf C k f om as Φ :=
  let ⟨a, o, fd, h1, h2, h3, h4⟩ := x; ⟨a, o, fd, h1, h2, h3, h4.lift h⟩
theorem We.call {f fp e es pos} (x : Wl C k sc σ om (e :: es) (fun as om1 => Wf C k f om1 as Φ)) (hf : sc.names.lookup f = some .globalImplicit)
    (hfn : ∃ a o fd, C.mg f = some (.ref a) ∧ C.h0.get? a = some o ∧ o.data = .func fd)
    (hs : ∀ env, starEach (e :: es) env = (false, eval e env) :: starEach es env := by intros; rfl) (hd : (f == ("__debug__" : Str)) = false := by decide) : We C k sc σ om (.Call (.Name f fp) (e :: es) [] pos) Φ := by
  intro A env s E Q hA S hQ
  obtain ⟨a, o, fd, e1, e2, e3⟩ := hfn
  refine Call_Name rfl ?_
  refine Name_function_global (by rw [S.fro.scope]; exact S.fro.kind) (by show env.scope.names.lookup f = _; rw [S.fro.scope]; exact hf) (loadGlobal_global (mg := C.mg) (by rw [S.fro.glob]; exact C.g.keeps S.fro.base) e1 ?_) hd
  refine callWith_def e3 (x A env pos s E _ hA S fun vs as om1 h1 tk1 ⟨a', o', fd', f1, f2, f3, y⟩ st1 O1 ra => ⟨?_, ?_⟩) (hs env)
  · exact (S.step st1 O1).fro.base _ _ e2
  · rw [e1] at f1; cases f1
    exact y A vs _ E Q hA.toCOk (S.step st1 O1).fro.base O1 ra fun v a om' h' tk p st o r => hQ v a om' h' tk p (st1.trans st) o r
theorem We.bltB {f fp e es pos id} (x : Wl C k sc σ om (e :: es) (fun as om1 => Wc C k (.builtin id) om1 as Φ)) (hf : sc.names.lookup f = some .globalImplicit)
    (hn : f ∈ bltNames) (hv : bootBuiltins f = some (.builtin id))
    (hs : ∀ env, starEach (e :: es) env = (false, eval e env) :: starEach es env := by intros; rfl) (hp : ∀ env pos, (backTo pos (starEach es env)).any (·.1) = false := by intros; rfl)
    (hd : (f == ("__debug__" : Str)) = false := by decide) (hm : f ≠ "__name__" := by decide) : We C k sc σ om (.Call (.Name f fp) (e :: es) [] pos) Φ := by
  intro A env s E Q hA S hQ
  refine Call_Name rfl ?_
  refine Name_function_global (by rw [S.fro.scope]; exact S.fro.kind) (by show env.scope.names.lookup f = _; rw [S.fro.scope]; exact hf)
    (loadGlobal_builtin (mg := C.mg) (mb := C.mb) (by rw [S.fro.glob]; exact C.g.keeps S.fro.base) (C.noglob f hn) (by rw [S.fro.blt]; exact C.b.keeps S.fro.base) ((C.blt f hm).trans hv) ?_) hd
  exact callWith_builtin1 (x A env pos s E _ hA S fun vs as om1 h1 tk1 y st1 O1 ra =>
    y A vs _ E Q hA.toCOk (S.step st1 O1).fro.base O1 ra fun v a om' h' tk p st o r => hQ v a om' h' tk p (st1.trans st) o r) (hs env) (hp env pos)
theorem We.bltT {f fp e es pos T} (x : Wl C k sc σ om (e :: es) (fun as om1 => Wc C k (.type T) om1 as Φ)) (hf : sc.names.lookup f = some .globalImplicit)
    (hn : f ∈ bltNames) (hv : bootBuiltins f = some (.type T))
    (hs : ∀ env, starEach (e :: es) env = (false, eval e env) :: starEach es env := by intros; rfl) (hp : ∀ env pos, (backTo pos (starEach es env)).any (·.1) = false := by intros; rfl)
    (hd : (f == ("__debug__" : Str)) = false := by decide) (hm : f ≠ "__name__" := by decide) : We C k sc σ om (.Call (.Name f fp) (e :: es) [] pos) Φ := by
  intro A env s E Q hA S hQ
  refine Call_Name rfl ?_
  refine Name_function_global (by rw [S.fro.scope]; exact S.fro.kind) (by show env.scope.names.lookup f = _; rw [S.fro.scope]; exact hf)
    (loadGlobal_builtin (mg := C.mg) (mb := C.mb) (by rw [S.fro.glob]; exact C.g.keeps S.fro.base) (C.noglob f hn) (by rw [S.fro.blt]; exact C.b.keeps S.fro.base) ((C.blt f hm).trans hv) ?_) hd
  exact callWith_type1 (x A env pos s E _ hA S fun vs as om1 h1 tk1 y st1 O1 ra =>
    y A vs _ E Q hA.toCOk (S.step st1 O1).fro.base O1 ra fun v a om' h' tk p st o r => hQ v a om' h' tk p (st1.trans st) o r) (hs env) (hp env pos)
theorem Wc.len {a l} (hl : LsOf om a l) (hn : l.length ≤ 2 ^ 24) (h : Φ (.dat (.int l.length)) om) : Wc C k (.builtin "len") om [a] Φ := by
  intro A vs s E Q hA b O hv hQ
  cases hv with
  | cons r1 r2 =>
    cases r2
    obtain ⟨c, ws, n, rfl, hi, hw⟩ := hl.is O r1
    have z := hw.length
    simp only [Array.length_toList] at z
    refine call_len_list (IsL.isList hi) (by lia) ?_
    rw [z]
    exact fin_int O h hQ
theorem Wc.abs {i} (h : Φ (.dat (.int i.natAbs)) om) : Wc C k (.builtin "abs") om [.dat (.int i)] Φ := by
  intro A vs s E Q hA b O hv hQ
  cases hv with
  | cons r1 r2 =>
    cases r2
    cases r1
    refine call_abs_int fun u tk => ?_
    have : (if i < 0 then -i else i) = (i.natAbs : Int) := by split <;> lia
    rw [this]
    exact fin_int O h hQ
theorem Wc.max2 {i j : Int} (h : Φ (.dat (.int (Max.max i j))) om) : Wc C k (.builtin "max") om [.dat (.int i), .dat (.int j)] Φ := by
  intro A vs s E Q hA b O hv hQ
  cases hv with
  | cons r1 r2 =>
    cases r2 with
    | cons r2 r3 =>
      cases r3
      cases r1; cases r2
      refine max_two_ints hA.hd fun h' tk hx => ?_
      have fin : ∀ t, Q (.int (Max.max i j) t) { s with heap := h', toks := tk } := fun t => hQ _ _ om h' tk h (Ext.step hx) (O.step hx) (.int _ _)
      by_cases c : j > i
      · rw [if_pos c]; have := fin; rw [Int.max_eq_right (by lia)] at this; exact this _
      · rw [if_neg c]; have := fin; rw [Int.max_eq_left (by lia)] at this; exact this _
theorem Wc.int {i} (h : Φ (.dat (.int i)) om) : Wc C k (.type "int") om [.dat (.int i)] Φ := by
  intro A vs s E Q hA b O hv hQ
  cases hv with
  | cons r1 r2 =>
    cases r2
    cases r1
    exact call_int_int (hQ _ _ om s.heap s.toks h Ef.refl O (.int _ _))
theorem Wc.list {a l} (hl : LsOf om a l) (hn : l.length ≤ 2 ^ 20) (h : NewL om l Φ) : Wc C k (.type "list") om [a] Φ := by
  intro A vs s E Q hA b O hv hQ
  cases hv with
  | cons r1 r2 =>
    cases r2
    obtain ⟨c, ws, n, rfl, hi, hw⟩ := hl.is O r1
    have z := hw.length
    simp only [Array.length_toList] at z
    refine call_list_seq c (.inl rfl) hi rfl rfl (fun h' c' hx hD => ?_) (by rw [sizeLine_eq]; lia)
    obtain ⟨st, O1⟩ := push_list O b hw h' hx s.heap.objs.size (size_new _) hD
    exact fin_list (om1 := om) (s := s) (tk1 := s.toks) h hQ (O.free (size_new _)) st O1
theorem sumPre (ns : List Int) : ∀ n, n ≤ ns.length → preSum (fun i => ns.getD i 0) n = (ns.take n).sum
  | 0, _ => by simp [preSum]
  | n + 1, h => by
    have e0 : ns[n]? = some ns[n] := List.getElem?_eq_getElem h
    have e : ns.take (n + 1) = ns.take n ++ [ns[n]] := by rw [List.take_add_one, e0]; rfl
    have e2 : ns.getD n 0 = ns[n] := by rw [List.getD_eq_getElem?_getD, e0]; rfl
    rw [preSum, sumPre ns n (by lia), e, List.sum_append, e2]
    simp
theorem Wc.sum {a} {ns : List Int} (hl : LsOf om a (ns.map fun i => .dat (.int i))) (h : Φ (.dat (.int ns.sum)) om) : Wc C k (.builtin "sum") om [a] Φ := by
  intro A vs s E Q hA b O hv hQ
  cases hv with
  | cons r1 r2 =>
    cases r2
    obtain ⟨c, ws, n, rfl, hi, hw⟩ := hl.is O r1
    have z := hw.length
    simp only [Array.length_toList, List.length_map] at z
    have hlst : s.heap.IsList c ws := IsL.isList hi
    refine call_sum_walkAnyS (wpAny_pyIter_list hlst ?_)
    have hne : c ≠ s.heap.objs.size := Nat.ne_of_lt (Heap.lt_size hi)
    refine ⟨_, _, _, _, _, _, _, fun i => ns.getD i 0, rfl, (Walks.list (prog := P) (w := C.w) (A := A.in1) hA.hd s.heap.objs.size c hne ws).toS, ⟨⟨_, Heap.get?_push_size _ rfl, rfl, rfl⟩, hlst.at fun o e => Heap.get?_push_of_some _ e⟩, ?_, ?_, ?_⟩
    · intro x hx
      show x < (s.heap.push _).objs.size
      rw [Heap.size_push]
      simp only [List.mem_cons, List.not_mem_nil, or_false] at hx
      rcases hx with hx | hx
      · rw [hx]; exact Nat.lt_succ_self _
      · rw [hx]; exact Nat.lt_succ_of_lt (Heap.lt_size hi)
    · intro i v hv
      have hv' : ws.toList[i]? = some v := by simpa using hv
      obtain ⟨a, ha, hr⟩ := hw.get' hv'
      rw [List.getElem?_map] at ha
      obtain ⟨m, hm, rfl⟩ := Option.map_eq_some_iff.mp ha
      cases hr
      rename_i t
      exact ⟨t, by simp [List.getD, hm]⟩
    · intro s' t' mv
      rw [z, sumPre ns _ (Nat.le_refl _), List.take_length]
      obtain ⟨mk, mg, md, mo, mt⟩ := mv
      have hx : Ext s.heap s'.heap := fun x o e => mk x o (by simp; exact Nat.ne_of_lt (Heap.lt_size e)) (Heap.get?_push_of_some _ e)
      have he : s' = { s with heap := s'.heap, toks := s'.toks } := by
        obtain ⟨p1, p2, p3, p4, p5⟩ := s'
        simp only at mg md mo
        simp [mg, md, mo]
      rw [he]
      exact hQ _ _ om s'.heap s'.toks h hx.step (O.step hx) (.int _ _)
end
theorem setItem_ex {prog : Program} {w : World} {A : Around} {E : Value → Shared → Prop} {s : Shared} {l : Addr} {items : Array Value} {n : Nat} {k : Int} {t : Tok} {v : Value} {Q : Unit → Shared → Prop} (hl : IsL s.heap l items n)
    (h0 : 0 ≤ k) (hfit : k < 2 ^ 63) (hn : k < items.size)
    (hQ : ∀ h' n', IsL h' l (items.setIfInBounds k.toNat v) n' → Heap.SameBut l s.heap h' → Q () { s with heap := h' }) :
    wpAny (model prog w) A (setItem (.ref l) (.int k t) v) Q E s := by
  have hT : s.heap.IsList l items := IsL.isList hl
  unfold setItem
  try with_reducible refine wpAny_holding ?_
  first | refine wpAny_bind (wpAny_pure ?_) | skip
  refine wpAny_bind (wpAny_sequenceKey hT.typeIs (by decide) ?_)
  refine wpAny_bind (wpAny_callSpecial?_slot (name := Str.ofString "__setitem__") hT.typeIs slot_list_setitem
    (wpAny_call_entry slot_list_setitem hT.typeIs entry_list_setitem ?_ (args_list_setitem _ _ _)))
  show wpAny _ _ (Builtin.List.listSubscript? (.int k t) >>= _) _ _ s
  refine wpAny_bind (wpAny_listSubscript_int (fitsIndex_of h0 hfit) ?_)
  clear hfit
  obtain ⟨j, rfl⟩ := Int.eq_ofNat_of_zero_le h0
  have hj : j < items.size := by lia
  have hx' : items[j]? = some items[j] := Array.getElem?_eq_getElem hj
  show wpAny _ _ ((seqItemAt l j >>= fun r => pure (r.map (j, ·))) >>= _) _ _ s
  refine wpAny_bind (wpAny_bind (wpAny_seqItemAt hl rfl (wpAny_pure ?_)))
  rw [hx']
  show wpAny _ _ (setSeqItemAt l j v >>= _) _ _ s
  have fin := hQ _ _ (IsL.update hl (·.setIfInBounds j v)) (Heap.SameBut.update ..)
  refine wpAny_bind (wpAny_setSeqItemAt hl rfl ?_)
  first
    | exact wpAny_bind (wpAny_pure (wpAny_pure ⟨.none, rfl, wpAny_pure fin⟩))
    | exact wpAny_pure ⟨.none, rfl, wpAny_pure fin⟩
section
variable {C : Cx} {k : Nat} {sc : Scope} {σ : Sto} {om : Om}
theorem own_set {h₀ h h' D l vs n} (O : OwnOk h₀ om h) (e : om D ≠ none) (hs : Heap.SameBut D h h') (hl : IsL h' D vs n) (hv : AVL om h vs.toList l) :
    Step om h (om.set D l) h' ∧ OwnOk h₀ (om.set D l) h' := by
  have st : Step om h (om.set D l) h' := ⟨fun b o _ e1 e2 => hs.extBut b o (fun q => by subst q; exact e e1) e2, fun b q => by
    by_cases hb : b = D
    · subst hb; rw [hl] at q; cases q
    · rwa [hs.2 b hb] at q, fun b q => by
    by_cases hb : b = D
    · subst hb; exact .inl e
    · simp only [Om.set, if_neg hb] at q; exact .inl q⟩
  refine ⟨st, fun a m q => ?_, fun a q => ?_⟩
  · by_cases hb : a = D
    · subst hb
      simp only [Om.set, if_true, Option.some.injEq] at q; subst q
      exact ⟨vs, n, hl, st.avl hv⟩
    · simp only [Om.set, if_neg hb] at q
      obtain ⟨ws, m', h3, h4⟩ := O.at' a m q
      exact ⟨ws, m', hs.extBut _ _ hb h3, st.avl h4⟩
  · by_cases hb : a = D
    · subst hb; exact O.new a e
    · simp only [Om.set, if_neg hb] at q; exact O.new a q
noncomputable def Kd (sc : Scope) (x : Str) : Prop := sc.names.lookup x = some .local ∨ sc.names.lookup x = some .cell
theorem Ns_unique {h : Heap} {L : Addr} {m m' : Str → Option Value} (x : h.Ns L m) (y : h.Ns L m') : m = m' := by
  obtain ⟨o, es, ep, h1, h2, _, h3⟩ := x
  obtain ⟨o', es', ep', g1, g2, _, g3⟩ := y
  rw [h1] at g1; cases g1
  rw [h2] at g2; cases g2
  funext z; rw [← h3, ← g3]
theorem Fro.kof {env : Env} {h : Heap} (F : Fro C sc env h) (y : Str) : env.kindOf y = sc.names.lookup y := by show env.scope.names.lookup y = _; rw [F.scope]
theorem Fro.fk {env : Env} {h : Heap} (F : Fro C sc env h) : env.scope.kind = .function := by rw [F.scope]; exact F.kind
theorem own_put {h₀ h h' p} (O : OwnOk h₀ om h) (hs : Heap.SameBut p h h') (ef : Ef (fun b => b = p) om h om h') (ns : NoSeq (fun b => b = p) h) : OwnOk h₀ om h' := by
  refine ⟨fun b l e => ?_, O.new⟩
  obtain ⟨ws, m, h1, h2⟩ := O.at' b l e
  by_cases hb : b = p
  · exact absurd rfl (ns b _ hb h1 _ _)
  · exact ⟨ws, m, hs.extBut _ _ hb h1, ef.avl ns h2⟩
theorem put_ef {h h' p} (hs : Heap.SameBut p h h') (hp : h'.get? p ≠ none) : Ef (fun b => b = p) om h om h' :=
  ⟨fun b o hb _ e => hs.extBut b o hb e, fun b e => (by
    by_cases hb : b = p
    · subst hb; exact absurd e hp
    · rwa [hs.2 b hb] at e), fun _ e => .inl e⟩
theorem store_ok {A : Around} {env : Env} {s : Shared} {E : Value → Shared → Prop} {Q : Unit → Shared → Prop} {x : Str} {v : Value} {a : AV} (S : St C sc σ om env s.heap) (hk : Kd sc x) (hv : AVR om s.heap v a)
    (h : ∀ p h' tk, (p = env.locals ∨ (env.kindOf x = some .cell ∧ env.cells.lookup x = some p)) → Heap.SameBut p s.heap h' → Ef (fun b => b = p) om s.heap om h' → St C sc (σ.set x a) om env h' → Q () { s with heap := h', toks := tk }) :
    wpAny (MM C) A (storeName env x v) Q E s := by
  have F := S.fro
  obtain ⟨m, hm⟩ := F.ns
  obtain ⟨oL, es, ep, hoL, hdL, _⟩ := id hm
  rcases hk with hk | hk
  · refine wpAny_storeName_local (by rw [F.kof]; exact hk) hm (fun h' hn hs => ?_) (by rw [F.fk]; rfl)
    have hp : h'.get? env.locals ≠ none := by obtain ⟨o, _, _, e, _⟩ := hn; rw [e]; exact Option.some_ne_none _
    have ef := put_ef (om := om) hs hp
    have ns : NoSeq (fun b => b = env.locals) s.heap := by
      rintro b o rfl e vs n q
      rw [hoL] at e; cases e; rw [hdL] at q; cases q
    have cne : ∀ y c, env.cells.lookup y = some c → c ≠ env.locals := by
      rintro y c hc rfl
      obtain ⟨u, o, e1, e2⟩ := F.cell y _ hc
      rw [hoL] at e1; cases e1; rw [hdL] at e2; cases e2
    refine h env.locals h' _ (.inl rfl) hs ef ⟨⟨ef.ext S.own (fun b q => by subst q; exact F.nsNew) F.base, F.scope, F.kind, F.glob, F.blt, ⟨_, hn⟩, F.nsNew, fun y c hc => ?_, F.cellNew, F.apart, F.cellAll⟩, own_put S.own hs ef ns, fun y b hb => ?_⟩
    · obtain ⟨u, hu⟩ := F.cell y c hc
      exact ⟨u, hu.sameBut hs (cne y c hc)⟩
    · by_cases hy : y = x
      · subst hy
        simp only [Sto.set, if_true, Option.some.injEq] at hb; subst hb
        exact ⟨v, .inl ⟨by rw [F.kof]; exact hk, _, hn, by simp⟩, ef.avr ns hv⟩
      · simp only [Sto.set, if_neg hy] at hb
        obtain ⟨u, r, hu⟩ := S.rd y b hb
        refine ⟨u, ?_, ef.avr ns hu⟩
        rcases r with ⟨hl, m2, hm2, e⟩ | ⟨hl, c, hc, e⟩
        · exact .inl ⟨hl, _, hn, by simp only [if_neg hy]; rw [Ns_unique hm hm2]; exact e⟩
        · exact .inr ⟨hl, c, hc, e.sameBut hs (cne y c hc)⟩
  · obtain ⟨c, hc⟩ := F.cellAll x hk
    obtain ⟨u, hu⟩ := F.cell x c hc
    obtain ⟨oc, hoc, hdc⟩ := id hu
    have hkc : env.kindOf x = some .cell := by rw [F.kof]; exact hk
    refine wpAny_storeName_cell F.fk hkc hc hu (fun h' hn hs => ?_)
    have hp : h'.get? c ≠ none := by obtain ⟨o, e, _⟩ := hn; rw [e]; exact Option.some_ne_none _
    have ef := put_ef (om := om) hs hp
    have ns : NoSeq (fun b => b = c) s.heap := by
      rintro b o rfl e vs n q
      rw [hoc] at e; cases e; rw [hdc] at q; cases q
    have lne : env.locals ≠ c := by
      rintro rfl
      rw [hoL] at hoc; cases hoc; rw [hdL] at hdc; cases hdc
    refine h c h' s.toks (.inr ⟨hkc, hc⟩) hs ef ⟨⟨ef.ext S.own (fun b q => by subst q; exact F.cellNew x _ hc) F.base, F.scope, F.kind, F.glob, F.blt, ⟨m, hm.sameBut hs lne⟩, F.nsNew, fun y c' hc' => ?_, F.cellNew, F.apart, F.cellAll⟩, own_put S.own hs ef ns, fun y b hb => ?_⟩
    · by_cases hy : c' = c
      · subst hy; exact ⟨_, hn⟩
      · obtain ⟨u', hu'⟩ := F.cell y c' hc'
        exact ⟨u', hu'.sameBut hs hy⟩
    · by_cases hy : y = x
      · subst hy
        simp only [Sto.set, if_true, Option.some.injEq] at hb; subst hb
        exact ⟨v, .inr ⟨.inl hkc, c, hc, hn⟩, ef.avr ns hv⟩
      · simp only [Sto.set, if_neg hy] at hb
        obtain ⟨u', r, hu'⟩ := S.rd y b hb
        refine ⟨u', ?_, ef.avr ns hu'⟩
        rcases r with ⟨hl, m2, hm2, e⟩ | ⟨hl, c', hc', e⟩
        · exact .inl ⟨hl, m2, hm2.sameBut hs lne, e⟩
        · exact .inr ⟨hl, c', hc', e.sameBut hs (fun q => hy (F.apart y x c' hc' (q ▸ hc)))⟩
noncomputable def Wa (C : Cx) (k : Nat) (sc : Scope) (σ : Sto) (om : Om) (t : PySem.Expr) (a : AV) (Φ : Sto → Om → Prop) : Prop :=
  ∀ (A : Around) (env : Env) (v : Value) (s : Shared) (E : Value → Shared → Prop) (Q : Unit → Shared → Prop), AOk k A → St C sc σ om env s.heap → AVR om s.heap v a →
    (∀ σ' om' h' tk, Φ σ' om' → Ef (Wr env) om s.heap om' h' → St C sc σ' om' env h' → Q () { s with heap := h', toks := tk }) →
    wpAny (MM C) A (assign t env v) Q E s
theorem Wa.name {x p a} {Φ : Sto → Om → Prop} (h : Φ (σ.set x a) om) (hk : Kd sc x) : Wa C k sc σ om (.Name x p) a Φ := by
  intro A env v s E Q hA S hv hQ
  refine wpAny_assign_Name (store_ok S hk hv fun p h' tk hp hs ef S' => hQ _ _ h' tk h (ef.weak ?_) S')
  rintro b rfl
  rcases hp with q | ⟨q1, q2⟩
  · exact .inl q
  · exact .inr ⟨x, q1, q2⟩
theorem put_list {A : Around} {E : Value → Shared → Prop} {s : Shared} {Q : Unit → Shared → Prop} {vo vi v : Value} {D : Addr} {l : List AV} {i : Int} {a : AV} (O : OwnOk C.h0 om s.heap)
    (ro : AVR om s.heap vo (.own D)) (ri : AVR om s.heap vi (.dat (.int i))) (hl : om D = some l) (hi : 0 ≤ i) (hi2 : i < l.length) (hlen : l.length ≤ 2 ^ 20) (hv : AVR om s.heap v a)
    (hQ : ∀ h', Step om s.heap (om.set D (l.set i.toNat a)) h' → OwnOk C.h0 (om.set D (l.set i.toNat a)) h' → Q () { s with heap := h' }) :
    wpAny (MM C) A (setItem vo vi v) Q E s := by
  cases ri
  obtain rfl : vo = .ref D := ro
  obtain ⟨vs, n, h1, h2⟩ := O.at' D l hl
  have z := h2.length
  simp only [Array.length_toList] at z
  refine setItem_ex h1 hi (by (clear hi; lia)) (by (clear hi hlen; lia)) fun h' n' hl' hs => ?_
  obtain ⟨st, o⟩ := own_set (l := l.set i.toNat a) O (by rw [hl]; exact Option.some_ne_none _) hs hl' (by simpa using AVL.set hv h2 i.toNat)
  exact hQ h' st o
theorem assign_Subscript (o i : PySem.Expr) (pos : Pos) (env : Env) (v : Value) : assign (.Subscript o i pos) env v = (do
    let ov ← holding [v] (eval o env)
    let iv ← holding [v, ov] (eval i env)
    standAt pos
    holding [v, ov, iv] (setItem ov iv v)
    release (match i with | .Slice _ _ none _ => [iv, v, ov] | _ => [v, ov, iv]) []) := by rfl
theorem rel_any {M : Model} {A : Around} {s : Shared} {E : Value → Shared → Prop} {Q : Unit → Shared → Prop} {vs ws : List Value} (h : Q () s) : wpAny M A (release vs ws) Q E s := fun Γ p _ => by
  rw [Sem.wp_release]; exact h
theorem Wa.sub {o i pos a} {Φ : Sto → Om → Prop} (x : We C k sc σ om o (fun b om1 => We C k sc σ om1 i (fun c om2 => ∃ D j l, b = .own D ∧ c = .dat (.int j) ∧ om2 D = some l ∧ 0 ≤ j ∧ j < l.length ∧ l.length ≤ 2 ^ 20 ∧ Φ σ (om2.set D (l.set j.toNat a))))) :
    Wa C k sc σ om (.Subscript o i pos) a Φ := by
  intro A env v s E Q hA S hv hQ
  rw [assign_Subscript]
  refine wpAny_bind (wpAny_holding (x.bind hA S fun vo b om1 h1 tk1 y st1 S1 ro => wpAny_bind (wpAny_holding (y.bind hA S1 fun vi c om2 h2 tk2 ⟨D, j, l, e1, e2, hl, hj, hj2, hn, z⟩ st2 S2 ri => ?_))))
  subst e1 e2
  refine wpAny_bind (wpAny_standAt (wpAny_bind (wpAny_holding (put_list S2.own (st2.avr ro) ri hl hj hj2 hn (Step.avr (st1.trans st2) hv) fun h' st3 O3 => rel_any ?_))))
  exact hQ σ _ h' tk2 z (Step.weak ((st1.trans st2).trans st3)) (S2.step st3 O3)
end
section
variable {C : Cx} {k : Nat} {sc : Scope} {σ : Sto} {om : Om} {Φ : Fl → Sto → Om → Prop}
@[reducible] noncomputable def KS (C : Cx) (k : Nat) (sc : Scope) (rest : List Stmt) (Φ : Fl → Sto → Om → Prop) : Fl → Sto → Om → Prop := fun f σ1 om1 => match f with | .nx => Wx C k sc σ1 om1 rest Φ | f => Φ f σ1 om1
theorem Wx.nil (h : Φ .nx σ om) : Wx C k sc σ om [] Φ := fun A env s E Q hA S hQ => wpAny_execs_nil (hQ .next .nx σ om s.heap s.toks h Ef.refl S trivial)
theorem Wx.cons {st rest} (x : Ws C k sc σ om st (KS C k sc rest Φ)) : Wx C k sc σ om (st :: rest) Φ := by
  intro A env s E Q hA S hQ
  refine wpAny_execs_cons (x A env s E _ hA S fun fl f σ1 om1 h1 tk1 y ef S1 r => ?_)
  cases f with
  | nx =>
    cases fl <;> first | exact r.elim | skip
    exact y A env _ E _ hA S1 fun fl' f' σ' om' h' tk p ef' S' r' => hQ fl' f' σ' om' h' tk p (ef.trans ef') S' r'
  | br => cases fl <;> first | exact r.elim | exact hQ _ _ σ1 om1 h1 tk1 y ef S1 r
  | ct => cases fl <;> first | exact r.elim | exact hQ _ _ σ1 om1 h1 tk1 y ef S1 r
  | rt a => cases fl <;> first | exact r.elim | exact hQ _ _ σ1 om1 h1 tk1 y ef S1 r
theorem Ws.ret {e pos} (x : We C k sc σ om e (fun a om1 => Φ (.rt a) σ om1)) : Ws C k sc σ om (.Return (some e) pos) Φ := by
  intro A env s E Q hA S hQ
  exact wpAny_Return_some (x.bind hA S fun v a om1 h1 tk1 y st S1 r => hQ (.ret v) (.rt a) σ om1 h1 tk1 y st.weak S1 r)
theorem Ws.expr {e pos} (x : We C k sc σ om e (fun a om1 => a = .dat .none ∧ Φ .nx σ om1)) (hs : ∀ env, swapsWith e none pos.line env = pure false := by intros; rfl) : Ws C k sc σ om (.Expr e pos) Φ := by
  intro A env s E Q hA S hQ
  refine wpAny_Expr (x.bind hA S fun v a om1 h1 tk1 ⟨e1, y⟩ st S1 r => ?_) (by unfold interactive; rw [S.fro.fk]; rfl) (hs env)
  subst e1
  cases r
  exact hQ .next .nx σ om1 h1 tk1 y st.weak S1 trivial
theorem Ws.cont {pos} (h : Φ .ct σ om) : Ws C k sc σ om (.Continue pos) Φ := fun A env s E Q hA S hQ => wpAny_Continue (hQ .cont .ct σ om s.heap s.toks h Ef.refl S trivial)
theorem Ws.ite {t b o pos} (x : Wt C k sc σ om t (fun c om1 => if c then Wx C k sc σ om1 b Φ else Wx C k sc σ om1 o Φ)) : Ws C k sc σ om (.If t b o pos) Φ := by
  intro A env s E Q hA S hQ
  refine wpAny_If (x A env s E _ hA S fun c om1 h1 tk1 y st O1 => ?_)
  cases c with
  | true => exact y A env _ E _ hA (S.step st O1) fun fl' f' σ' om' h' tk p ef' S' r' => hQ fl' f' σ' om' h' tk p (st.weak.trans ef') S' r'
  | false => exact y A env _ E _ hA (S.step st O1) fun fl' f' σ' om' h' tk p ef' S' r' => hQ fl' f' σ' om' h' tk p (st.weak.trans ef') S' r'
theorem Wr_sub {env : Env} {x : Str} {p : Addr} (hp : p = env.locals ∨ (env.kindOf x = some .cell ∧ env.cells.lookup x = some p)) : ∀ b, b = p → Wr env b := by
  rintro b rfl
  rcases hp with q | ⟨q1, q2⟩
  · exact .inl q
  · exact .inr ⟨x, q1, q2⟩
theorem Ws.assign {x p e pos} (y : We C k sc σ om e (fun a om1 => Φ .nx (σ.set x a) om1)) (hk : Kd sc x) (hs : ∀ env, swapsWith e (some (.Name x p)) pos.line env = pure false := by intros; rfl) : Ws C k sc σ om (.Assign [.Name x p] e pos) Φ := by
  intro A env s E Q hA S hQ
  refine wpAny_Assign_Name (y.bind hA S fun v a om1 h1 tk1 z st S1 r => store_ok S1 hk r fun q h' tk hp hs ef S' => ?_) (hs env)
  exact hQ .next .nx _ om1 h' tk z (st.weak.trans (ef.weak (Wr_sub hp))) S' trivial
theorem Ws.assignSub {o i p e pos} (y : We C k sc σ om e (fun a om1 => We C k sc σ om1 o (fun b om2 => We C k sc σ om2 i (fun c om3 =>
      ∃ D j l, b = .own D ∧ c = .dat (.int j) ∧ om3 D = some l ∧ 0 ≤ j ∧ j < l.length ∧ l.length ≤ 2 ^ 20 ∧ Φ .nx σ (om3.set D (l.set j.toNat a))))))
    (hs : ∀ env, swapsWith e (some (.Subscript o i p)) pos.line env = pure false := by intros; rfl) : Ws C k sc σ om (.Assign [.Subscript o i p] e pos) Φ := by
  intro A env s E Q hA S hQ
  refine wpAny_Assign_Subscript (y.bind hA S fun v a om1 h1 tk1 z st1 S1 r => z.bind hA S1 fun vo b om2 h2 tk2 z2 st2 S2 ro => z2.bind hA S2 fun vi c om3 h3 tk3 ⟨D, j, l, e1, e2, hl, hj, hj2, hn, z3⟩ st3 S3 ri => ?_) (hs env)
  subst e1 e2
  refine put_list S3.own (st3.avr ro) ri hl hj hj2 hn (Step.avr (st2.trans st3) r) fun h' st4 O4 => ?_
  exact hQ .next .nx σ _ h' tk3 z3 (Step.weak (((st1.trans st2).trans st3).trans st4)) (S3.step st4 O4) trivial
theorem Ws.augSub {x p e pos} {i : Int} (hx : σ x = some (.dat (.int i))) (y : We C k sc σ om e (fun a om1 => ∃ j, a = .dat (.int j) ∧ Φ .nx (σ.set x (.dat (.int (i - j)))) om1)) (hk : Kd sc x) : Ws C k sc σ om (.AugAssign (.Name x p) .Sub e pos) Φ := by
  intro A env s E Q hA S hQ
  obtain ⟨v, r, hv⟩ := S.rd x _ hx
  refine wpAny_AugAssign_Name ?_
  have go : wpAny (MM C) A (eval e env) (fun w s₂ => wpAny (MM C) A (inplaceOp .Sub v w) (fun r s₃ => wpAny (MM C) A (storeName env x r) (fun _ => Q .next) E s₃) E s₂) E s := by
    refine y.bind hA S fun w a om1 h1 tk1 ⟨j, e1, z⟩ st1 S1 ra => ?_
    subst e1
    cases hv; cases ra
    refine isub_int (store_ok (s := { s with heap := h1, toks := tk1 + 1 }) S1 hk (a := .dat (.int (i - j))) (.int _ _) fun q h' tk hp hs ef S' => ?_)
    exact hQ .next .nx _ om1 h' tk z (st1.weak.trans (ef.weak (Wr_sub hp))) S' trivial
  have hkf : env.scope.kind = .function := S.fro.fk
  rcases r with ⟨hl, m, hm, hv⟩ | ⟨hl, c, hc', hv⟩
  · exact wpAny_loadName_local hkf hl hm hv go
  · rcases hl with hl | hl
    · exact wpAny_loadName_cell hkf hl hc' hv go
    · rw [S.fro.kof] at hl
      rcases hk with q | q <;> rw [q] at hl <;> cases hl
noncomputable def Was (C : Cx) (k : Nat) (sc : Scope) (σ : Sto) (om : Om) : List PySem.Expr → List AV → (Sto → Om → Prop) → Prop
  | [], [], Φ => Φ σ om
  | t :: ts, a :: as, Φ => Wa C k sc σ om t a (fun σ' om' => Was C k sc σ' om' ts as Φ)
  | _, _, _ => False
theorem Was.run {ts as} : ∀ {σ om} {Φ : Sto → Om → Prop} (x : Was C k sc σ om ts as Φ) {A : Around} {env : Env} {vs : List Value} {s : Shared} {E : Value → Shared → Prop} {Q : Unit → Shared → Prop}, AOk k A → St C sc σ om env s.heap → AVL om s.heap vs as →
    (∀ σ' om' h' tk, Φ σ' om' → Ef (Wr env) om s.heap om' h' → St C sc σ' om' env h' → Q () { s with heap := h', toks := tk }) →
    wpAny (MM C) A (assignInOrder (ts.map fun t => PySem.assign t env) vs) Q E s := by
  induction ts generalizing as with
  | nil =>
    intro σ om Φ x A env vs s E Q hA S hv hQ
    cases as with
    | nil => cases hv; exact wpAny_pure (hQ σ om s.heap s.toks x Ef.refl S)
    | cons a as => exact x.elim
  | cons t ts ih =>
    intro σ om Φ x A env vs s E Q hA S hv hQ
    cases as with
    | nil => exact x.elim
    | cons a as =>
      cases hv with
      | cons h1 h2 =>
        rename_i v vs
        show wpAny (MM C) A (do holding vs (PySem.assign t env v); assignInOrder (ts.map fun t => PySem.assign t env) vs) Q E s
        refine wpAny_bind (wpAny_holding (x A env v s E _ hA S h1 fun σ' om' h' tk p ef S' => ?_))
        exact ih p hA S' (ef.avl S.fro.noSeq h2) fun σ'' om'' h'' tk' p' ef' S'' => hQ σ'' om'' h'' tk' p' (ef.trans ef') S''
noncomputable def setAll (σ : Sto) : List Str → List AV → Sto
  | x :: xs, a :: as => setAll (σ.set x a) xs as
  | _, _ => σ
theorem bindsRun {A : Around} {env : Env} {E : Value → Shared → Prop} : ∀ (xs : List Str) {as : List AV} {σ : Sto} {vs : List Value} {s : Shared} {Q : Unit → Shared → Prop}, (∀ x ∈ xs, Kd sc x) → xs.length = as.length → St C sc σ om env s.heap → AVL om s.heap vs as →
    (∀ h' tk, Ef (Wr env) om s.heap om h' → St C sc (setAll σ xs as) om env h' → Q () { s with heap := h', toks := tk }) →
    wpAny (MM C) A (assignInOrder (xs.map fun n => bindName env n) vs) Q E s
  | [], as, σ, vs, s, Q, hk, hl, S, hv, hQ => by
    cases as with
    | nil => exact wpAny_pure (hQ s.heap s.toks Ef.refl S)
    | cons a as => cases hl
  | x :: xs, [], _, _, _, _, _, hl, _, _, _ => nomatch hl
  | x :: xs, a :: as, σ, _, s, Q, hk, hl, S, .cons (v := v) (vs := vs) h1 h2, hQ => by
    show wpAny (MM C) A (do holding vs (bindName env x v); assignInOrder (xs.map fun n => bindName env n) vs) Q E s
    refine wpAny_bind (wpAny_holding (wpAny_bindName (store_ok S (hk x (.head _)) h1 fun p h' tk hp hs ef S' => ?_)))
    have ef' := ef.weak (Wr_sub hp)
    exact bindsRun xs (fun y hy => hk y (.tail _ hy)) (by simpa using hl) S' (ef'.avl S.fro.noSeq h2) fun h'' tk' ef'' S'' => hQ h'' tk' (ef'.trans ef'') S''
theorem tup_run {A : Around} {env : Env} {E : Value → Shared → Prop} {es : List PySem.Expr} {kd : Nat} {pos : Pos} {n : Nat} {Ψ : List AV → Om → Prop} {s : Shared} {Q : List Value → Shared → Prop} (x : Wl C k sc σ om es (fun as om1 => as.length = n ∧ n ≤ 1000 ∧ Ψ as om1)) (hA : AOk k A) (S : St C sc σ om env s.heap)
    (hQ : ∀ vs as om1 h' tk, Ψ as om1 → Step om s.heap om1 h' → St C sc σ om1 env h' → AVL om1 h' vs as → Q vs { s with heap := h', toks := tk }) :
    wpAny (MM C) A (eval (.Tuple es kd pos) env) (fun v s₁ => wpAny (MM C) A (unpackItems v n none) Q E s₁) E s := by
  refine wpAny_Tuple_spliced (x A env pos s E _ hA S fun vs as om1 h1 tk1 ⟨e1, hn, y⟩ st1 O1 ra => ?_)
  have z := ra.length
  refine ⟨by rw [sizeLine_eq]; lia, ?_⟩
  have S1 := S.step st1 O1
  have ex := Ext.push h1 { cls := .type "tuple", data := .seq vs.toArray }
  have ht : IsTup (h1.push { cls := .type "tuple", data := .seq vs.toArray }) h1.objs.size vs.toArray := ⟨_, Heap.get?_push_size _ rfl, rfl, 0, rfl⟩
  have hsz : n = vs.toArray.size := by simp; lia
  rw [hsz]
  refine unpackItems_tuple (s := { s with heap := h1.push { cls := .type "tuple", data := .seq vs.toArray }, toks := tk1 }) hA.hd ht fun h' he => ?_
  have ex2 : Ext (h1.push { cls := .type "tuple", data := .seq vs.toArray }) h' := fun b o e => he b o (Nat.ne_of_lt (Heap.lt_size e)) e
  have ex3 := ex.trans ex2
  have := hQ vs as om1 h' tk1 y (st1.trans ex3.step) (S1.ext ex3) (ex3.step.avl ra)
  simpa using this
theorem AVL.rev {om h} : ∀ {vs as}, AVL om h vs as → AVL om h vs.reverse as.reverse
  | _, _, .nil => .nil
  | _, _, .cons x y => by simp only [List.reverse_cons]; exact (AVL.rev y).append (.cons x .nil)
theorem Ws.swap {ts es k1 p1 k2 p2 pos names} (x : Wl C k sc σ om es (fun as om1 => as.length = names.length ∧ names.length ≤ 1000 ∧ Φ .nx (setAll σ names.reverse as.reverse) om1)) (hk : ∀ y ∈ names, Kd sc y)
    (hw : ∀ env, env.scope = sc → swappedStores [.Tuple ts k1 p1] (.Tuple es k2 p2) env = pure (some names))
    (hs : ∀ env, swapsWithSole [.Tuple ts k1 p1] (.Tuple es k2 p2) pos.line env = pure false := by intros; rfl) : Ws C k sc σ om (.Assign [.Tuple ts k1 p1] (.Tuple es k2 p2) pos) Φ := by
  intro A env s E Q hA S hQ
  refine Assign_Tuple_swapped (tup_run (Ψ := fun as om1 => as.length = names.length ∧ Φ .nx (setAll σ names.reverse as.reverse) om1) (x.mono fun as om1 ⟨a, b, c⟩ => ⟨a, b, a, c⟩) hA S fun vs as om1 h1 tk1 ⟨y0, y⟩ st1 S1 ra => ?_) (hs env) (hw env S.fro.scope)
  exact bindsRun names.reverse (as := as.reverse) (fun y hy => hk y (List.mem_reverse.mp hy)) (by simp [y0]) S1 ra.rev fun h' tk ef S' => hQ .next .nx _ om1 h' tk y (st1.weak.trans ef) S' trivial
theorem each_plain {ts : List PySem.Expr} (h : ∀ t ∈ ts, ∀ u p, t ≠ .Starred u p) (env : Env) : (assignEach ts env).map (·.2) = ts.map fun t => PySem.assign t env := by
  induction ts with
  | nil => rfl
  | cons t ts ih =>
    have e : assignEach (t :: ts) env = (false, PySem.assign t env) :: assignEach ts env := by
      cases t <;> first | rfl | exact absurd rfl (h _ (.head _) _ _)
    rw [e, List.map_cons, List.map_cons, ih fun u hu => h u (.tail _ hu)]
theorem each_len {ts : List PySem.Expr} (env : Env) : (assignEach ts env).length = ts.length := by
  induction ts with
  | nil => rfl
  | cons t ts ih =>
    cases t <;> simp [assignEach, ih]
theorem each_star {ts : List PySem.Expr} (h : ∀ t ∈ ts, ∀ u p, t ≠ .Starred u p) (env : Env) : (assignEach ts env).findIdx? (·.1) = none := by
  induction ts with
  | nil => rfl
  | cons t ts ih =>
    have e : assignEach (t :: ts) env = (false, PySem.assign t env) :: assignEach ts env := by
      cases t <;> first | rfl | exact absurd rfl (h _ (.head _) _ _)
    rw [e, List.findIdx?_cons]
    simp [ih fun u hu => h u (.tail _ hu)]
noncomputable def plainTs (ts : List PySem.Expr) : Bool := ts.all fun t => match t with | .Starred .. => false | _ => true
theorem plainTs_ok {ts : List PySem.Expr} (h : plainTs ts = true) : ∀ t ∈ ts, ∀ u p, t ≠ .Starred u p := by
  intro t ht u p e
  have := List.all_eq_true.mp h t ht
  subst e
  simp at this
theorem Ws.assignTT {ts es k1 p1 k2 p2 pos} (x : Wl C k sc σ om es (fun as om1 => as.length = ts.length ∧ ts.length ≤ 1000 ∧ Was C k sc σ om1 ts as (fun σ' om' => Φ .nx σ' om'))) (hp : plainTs ts = true)
    (hw : ∀ env, env.scope = sc → swappedStores [.Tuple ts k1 p1] (.Tuple es k2 p2) env = pure none)
    (hs : ∀ env, swapsWithSole [.Tuple ts k1 p1] (.Tuple es k2 p2) pos.line env = pure false := by intros; rfl) : Ws C k sc σ om (.Assign [.Tuple ts k1 p1] (.Tuple es k2 p2) pos) Φ := by
  intro A env s E Q hA S hQ
  refine Assign_Tuple ?_ (hs env) (hw env S.fro.scope)
  have hp' := plainTs_ok hp
  refine wpAny_Tuple_spliced (x A env p2 s E _ hA S fun vs as om1 h1 tk1 ⟨e1, hn, y⟩ st1 O1 ra => ?_)
  have z := ra.length
  refine ⟨by rw [sizeLine_eq]; lia, ?_⟩
  have S1 := S.step st1 O1
  have ex := Ext.push h1 { cls := .type "tuple", data := .seq vs.toArray }
  have ht : (h1.push { cls := .type "tuple", data := .seq vs.toArray }).IsTuple h1.objs.size vs.toArray := ⟨_, Heap.get?_push_size _ rfl, rfl, 0, rfl⟩
  refine wpAny_assign_Tuple (s := { s with heap := h1.push { cls := .type "tuple", data := .seq vs.toArray }, toks := tk1 }) hA.hd ht (by rw [each_len]; simp; lia) (each_star hp' env) fun h' he => ?_
  have ex2 : Ext (h1.push { cls := .type "tuple", data := .seq vs.toArray }) h' := fun b o e => he b o (Nat.ne_of_lt (Heap.lt_size e)) e
  have ex3 := ex.trans ex2
  rw [each_plain hp']
  exact Was.run (s := { s with heap := h', toks := tk1 }) y hA (S1.ext ex3) (by simpa using ex3.step.avl ra) fun σ' om' h'' tk p ef S' => hQ .next .nx σ' om' h'' tk p ((Step.weak (st1.trans ex3.step)).trans ef) S' trivial
theorem AVR.tup {om : Om} {h : Heap} {v : Value} {ds : List PyData} (r : AVR om h v (.dat (.tuple ds))) : ∃ b vs n, v = .ref b ∧ IsT h b vs n ∧ DenL om h vs.toList ds := by
  have r' : Den om h v (.tuple ds) := r
  cases r' with
  | tuple _ h1 h2 => exact ⟨_, _, _, rfl, h1, h2⟩
theorem Ws.assignT {ts e k1 p1 pos} (x : We C k sc σ om e (fun a om1 => ∃ ds, a = .dat (.tuple ds) ∧ ds.length = ts.length ∧ Was C k sc σ om1 ts (ds.map .dat) (fun σ' om' => Φ .nx σ' om'))) (hp : plainTs ts = true)
    (hw : ∀ env, swappedStores [.Tuple ts k1 p1] e env = pure none := by intros; rfl)
    (hs : ∀ env, swapsWithSole [.Tuple ts k1 p1] e pos.line env = pure false := by intros; rfl) : Ws C k sc σ om (.Assign [.Tuple ts k1 p1] e pos) Φ := by
  intro A env s E Q hA S hQ
  refine Assign_Tuple (x.bind hA S fun v a om1 h1 tk1 ⟨ds, e1, hl, y⟩ st1 S1 ra => ?_) (hs env) (hw env)
  subst e1
  have hp' := plainTs_ok hp
  obtain ⟨b, vs, n, rfl, hT, hD⟩ := AVR.tup ra
  have z := hD.length
  simp only [Array.length_toList] at z
  refine wpAny_assign_Tuple (s := { s with heap := h1, toks := tk1 }) hA.hd ⟨_, hT, rfl, n, rfl⟩ (by rw [each_len, z, hl]) (each_star hp' env) fun h' he => ?_
  have ex : Ext h1 h' := fun b o e => he b o (Nat.ne_of_lt (Heap.lt_size e)) e
  rw [each_plain hp']
  exact Was.run (s := { s with heap := h', toks := tk1 }) y hA (S1.ext ex) (ex.step.denL hD).avl fun σ' om' h'' tk p ef S' => hQ .next .nx σ' om' h'' tk p ((Step.weak (st1.trans ex.step)).trans ef) S' trivial
end
section
variable {C : Cx} {k : Nat} {sc : Scope} {σ : Sto} {om : Om}
theorem cellsFrom_has {x : Str} : ∀ {names : List (Str × NameKind)} {n : Nat} {acc : List (Str × Addr)}, (names.lookup x = some .cell ∨ (acc.lookup x).isSome = true) → ((cellsFrom n names acc).lookup x).isSome = true
  | [], n, acc, h => by simpa [cellsFrom] using h
  | (y, kd) :: r, n, acc, h => by
    unfold cellsFrom
    by_cases hx : x = y
    · subst hx
      by_cases hk : kd = .cell
      · subst hk
        simp only [beq_self_eq_true, if_true]
        exact cellsFrom_has (.inr (by simp [List.lookup_cons]))
      · have hb : (kd == NameKind.cell) = false := by simpa using hk
        rw [hb]
        simp only [Bool.false_eq_true, if_false]
        refine cellsFrom_has (.inr (h.resolve_left (by simp [List.lookup_cons]; exact hk)))
    · have hb : (x == y) = false := beq_eq_false_iff_ne.mpr hx
      have h' : r.lookup x = some .cell ∨ (acc.lookup x).isSome = true := by simpa [List.lookup_cons, hb] using h
      split
      · exact cellsFrom_has (h'.imp id fun q => by simpa [List.lookup_cons, hb] using q)
      · exact cellsFrom_has h'
theorem bindL_get {kd : Str → Option NameKind} {x : Str} {v : Value} : ∀ {binds : List (Str × Value)} {m : Str → Option Value}, (binds.map (·.1)).Nodup → (x, v) ∈ binds → kd x = some .local → bindL kd binds m x = some v := by
  have stay : ∀ {binds : List (Str × Value)} {m : Str → Option Value}, x ∉ binds.map (·.1) → bindL kd binds m x = m x := by
    intro binds
    induction binds with
    | nil => intro m _; rfl
    | cons b r ih =>
      intro m h
      obtain ⟨y, u⟩ := b
      simp only [List.map_cons, List.mem_cons, not_or] at h
      unfold bindL
      rw [ih h.2]
      split
      · simp [h.1]
      · rfl
  intro binds
  induction binds with
  | nil => intro m _ h; cases h
  | cons b r ih =>
    intro m hn h hk
    obtain ⟨y, u⟩ := b
    simp only [List.map_cons, List.nodup_cons] at hn
    unfold bindL
    rcases List.mem_cons.mp h with e | h
    · cases e
      rw [stay hn.1, if_pos hk]; simp
    · exact ih hn.2 h hk
theorem bindC_get {kd : Str → Option NameKind} {x : Str} {v : Value} : ∀ {binds : List (Str × Value)} {m : Str → Option Value}, (binds.map (·.1)).Nodup → (x, v) ∈ binds → kd x ≠ some .local → bindC kd binds m x = some v := by
  have stay : ∀ {binds : List (Str × Value)} {m : Str → Option Value}, x ∉ binds.map (·.1) → bindC kd binds m x = m x := by
    intro binds
    induction binds with
    | nil => intro m _; rfl
    | cons b r ih =>
      intro m h
      obtain ⟨y, u⟩ := b
      simp only [List.map_cons, List.mem_cons, not_or] at h
      unfold bindC
      rw [ih h.2]
      split
      · rfl
      · simp [h.1]
  intro binds
  induction binds with
  | nil => intro m _ h; cases h
  | cons b r ih =>
    intro m hn h hk
    obtain ⟨y, u⟩ := b
    simp only [List.map_cons, List.nodup_cons] at hn
    unfold bindC
    rcases List.mem_cons.mp h with e | h
    · cases e
      rw [stay hn.1, if_neg hk]; simp
    · exact ih hn.2 h hk
noncomputable def bindS (names : List Str) (as : List AV) : Sto := fun x => (names.zip as).lookup x
theorem AVL.zip {om h} : ∀ {names : List Str} {vs as}, AVL om h vs as → ∀ {x a}, (names.zip as).lookup x = some a → ∃ v, (x, v) ∈ names.zip vs ∧ AVR om h v a
  | [], _, _, _, x, a, e => by simp at e
  | y :: names, _, _, .nil, x, a, e => by simp at e
  | y :: names, _, _, .cons h1 h2, x, a, e => by
    simp only [List.zip_cons_cons, List.lookup_cons] at e
    by_cases hx : x = y
    · subst hx
      simp at e; subst e
      exact ⟨_, by simp, h1⟩
    · have hb : (x == y) = false := beq_eq_false_iff_ne.mpr hx
      rw [hb] at e
      obtain ⟨v, q, r⟩ := AVL.zip h2 e
      exact ⟨v, by simp [q], r⟩
noncomputable def retOf (Φ : AV → Om → Prop) : Fl → Sto → Om → Prop
  | .rt a, _, om' => Φ a om'
  | .nx, _, om' => Φ (.dat .none) om'
  | _, _, _ => False
theorem Wf.intro {d : DefRec} (hd : d ∈ recsOf P) {names : List Str} {as : List AV} {Φ : AV → Om → Prop}
    (hbind : ∀ pm code doc (vs : List Value), vs.length = as.length → bindArgs (docDef d.name d.params d.body d.scope pm code doc) ⟨vs, []⟩ = pure (names.zip vs))
    (hlen : names.length = as.length) (hnd : names.Nodup) (hkd : ∀ x ∈ names, Kd d.scope x)
    (x : Wx C k d.scope (bindS names as) om d.body (retOf Φ))
    (hco : d.scope.isCoroutine = false := by rfl) (hgen : d.scope.isGenerator = false := by rfl) (hk : d.scope.kind = .function := by rfl) : Wf C (k + 1) d.name om as Φ := by
  obtain ⟨a, o, pm, code, doc, e1, e2, e3, e4⟩ := C.fn d hd
  refine ⟨a, o, _, e1, e2, e3, fun A vs s E Q hA hb O hv hQ => ?_⟩
  have hvl := hv.length
  have hzip : (names.zip vs).map (·.1) = names := by
    rw [List.map_fst_zip]; lia
  refine wpAny_call (codeAny_call_cells (fd := docDef d.name d.params d.body d.scope pm code doc) (body := d.body) (binds := names.zip vs) (by have := hA.dp; simp [recursionLimit]; lia) (hb _ _ e2) e3 (C.nolimit.keeps hb) (e4.keeps hb) rfl (hbind pm code doc vs hvl) rfl ?_ (fun s₁ I => ?_) hco hgen hk)
  · intro y hy
    have hy' : y.1 ∈ names := hzip ▸ List.mem_map_of_mem hy
    rcases hkd y.1 hy' with q | q
    · exact .inl q
    · exact .inr ⟨q, cellsFrom_has (.inl q)⟩
  · generalize henv : callEnvC (docDef d.name d.params d.body d.scope pm code doc) s.heap.objs.size a = env at I ⊢
    have hsc : env.scope = d.scope := by rw [← henv]; rfl
    have hgl : env.globals = mainGlobals := by rw [← henv]; rfl
    have hbl : env.builtins = builtinsNs := by rw [← henv]; rfl
    have hlo : env.locals = s.heap.objs.size := by rw [← henv]; rfl
    have hce : env.cells = cellsFrom (s.heap.objs.size + 1) d.scope.names [] := by rw [← henv]; rfl
    have hkof : ∀ y, env.kindOf y = d.scope.names.lookup y := fun y => by show env.scope.names.lookup y = _; rw [hsc]
    obtain ⟨h1, tk1, hs1⟩ := I.toInCall.same
    have keep : Ext s.heap s₁.heap := fun b o e => I.toInCall.keep b o e
    have st0 : Step om s.heap om s₁.heap := keep.step
    have new : ∀ b, s.heap.objs.size ≤ b → C.h0.get? b = none := fun b hb' => by
      cases q : C.h0.get? b with
      | none => rfl
      | some o => exact absurd (Heap.lt_size (hb _ _ q)) (Nat.not_lt.mpr hb')
    have above : ∀ y c, env.cells.lookup y = some c → s.heap.objs.size < c := fun y c hc => by rw [← hlo]; exact I.above y c (PySem.mem_of_lookup hc)
    have F : Fro C d.scope env s₁.heap := by
      refine ⟨fun b o e => keep b o (hb b o e), hsc, hk, hgl, hbl, ⟨_, I.toInCall.ns⟩, new _ (by rw [hlo]; exact Nat.le_refl _), fun y c hc => ⟨_, I.cell y c hc⟩, fun y c hc => new _ (Nat.le_of_lt (above y c hc)), fun y z c h1 h2 => name_of_addr I.apart (PySem.mem_of_lookup h1) (PySem.mem_of_lookup h2), fun y hy => ?_⟩
      have := cellsFrom_has (n := s.heap.objs.size + 1) (acc := []) (.inl hy)
      rw [← hce] at this
      exact Option.isSome_iff_exists.mp this
    have S : St C d.scope (bindS names as) om env s₁.heap := by
      refine ⟨F, O.step keep, fun y b hy => ?_⟩
      obtain ⟨v, hm, hr⟩ := hv.zip hy
      have hnd' : ((names.zip vs).map (·.1)).Nodup := by rw [hzip]; exact hnd
      have hyn : y ∈ names := hzip ▸ List.mem_map_of_mem hm
      refine ⟨v, ?_, st0.avr hr⟩
      rcases hkd y hyn with q | q
      · exact .inl ⟨by rw [hkof]; exact q, _, I.toInCall.ns, bindL_get hnd' hm (by rw [hkof]; exact q)⟩
      · obtain ⟨c, hc⟩ := F.cellAll y q
        refine .inr ⟨.inl (by rw [hkof]; exact q), c, hc, ?_⟩
        have := I.cell y c hc
        rwa [bindC_get hnd' hm (by rw [hkof, q]; decide)] at this
    have hA' : AOk k (A.deeper env) := hA.deeper ⟨by rw [hsc]; exact hgen, by rw [hsc]; exact hco, hbl, hgl⟩
    refine x (A.deeper env) env s₁ _ _ hA' S fun fl f σ' om' h' tk p ef S' r => ?_
    have fin : Step om s.heap om' h' := by
      refine ⟨fun b o _ q1 q2 => ef.keep b o ?_ q1 (keep b o q2), fun b q => ?_, fun b q => ?_⟩
      · have hlt : b < s.heap.objs.size := Heap.lt_size q2
        rintro (hw | ⟨y, _, hw⟩)
        · rw [hw, hlo] at hlt; exact Nat.lt_irrefl _ hlt
        · exact absurd (Nat.lt_trans hlt (above y b hw)) (Nat.lt_irrefl _)
      · have := ef.stay b q
        cases q' : s.heap.get? b with
        | none => rfl
        | some o => rw [keep b o q'] at this; cases this
      · rcases ef.fresh b q with q' | q'
        · exact .inl q'
        · right
          cases q'' : s.heap.get? b with
          | none => rfl
          | some o => rw [keep b o q''] at q'; cases q'
    rw [hs1]
    cases f with
    | rt b =>
      cases fl <;> first | exact r.elim | exact hQ _ b om' h' tk p fin S'.own r
    | nx =>
      cases fl <;> first | exact r.elim | exact hQ .none (.dat .none) om' h' tk p fin S'.own .none
    | br => exact p.elim
    | ct => exact p.elim
end
section
variable {C : Cx} {k : Nat} {sc : Scope} {σ : Sto} {om : Om} {Φ : Fl → Sto → Om → Prop}
@[reducible] noncomputable def KW (J : Nat → Sto → Om → Prop) (n : Nat) (Φ : Fl → Sto → Om → Prop) : Fl → Sto → Om → Prop := fun f σ' om' => match f with
  | .nx | .ct => ∃ m, m < n ∧ J m σ' om'
  | .br => Φ .nx σ' om'
  | .rt a => Φ (.rt a) σ' om'
@[reducible] noncomputable def KF (J : Nat → Sto → Om → Prop) (i : Nat) (Φ : Fl → Sto → Om → Prop) : Fl → Sto → Om → Prop := fun f σ' om' => match f with
  | .nx | .ct => J (i + 1) σ' om'
  | .br => Φ .nx σ' om'
  | .rt a => Φ (.rt a) σ' om'
theorem Ws.while {t b pos} (J : Nat → Sto → Om → Prop) (n : Nat) (h0 : J n σ om)
    (turn : ∀ n σ1 om1, J n σ1 om1 → Wt C k sc σ1 om1 t (fun c om2 => if c then Wx C k sc σ1 om2 b (KW J n Φ) else Φ .nx σ1 om2)) : Ws C k sc σ om (.While t b [] pos) Φ := by
  intro A env s E Q hA S hQ
  refine wpAny_While ?_
  refine codeAny_whileLoop (fun m s1 => ∃ σ1 om1 h1 tk1, s1 = { s with heap := h1, toks := tk1 } ∧ J m σ1 om1 ∧ Ef (Wr env) om s.heap om1 h1 ∧ St C sc σ1 om1 env h1) ?_ n ⟨σ, om, s.heap, s.toks, rfl, h0, Ef.refl, S⟩
  rintro m s1 ⟨σ1, om1, h1, tk1, rfl, hJ, ef1, S1⟩
  refine turn m σ1 om1 hJ A env _ _ _ hA S1 fun c om2 h2 tk2 y st2 O2 => ?_
  have S2 := S1.step st2 O2
  have ef2 := ef1.trans st2.weak
  cases c with
  | true =>
    simp only [if_true] at y ⊢
    refine y A env _ _ _ hA S2 fun fl f σ' om' h' tk p ef' S' r => ?_
    have ef3 := ef2.trans ef'
    cases f with
    | nx => cases fl <;> first | exact r.elim | (obtain ⟨m', hm', hJ'⟩ := p; exact ⟨m', hm', σ', om', h', tk, rfl, hJ', ef3, S'⟩)
    | ct => cases fl <;> first | exact r.elim | (obtain ⟨m', hm', hJ'⟩ := p; exact ⟨m', hm', σ', om', h', tk, rfl, hJ', ef3, S'⟩)
    | br => cases fl <;> first | exact r.elim | exact hQ .next .nx σ' om' h' tk p ef3 S' trivial
    | rt a => cases fl <;> first | exact r.elim | exact hQ _ (.rt a) σ' om' h' tk p ef3 S' r
  | false =>
    simp only [Bool.false_eq_true, if_false] at y ⊢
    exact wpAny_execs_nil (hQ .next .nx σ1 om2 h2 tk2 y ef2 S2 trivial)
structure ItOk (Stt : Nat → Heap → Prop) (fp wr : List Addr) : Prop where
  obj : ∀ i h, Stt i h → ∀ b ∈ fp, ∃ o, h.get? b = some o
  fld : ∀ i h, Stt i h → ∀ b ∈ wr, ∃ o xs, h.get? b = some o ∧ o.data = .fields xs
noncomputable def Wi (C : Cx) (k : Nat) (sc : Scope) (σ : Sto) (om : Om) (e : PySem.Expr) (Ψ : List AV → Om → Prop) : Prop :=
  ∀ (A : Around) (env : Env) (s : Shared) (E : Value → Shared → Prop) (Q : Value → Shared → Prop), AOk k A → St C sc σ om env s.heap →
    (∀ I fp wr Pr Stt items om' h' tk, Ψ items om' → Walks P C.w A I fp wr items.length Pr Stt → ItOk Stt fp wr → Stt 0 h' → items.length ≤ 2 ^ 20 →
      (∀ i v W om'' h'', Pr i v → Ef W om' h' om'' h'' → NoSeq W h' → ∃ a, items[i]? = some a ∧ AVR om'' h'' v a) → Step om s.heap om' h' → OwnOk C.h0 om' h' →
      (∀ b ∈ wr, s.heap.get? b = none) → (∀ b ∈ fp, om' b = none) → (∀ b ∈ fp, ¬ Wr env b) → (∀ b ∈ fp, b < h'.objs.size) → Q (.ref I) { s with heap := h', toks := tk }) →
    wpAny (MM C) A (eval e env) (fun x s₁ => wpAny (MM C) A (pyIter x) Q E s₁) E s
theorem but_ef {W : Addr → Prop} {om : Om} {h h' : Heap} {wr : List Addr} (hk : ∀ b o, b ∉ wr → h.get? b = some o → h'.get? b = some o) (hw : ∀ b ∈ wr, h'.get? b ≠ none) : Ef (fun b => b ∈ wr) om h om h' :=
  ⟨fun b o n _ e => hk b o n e, fun b e => (by
    by_cases hb : b ∈ wr
    · exact absurd e (hw b hb)
    · cases q : h.get? b with
      | none => rfl
      | some o => rw [hk b o hb q] at e; cases e), fun _ e => .inl e⟩
theorem fld_noSeq {h : Heap} {wr : List Addr} (f : ∀ b ∈ wr, ∃ o xs, h.get? b = some o ∧ o.data = .fields xs) : NoSeq (fun b => b ∈ wr) h := by
  intro b o hb e vs n q
  obtain ⟨o', xs, e1, e2⟩ := f b hb
  rw [e1] at e; cases e; rw [e2] at q; cases q
theorem but_avr {om : Om} {h h' : Heap} {wr : List Addr} (hk : ∀ b o, b ∉ wr → h.get? b = some o → h'.get? b = some o) (f : ∀ b ∈ wr, ∃ o xs, h.get? b = some o ∧ o.data = .fields xs) {v a} (r : AVR om h v a) : AVR om h' v a := by
  cases a with
  | own a => exact r
  | dat d =>
    exact Den.mono (fun b o e1 ec e2 => ⟨e1, hk b o (fun q => (by
      obtain ⟨vs, n, ed⟩ := ec
      exact fld_noSeq f b o q e2 vs n ed)) e2⟩) r
theorem but_avl {om : Om} {h h' : Heap} {wr : List Addr} (hk : ∀ b o, b ∉ wr → h.get? b = some o → h'.get? b = some o) (f : ∀ b ∈ wr, ∃ o xs, h.get? b = some o ∧ o.data = .fields xs) : ∀ {vs as}, AVL om h vs as → AVL om h' vs as
  | _, _, .nil => .nil
  | _, _, .cons x y => .cons (but_avr hk f x) (but_avl hk f y)
theorem St.but {env : Env} {h h' : Heap} {wr : List Addr} (S : St C sc σ om env h) (hk : ∀ b o, b ∉ wr → h.get? b = some o → h'.get? b = some o)
    (f : ∀ b ∈ wr, ∃ o xs, h.get? b = some o ∧ o.data = .fields xs) (hn : ∀ b ∈ wr, C.h0.get? b = none) : St C sc σ om env h' := by
  have F := S.fro
  have hN : ∀ {L m}, h.Ns L m → h'.Ns L m := by
    rintro L m ⟨o, es, ep, e1, e2, r⟩
    refine ⟨o, es, ep, hk _ _ (fun q => ?_) e1, e2, r⟩
    obtain ⟨o', xs, g1, g2⟩ := f L q
    rw [g1] at e1; cases e1; rw [g2] at e2; cases e2
  have hC : ∀ {L m}, h.IsCell L m → h'.IsCell L m := by
    rintro L m ⟨o, e1, e2⟩
    refine ⟨o, hk _ _ (fun q => ?_) e1, e2⟩
    obtain ⟨o', xs, g1, g2⟩ := f L q
    rw [g1] at e1; cases e1; rw [g2] at e2; cases e2
  refine ⟨⟨fun b o e => hk b o (fun q => by rw [hn b q] at e; cases e) (F.base b o e), F.scope, F.kind, F.glob, F.blt, (let ⟨m, hm⟩ := F.ns; ⟨m, hN hm⟩), F.nsNew, fun y c hc => (let ⟨v, hv⟩ := F.cell y c hc; ⟨v, hC hv⟩), F.cellNew, F.apart, F.cellAll⟩, ⟨fun b l e => ?_, S.own.new⟩, fun y b hb => ?_⟩
  · obtain ⟨ws, m, h1, h2⟩ := S.own.at' b l e
    have h1' : h.get? b = _ := h1
    refine ⟨ws, m, hk _ _ (fun q => ?_) h1, but_avl hk f h2⟩
    obtain ⟨o', xs, g1, g2⟩ := f b q
    rw [g1] at h1'; cases h1'; cases g2
  · obtain ⟨v, r, q⟩ := S.rd y b hb
    refine ⟨v, ?_, but_avr hk f q⟩
    rcases r with ⟨hl, m, hm, e⟩ | ⟨hl, c, hc, e⟩
    · exact .inl ⟨hl, m, hN hm, e⟩
    · exact .inr ⟨hl, c, hc, hC e⟩
theorem Ef.or {W W' : Addr → Prop} {om h om1 h1 om2 h2} (x : Ef W om h om1 h1) (y : Ef W' om1 h1 om2 h2) : Ef (fun b => W b ∨ W' b) om h om2 h2 :=
  (x.weak fun b q => .inl q).trans (y.weak fun b q => .inr q)
theorem Ef.without {W W' : Addr → Prop} {om h om1 h1} (x : Ef (fun b => W b ∨ W' b) om h om1 h1) (hn : ∀ b, W' b → h.get? b = none) : Ef W om h om1 h1 :=
  ⟨fun b o nw e1 e2 => x.keep b o (fun q => q.elim nw fun q => by rw [hn b q] at e2; cases e2) e1 e2, x.stay, x.fresh⟩
noncomputable def FI (C : Cx) (sc : Scope) (env : Env) (s : Shared) (n : Nat) (J : Nat → Sto → Om → Prop) (wr : List Addr) (om' : Om) (h' : Heap) (Stt : Nat → Heap → Prop) (m : Nat) (s1 : Shared) : Prop :=
  ∃ σ1 om1 h1 tk1 i, s1 = { s with heap := h1, toks := tk1 } ∧ J i σ1 om1 ∧ Ef (fun b => Wr env b ∨ b ∈ wr) om' h' om1 h1 ∧ St C sc σ1 om1 env h1 ∧ Stt i h1 ∧ i ≤ n ∧ m = n + 1 - i
section
variable {R : Flow → Shared → Prop} {env : Env} {s : Shared} {n : Nat} {J : Nat → Sto → Om → Prop} {wr : List Addr} {om' : Om} {h' : Heap} {Stt : Nat → Heap → Prop} {i : Nat}
  (hR : ∀ fl f σ' om' h' tk, Φ f σ' om' → Ef (Wr env) om s.heap om' h' → St C sc σ' om' env h' → FlR om' h' fl f → R fl { s with heap := h', toks := tk })
  (st : Step om s.heap om' h') (hnew : ∀ b ∈ wr, s.heap.get? b = none)
include hR st hnew
theorem FI.turn {fl : Flow} {f : Fl} {σ4 : Sto} {om4 : Om} {h4 : Heap} {tk4 : Nat} (hlt : i < n) (pr : KF J i Φ f σ4 om4) (ef : Ef (fun b => Wr env b ∨ b ∈ wr) om' h' om4 h4) (S4 : St C sc σ4 om4 env h4) (r : FlR om4 h4 fl f) (hst4 : Stt (i + 1) h4) :
    (match fl with
      | .next | .cont => ∃ m, m < n + 1 - i ∧ FI C sc env s n J wr om' h' Stt m { s with heap := h4, toks := tk4 }
      | .brk => R .next { s with heap := h4, toks := tk4 }
      | .ret v => R (.ret v) { s with heap := h4, toks := tk4 }) := by
  have q : (J (i + 1) σ4 om4) → ∃ m, m < n + 1 - i ∧ FI C sc env s n J wr om' h' Stt m { s with heap := h4, toks := tk4 } := fun q => ⟨n + 1 - (i + 1), Nat.sub_lt_sub_left (Nat.lt_succ_of_lt hlt) (Nat.lt_succ_self i), σ4, om4, h4, tk4, i + 1, rfl, q, ef, S4, hst4, hlt, rfl⟩
  have toS := Ef.without ((st.weak).trans ef) hnew
  cases f with
  | nx => cases fl <;> first | exact r.elim | exact q pr
  | ct => cases fl <;> first | exact r.elim | exact q pr
  | br => cases fl <;> first | exact r.elim | exact hR .next .nx σ4 om4 h4 tk4 pr toS S4 trivial
  | rt a => cases fl <;> first | exact r.elim | exact hR _ (.rt a) σ4 om4 h4 tk4 pr toS S4 r
theorem FI.done {σ1 : Sto} {om1 : Om} {h1 h2 : Heap} {tk2 : Nat} (d : Φ .nx σ1 om1) (ef1 : Ef (fun b => Wr env b ∨ b ∈ wr) om' h' om1 h1) (S1 : St C sc σ1 om1 env h1) (hk2 : ∀ b o, b ∉ wr → h1.get? b = some o → h2.get? b = some o) (f : ∀ b ∈ wr, ∃ o xs, h1.get? b = some o ∧ o.data = .fields xs)
    (hn0 : ∀ b ∈ wr, C.h0.get? b = none) : R .next { s with heap := h2, toks := tk2 } := by
  have x := (Step.weak (W := fun b => Wr env b ∨ b ∈ wr) st).trans ef1
  refine hR .next .nx σ1 om1 h2 tk2 d ⟨fun b o nw q1 q2 => ?_, fun b q => ?_, x.fresh⟩ (S1.but hk2 f hn0) trivial
  · have hb : b ∉ wr := fun q => by rw [hnew b q] at q2; cases q2
    exact hk2 b o hb (x.keep b o (fun q => q.elim nw hb) q1 q2)
  · by_cases hb : b ∈ wr
    · exact hnew b hb
    · refine x.stay b ?_
      cases q' : h1.get? b with
      | none => rfl
      | some o => rw [hk2 b o hb q'] at q; cases q
end
theorem new0 {env : Env} {h : Heap} {wr : List Addr} (S : St C sc σ om env h) (hnew : ∀ b ∈ wr, h.get? b = none) : ∀ b ∈ wr, C.h0.get? b = none := fun b hb => by
  cases q : C.h0.get? b with
  | none => rfl
  | some o => have := S.fro.base _ _ q; rw [hnew b hb] at this; cases this
theorem some_ne {h : Heap} {wr fp : List Addr} (ob : ∀ b ∈ fp, ∃ o, h.get? b = some o) (wsub : ∀ b ∈ wr, b ∈ fp) : ∀ b ∈ wr, h.get? b ≠ none := fun b hb => by
  obtain ⟨o, e⟩ := ob b (wsub b hb); rw [e]; exact Option.some_ne_none _
theorem FI.noSeq {env : Env} {h : Heap} {wr : List Addr} (S : St C sc σ om env h) (f : ∀ b ∈ wr, ∃ o xs, h.get? b = some o ∧ o.data = .fields xs) : NoSeq (fun b => Wr env b ∨ b ∈ wr) h := by
  intro b o hb e
  rcases hb with hb | hb
  · exact S.fro.noSeq b o hb e
  · exact fld_noSeq f b o hb e
theorem Ws.for {x p iter b pos} (y : Wi C k sc σ om iter (fun items om1 => ∃ J : Nat → Sto → Om → Prop, J 0 σ om1 ∧
      (∀ i a σ1 om2, items[i]? = some a → J i σ1 om2 → Wx C k sc (σ1.set x a) om2 b (KF J i Φ)) ∧ (∀ σ1 om2, J items.length σ1 om2 → Φ .nx σ1 om2))) (hk : Kd sc x)
    (hs : ∀ env x, foldedSetIterable iter env x = pure x := by intros; rfl) : Ws C k sc σ om (.For (.Name x p) iter b [] pos) Φ := by
  intro A env s E Q hA S hQ
  refine wpAny_For (y A env s E _ hA S fun I fp wr Pr Stt items om' h' tk ⟨J, hJ0, turn, done⟩ W it hst hlen hitem st O' hnew hfo hfw hfs => ?_) (hs env)
  have S0 := S.step st O'
  have hn0 := new0 S hnew
  have nsU := FI.noSeq S0 (it.fld 0 h' hst)
  refine codeAny_forLoop (FI C sc env s items.length J wr om' h' Stt) ?_ (items.length + 1) ⟨σ, om', h', tk, 0, rfl, hJ0, Ef.refl, S0, hst, Nat.zero_le _, rfl⟩
  rintro m s1 ⟨σ1, om1, h1, tk1, i, rfl, hJ, ef1, S1, hst1, hi, rfl⟩
  by_cases hlt : i < items.length
  · refine W.item i { s with heap := h1, toks := tk1 } _ _ hlt hst1 fun v h2 tk2 hP hst2 hk2 => ?_
    have e2 := but_ef (W := NoW) (om := om1) hk2 (some_ne (it.obj _ _ hst2) W.sub)
    have ef2 : Ef (fun b => Wr env b ∨ b ∈ wr) om' h' om1 h2 := ef1.trans (e2.weak fun b q => .inr q)
    have S2 := S1.but hk2 (it.fld _ _ hst1) hn0
    obtain ⟨a, ha, hr⟩ := hitem i v _ om1 h2 hP ef2 nsU
    refine wpAny_assign_Name (store_ok (s := { s with heap := h2, toks := tk2 }) S2 hk hr fun pl h3 tk3 hp hs3 ef3 S3 => ?_)
    have ef3' := ef3.weak (Wr_sub hp)
    refine turn i a σ1 om1 ha hJ A env _ _ _ hA S3 fun fl f σ' om4 h4 tk4 pr ef4 S4 r => ?_
    refine FI.turn hQ st hnew hlt pr ((ef2.trans (ef3'.weak fun b q => .inl q)).trans (ef4.weak fun b q => .inl q)) S4 r (W.frame _ _ _ hst2 fun b hb o e => ?_)
    have hb1 : om1 b = none := by
      obtain ⟨o', e'⟩ := it.obj _ _ hst b hb
      exact Ef.still ef2 (hfo b hb) e'
    exact ef4.keep b o (hfw b hb) hb1 (ef3'.keep b o (hfw b hb) hb1 e)
  · cases Nat.le_antisymm hi (Nat.le_of_not_lt hlt)
    exact W.done { s with heap := h1, toks := tk1 } _ _ hst1 fun h2 tk2 hk2 => wpAny_execs_nil (FI.done hQ st hnew (done σ1 om1 hJ) ef1 S1 hk2 (it.fld _ _ hst1) hn0)
end
section
variable {C : Cx} {k : Nat} {sc : Scope} {σ : Sto} {om : Om}
theorem Fro.wrIn {env : Env} {h : Heap} (F : Fro C sc env h) {b : Addr} (w : Wr env b) : ∃ o, h.get? b = some o := by
  rcases w with rfl | ⟨x, _, hx⟩
  · obtain ⟨m, o, _, _, e, _⟩ := F.ns; exact ⟨o, e⟩
  · obtain ⟨v, o, e, _⟩ := F.cell x b hx; exact ⟨o, e⟩
theorem Step.none {om h om1 h1 b} (x : Step om h om1 h1) (e : h1.get? b = none) : h.get? b = none := x.stay b e
theorem Wi.mono {e} {Ψ Ψ' : List AV → Om → Prop} (x : Wi C k sc σ om e Ψ) (h : ∀ a om', Ψ a om' → Ψ' a om') : Wi C k sc σ om e Ψ' :=
  fun A env s E Q hA S hQ => x A env s E Q hA S fun I fp wr Pr Stt items om' h' tk q => hQ I fp wr Pr Stt items om' h' tk (h _ _ q)
theorem Wi.list {e} {Ψ : List AV → Om → Prop} (x : We C k sc σ om e (fun a om1 => ∃ ds, a = .dat (.list ds) ∧ ds.length ≤ 2 ^ 20 ∧ Ψ (ds.map .dat) om1)) : Wi C k sc σ om e Ψ := by
  intro A env s E Q hA S hQ
  refine x.bind hA S fun v a om1 h1 tk1 ⟨ds, e1, hn, y⟩ st1 S1 ra => ?_
  subst e1
  have ra' : Den om1 h1 v (.list ds) := ra
  cases ra' with
  | list ho hl hd =>
    rename_i c vs n
    have z := hd.length
    simp only [Array.length_toList] at z
    have hlst : h1.IsList c vs := IsL.isList hl
    refine wpAny_pyIter_list hlst ?_
    have hlt : c < h1.objs.size := Heap.lt_size hl
    have ex := Ext.push h1 { cls := .type "list_iterator", data := .fields #[.ref c, .int 0 0] }
    have hz : (ds.map AV.dat).length = vs.size := by simp [z]
    refine hQ h1.objs.size [h1.objs.size, c] [h1.objs.size] _ _ (ds.map .dat) om1 _ tk1 y (hz ▸ Walks.list (prog := P) (w := C.w) hA.hd h1.objs.size c (Nat.ne_of_lt hlt) vs) ⟨?_, ?_⟩ ⟨⟨_, Heap.get?_push_size _ rfl, rfl, rfl⟩, hlst.at fun o e => Heap.get?_push_of_some _ e⟩ (by simpa using hn) ?_ (st1.trans ex.step) (S1.own.step ex) ?_ ?_ ?_ ?_
    · rintro i h ⟨⟨o1, e1, _⟩, ⟨o2, e2, _⟩⟩ b hb
      simp only [List.mem_cons, List.not_mem_nil, or_false] at hb
      rcases hb with rfl | rfl
      · exact ⟨_, e1⟩
      · exact ⟨_, e2⟩
    · rintro i h ⟨⟨o1, e1, _, e3⟩, _⟩ b hb
      simp only [List.mem_cons, List.not_mem_nil, or_false] at hb
      subst hb
      exact ⟨_, _, e1, e3⟩
    · intro i u W om2 h2 hP ef ns
      have hP' : vs.toList[i]? = some u := by simpa using hP
      obtain ⟨a, ha, hr⟩ := (ex.step.denL hd).avl.get' hP'
      exact ⟨a, ha, ef.avr ns hr⟩
    · intro b hb
      simp only [List.mem_cons, List.not_mem_nil, or_false] at hb
      subst hb
      exact st1.none (size_new _)
    · intro b hb
      simp only [List.mem_cons, List.not_mem_nil, or_false] at hb
      rcases hb with rfl | rfl
      · exact S1.own.free (size_new _)
      · exact ho
    · intro b hb hw
      obtain ⟨o, e⟩ := S1.fro.wrIn hw
      simp only [List.mem_cons, List.not_mem_nil, or_false] at hb
      rcases hb with rfl | rfl
      · rw [size_new] at e; cases e
      · exact S1.fro.noSeq _ _ hw hl _ _ rfl
    · intro b hb
      rw [Heap.size_push]
      simp only [List.mem_cons, List.not_mem_nil, or_false] at hb
      rcases hb with rfl | rfl
      · exact Nat.lt_succ_self _
      · exact Nat.lt_succ_of_lt hlt
noncomputable def rgs (a c : Int) (n : Nat) : List AV := (List.range n).map fun i : Nat => .dat (.int (a + (i : Int) * c))
theorem rgs_len {a c n} : (rgs a c n).length = n := by simp [rgs]
theorem range_it {A : Around} {env : Env} {s s1 : Shared} {E : Value → Shared → Prop} {Q : Value → Shared → Prop} {a b c : Int} {n : Nat} {t u v : Tok} {Ψ : List AV → Om → Prop} {om1 : Om} {h1 : Heap} {tk : Nat} (hA : AOk k A)
    (S1 : St C sc σ om1 env h1) (st1 : Step om s.heap om1 h1) (hsm : Builtin.Range.small a b c = true) (hsz : Builtin.Range.rangeSize a b c = (n : Int)) (hn : n ≤ 2 ^ 20) (y : Ψ (rgs a c n) om1)
    (hQ : ∀ I fp wr Pr Stt items om' h' tk, Ψ items om' → Walks P C.w A I fp wr items.length Pr Stt → ItOk Stt fp wr → Stt 0 h' → items.length ≤ 2 ^ 20 →
      (∀ i v W om'' h'', Pr i v → Ef W om' h' om'' h'' → NoSeq W h' → ∃ a, items[i]? = some a ∧ AVR om'' h'' v a) → Step om s.heap om' h' → OwnOk C.h0 om' h' →
      (∀ b ∈ wr, s.heap.get? b = none) → (∀ b ∈ fp, om' b = none) → (∀ b ∈ fp, ¬ Wr env b) → (∀ b ∈ fp, b < h'.objs.size) → Q (.ref I) { s with heap := h', toks := tk }) :
    wpAny (MM C) A (pyIter (.ref h1.objs.size)) Q E { s with heap := h1.push { cls := .type "range", data := .fields #[.int a t, .int b u, .int c v] }, toks := tk } := by
  have hr := IsRange.new h1 a b c t u v
  have ex0 := Ext.push h1 { cls := .type "range", data := .fields #[.int a t, .int b u, .int c v] }
  generalize h1.push { cls := .type "range", data := .fields #[.int a t, .int b u, .int c v] } = h2 at hr ex0 ⊢
  refine wpAny_pyIter_range (s := { s with heap := h2, toks := tk }) hr hsm ?_
  have ex1 := Ext.push h2 { cls := .type "range_iterator", data := .fields #[rawInt a, rawInt (Builtin.Range.rangeSize a b c), rawInt c] }
  have ex := ex0.trans ex1
  have S2 := S1.ext ex0
  have hw0 : ∀ (i : Nat) v, (i < n ∧ ∃ t, v = Value.int (a + (i : Int) * c) t) → ∃ x, (rgs a c n)[i]? = some x ∧ ∀ om' h', AVR om' h' v x := by
    rintro i v ⟨hi, t, rfl⟩
    exact ⟨.dat (.int (a + (i : Int) * c)), by simp [rgs, hi], fun om' h' => Den.int _ _⟩
  have W : Walks P C.w A h2.objs.size [h2.objs.size] [h2.objs.size] (rgs a c n).length (fun i v => i < n ∧ ∃ t, v = .int (a + (i : Int) * c) t) (fun i h => IsRangeIter h h2.objs.size (a + (i : Nat) * c) ((n : Int) - (i : Nat)) c) := by
    rw [rgs_len]; exact (Walks.range hA.hd h2.objs.size a c n).bound
  refine hQ h2.objs.size _ _ _ _ (rgs a c n) om1 _ tk y W ⟨?_, ?_⟩ ?_ (by rw [rgs_len]; exact hn) ?_ (st1.trans ex.step) (S1.own.step ex) ?_ ?_ ?_ ?_
  · intro i h hst b hb
    simp only [List.mem_cons, List.not_mem_nil, or_false] at hb
    subst hb
    exact ⟨_, hst⟩
  · intro i h hst b hb
    simp only [List.mem_cons, List.not_mem_nil, or_false] at hb
    subst hb
    exact ⟨_, _, hst, rfl⟩
  · show IsRangeIter _ _ _ _ _
    rw [hsz]
    simpa using Heap.get?_push_size h2 (o := { cls := .type "range_iterator", data := .fields #[rawInt a, rawInt (n : Int), rawInt c] }) rfl
  · intro i u W om2 h2 hP ef ns
    obtain ⟨x, hx, hr⟩ := hw0 i u hP
    exact ⟨x, hx, hr _ _⟩
  · intro b hb
    simp only [List.mem_cons, List.not_mem_nil, or_false] at hb
    subst hb
    exact Step.none (st1.trans ex0.step) (size_new _)
  · intro b hb
    simp only [List.mem_cons, List.not_mem_nil, or_false] at hb
    subst hb
    exact S2.own.free (size_new _)
  · intro b hb hw
    obtain ⟨o, e⟩ := S2.fro.wrIn hw
    simp only [List.mem_cons, List.not_mem_nil, or_false] at hb
    subst hb
    rw [size_new] at e; cases e
  · intro b hb
    rw [Heap.size_push]
    simp only [List.mem_cons, List.not_mem_nil, or_false] at hb
    subst hb
    exact Nat.lt_succ_self _
theorem Wi.range {fp e es pos} {Ψ : List AV → Om → Prop} (x : Wl C k sc σ om (e :: es) (fun as om1 => ∃ (a b c : Int) (n : Nat), (as = [.dat (.int b)] ∧ a = 0 ∧ c = 1 ∨ as = [.dat (.int a), .dat (.int b)] ∧ c = 1 ∨ as = [.dat (.int a), .dat (.int b), .dat (.int c)] ∧ 0 < c) ∧
      -(2 ^ 20) ≤ a ∧ a ≤ 2 ^ 20 ∧ -(2 ^ 20) ≤ b ∧ b ≤ 2 ^ 20 ∧ c ≤ 2 ^ 20 ∧ Builtin.Range.rangeSize a b c = (n : Int) ∧ n ≤ 2 ^ 20 ∧ Ψ (rgs a c n) om1))
    (hf : sc.names.lookup (Str.ofString "range") = some .globalImplicit)
    (hs : ∀ env, starEach (e :: es) env = (false, eval e env) :: starEach es env := by intros; rfl) (hp : ∀ env pos, (backTo pos (starEach es env)).any (·.1) = false := by intros; rfl) :
    Wi C k sc σ om (.Call (.Name "range" fp) (e :: es) [] pos) Ψ := by
  intro A env s E Q hA S hQ
  refine Call_Name rfl ?_
  refine Name_function_global (by rw [S.fro.scope]; exact S.fro.kind) (by show env.scope.names.lookup _ = _; rw [S.fro.scope]; exact hf)
    (loadGlobal_builtin (mg := C.mg) (mb := C.mb) (v := .type "range") (by rw [S.fro.glob]; exact C.g.keeps S.fro.base) (C.noglob _ (by decide)) (by rw [S.fro.blt]; exact C.b.keeps S.fro.base) ((C.blt _ (by decide)).trans (by decide +kernel)) ?_)
  refine callWith_type1 (x A env pos s E _ hA S fun vs as om1 h1 tk1 ⟨a, b, c, n, hc, ha1, ha2, hb1, hb2, hcb, hz, hn, y⟩ st1 O1 ra => ?_) (hs env) (hp env pos)
  have S1 := S.step st1 O1
  have hc0 : 0 < c := by rcases hc with ⟨_, _, rfl⟩ | ⟨_, rfl⟩ | ⟨_, h⟩ <;> lia
  have hsm : Builtin.Range.small a b c = true := by
    unfold Builtin.Range.small
    rw [hz]
    simp only [Builtin.Range.rangeFitsLong, Bool.and_eq_true, Bool.or_eq_true, decide_eq_true_eq, beq_iff_eq, if_pos (show c > 0 from hc0)]
    (clear hc hz; omega)
  rcases hc with ⟨rfl, rfl, rfl⟩ | ⟨rfl, rfl⟩ | ⟨rfl, _⟩
  · cases ra with
    | cons r1 r2 =>
      cases r2; cases r1
      exact call_range_1 (range_it (s := s) (s1 := s) hA S1 st1 hsm hz hn y hQ)
  · cases ra with
    | cons r1 r2 =>
      cases r2 with
      | cons r2 r3 =>
        cases r3; cases r1; cases r2
        exact call_range_2 (range_it (s := s) (s1 := s) hA S1 st1 hsm hz hn y hQ)
  · cases ra with
    | cons r1 r2 =>
      cases r2 with
      | cons r2 r3 =>
        cases r3 with
        | cons r3 r4 =>
          cases r4; cases r1; cases r2; cases r3
          exact call_range_3 (by lia) (range_it (s := s) (s1 := s) hA S1 st1 hsm hz hn y hQ) (.inr (room hA S1.fro.base))
end
section
variable {C : Cx} {k : Nat} {sc : Scope} {σ : Sto} {om : Om}
theorem chg_avr {U : Addr → Prop} {h h' : Heap} (hk : ∀ b o, ¬ U b → h.get? b = some o → h'.get? b = some o) (ns : NoSeq U h) {v a} (r : AVR om h v a) : AVR om h' v a := by
  cases a with
  | own a => exact r
  | dat d => exact Den.mono (fun b o e1 ec e2 => ⟨e1, hk b o (fun q => (by obtain ⟨vs, n, ed⟩ := ec; exact ns b o q e2 vs n ed)) e2⟩) r
theorem chg_avl {U : Addr → Prop} {h h' : Heap} (hk : ∀ b o, ¬ U b → h.get? b = some o → h'.get? b = some o) (ns : NoSeq U h) : ∀ {vs as}, AVL om h vs as → AVL om h' vs as
  | _, _, .nil => .nil
  | _, _, .cons x y => .cons (chg_avr hk ns x) (chg_avl hk ns y)
theorem chg_own {U : Addr → Prop} {h₀ h h' : Heap} (O : OwnOk h₀ om h) (hk : ∀ b o, ¬ U b → h.get? b = some o → h'.get? b = some o) (ns : NoSeq U h) : OwnOk h₀ om h' :=
  ⟨fun b l e => let ⟨ws, m, h1, h2⟩ := O.at' b l e; ⟨ws, m, hk _ _ (fun q => ns b _ q h1 _ _ rfl) h1, chg_avl hk ns h2⟩, O.new⟩
theorem St.chg {env : Env} {U : Addr → Prop} {h h' : Heap} (S : St C sc σ om env h) (hk : ∀ b o, ¬ U b → h.get? b = some o → h'.get? b = some o) (ns : NoSeq U h)
    (hL : ¬ U env.locals) (hC : ∀ x c, env.cells.lookup x = some c → ¬ U c) (h0 : ∀ b, U b → C.h0.get? b = none) : St C sc σ om env h' := by
  have F := S.fro
  have hN : ∀ {m}, h.Ns env.locals m → h'.Ns env.locals m := fun ⟨o, es, ep, e1, e2, r⟩ => ⟨o, es, ep, hk _ _ hL e1, e2, r⟩
  have hc : ∀ {x c m}, env.cells.lookup x = some c → h.IsCell c m → h'.IsCell c m := fun q ⟨o, e1, e2⟩ => ⟨o, hk _ _ (hC _ _ q) e1, e2⟩
  refine ⟨⟨fun b o e => hk b o (fun q => by rw [h0 b q] at e; cases e) (F.base b o e), F.scope, F.kind, F.glob, F.blt, (let ⟨m, hm⟩ := F.ns; ⟨m, hN hm⟩), F.nsNew, fun y c q => (let ⟨v, hv⟩ := F.cell y c q; ⟨v, hc q hv⟩), F.cellNew, F.apart, F.cellAll⟩, chg_own S.own hk ns, fun y b hb => ?_⟩
  obtain ⟨v, r, q⟩ := S.rd y b hb
  refine ⟨v, ?_, chg_avr hk ns q⟩
  rcases r with ⟨hl, m, hm, e⟩ | ⟨hl, c, hc', e⟩
  · exact .inl ⟨hl, m, hN hm, e⟩
  · exact .inr ⟨hl, c, hc', hc hc' e⟩
noncomputable def clos (env : Env) : List (Str × NameKind) → List (Str × Addr) → List (Str × Addr)
  | [], acc => acc
  | (n, kd) :: r, acc => if kd == .free then clos env r ((n, (env.cells.lookup n).getD 0) :: acc) else clos env r acc
theorem closureFor_eq {scope : Scope} {env : Env} (h : ∀ x ∈ scope.names, x.2 = .free → (env.cells.lookup x.1).isSome = true) : closureFor scope env = pure (clos env scope.names []) := by
  have key : ∀ (names : List (Str × NameKind)) (acc : List (Str × Addr)), (∀ x ∈ names, x.2 = .free → (env.cells.lookup x.1).isSome = true) →
      (forIn names acc fun x r => (if (x.2 == NameKind.free) = true then do let __do_lift ← cellOf env x.1; pure (ForInStep.yield ((x.1, __do_lift) :: r)) else pure (ForInStep.yield r) : Sem (ForInStep (List (Str × Addr))))) = pure (clos env names acc) := by
    intro names
    induction names with
    | nil => intro acc _; rfl
    | cons x r ih =>
      intro acc hx
      obtain ⟨n, kd⟩ := x
      rw [List.forIn_cons]
      unfold clos
      by_cases hk : (kd == NameKind.free) = true
      · have hf : kd = .free := by simpa using hk
        obtain ⟨c, hc⟩ := Option.isSome_iff_exists.mp (hx (n, kd) (.head _) hf)
        have e : cellOf env n = pure c := by unfold cellOf; rw [hc]
        simp only [hk, if_true, e, pure_bind, hc, Option.getD_some]
        exact ih _ fun y hy => hx y (.tail _ hy)
      · simp only [hk, if_false, pure_bind]
        exact ih _ fun y hy => hx y (.tail _ hy)
  have := key scope.names [] h
  simp only [closureFor]
  rw [show (forIn scope.names ([] : List (Str × Addr)) fun x r => match x with | (name, kind) => if (kind == NameKind.free) = true then do let __do_lift ← cellOf env name; pure (ForInStep.yield ((name, __do_lift) :: r)) else pure (ForInStep.yield r) : Sem _) = pure (clos env scope.names []) from this]
  rfl
theorem clos_spec {env : Env} {x : Str} : ∀ {names : List (Str × NameKind)} {acc : List (Str × Addr)}, (∀ y ∈ names, y.2 = .free → (env.cells.lookup y.1).isSome = true) →
    (∀ c, acc.lookup x = some c → env.cells.lookup x = some c) → ∀ c, (clos env names acc).lookup x = some c → env.cells.lookup x = some c
  | [], acc, _, ha, c, h => ha c h
  | (n, kd) :: r, acc, hn, ha, c, h => by
    unfold clos at h
    split at h
    · rename_i hk
      refine clos_spec (fun y hy => hn y (.tail _ hy)) (fun c' h' => ?_) c h
      rw [List.lookup_cons] at h'
      by_cases hx : x = n
      · subst hx
        simp only [beq_self_eq_true, Option.some.injEq] at h'
        obtain ⟨d, hd⟩ := Option.isSome_iff_exists.mp (hn (x, kd) (.head _) (by simpa using hk))
        rw [hd] at h'; rw [hd]; simpa using h'
      · rw [beq_eq_false_iff_ne.mpr hx] at h'; exact ha c' h'
    · exact clos_spec (fun y hy => hn y (.tail _ hy)) ha c h
theorem clos_has {env : Env} {x : Str} : ∀ {names : List (Str × NameKind)} {acc : List (Str × Addr)}, (names.lookup x = some .free ∨ (acc.lookup x).isSome = true) → ((clos env names acc).lookup x).isSome = true
  | [], acc, h => by simpa [clos] using h
  | (y, kd) :: r, acc, h => by
    unfold clos
    by_cases hx : x = y
    · subst hx
      by_cases hk : kd = .free
      · subst hk
        simp only [beq_self_eq_true, if_true]
        exact clos_has (.inr (by simp))
      · have hb : (kd == NameKind.free) = false := by simpa using hk
        rw [hb]
        simp only [Bool.false_eq_true, if_false]
        exact clos_has (.inr (h.resolve_left (by simp; exact hk)))
    · have hb : (x == y) = false := beq_eq_false_iff_ne.mpr hx
      have h' : r.lookup x = some .free ∨ (acc.lookup x).isSome = true := by simpa [List.lookup_cons, hb] using h
      split
      · exact clos_has (h'.imp id fun q => by simpa [List.lookup_cons, hb] using q)
      · exact clos_has h'
theorem clos_not {env : Env} {x : Str} : ∀ {names : List (Str × NameKind)} {acc : List (Str × Addr)}, (∀ y ∈ names, y.1 = x → y.2 ≠ .free) → (clos env names acc).lookup x = acc.lookup x
  | [], acc, _ => rfl
  | (y, kd) :: r, acc, h => by
    unfold clos
    have hr := fun z hz => h z (List.mem_cons_of_mem _ hz)
    split
    · rename_i hk
      rw [clos_not hr, List.lookup_cons]
      have : x ≠ y := fun e => h (y, kd) (.head _) e.symm (by simpa using hk)
      rw [beq_eq_false_iff_ne.mpr this]
    · exact clos_not hr
theorem cells_not {x : Str} : ∀ {names : List (Str × NameKind)} {n : Nat} {acc : List (Str × Addr)}, (∀ y ∈ names, y.1 = x → y.2 ≠ .cell) → (cellsFrom n names acc).lookup x = acc.lookup x
  | [], n, acc, _ => rfl
  | (y, kd) :: r, n, acc, h => by
    unfold cellsFrom
    have hr := fun z hz => h z (List.mem_cons_of_mem _ hz)
    split
    · rename_i hk
      rw [cells_not hr, List.lookup_cons]
      have : x ≠ y := fun e => h (y, kd) (.head _) e.symm (by simpa using hk)
      rw [beq_eq_false_iff_ne.mpr this]
    · exact cells_not hr
noncomputable def InjC (L : List (Str × Addr)) : Prop := ∀ x y c, L.lookup x = some c → L.lookup y = some c → x = y
theorem cells_spec : ∀ {names : List (Str × NameKind)} {h : Heap} {acc : List (Str × Addr)} {lo : Nat}, lo ≤ h.objs.size → InjC acc →
    (∀ x (c : Nat), acc.lookup x = some c → (c < lo ∨ (lo ≤ c ∧ c < h.objs.size ∧ h.IsCell c none))) →
    InjC (cellsFrom h.objs.size names acc) ∧
    (∀ x (c : Nat), (cellsFrom h.objs.size names acc).lookup x = some c → (c < lo ∧ acc.lookup x = some c) ∨ (lo ≤ c ∧ (pushCells h names).IsCell c none))
  | [], h, acc, lo, hl, hi, ha => by
    refine ⟨hi, fun x c e => ?_⟩
    unfold cellsFrom at e
    rcases ha x c e with q | ⟨q1, _, q3⟩
    · exact .inl ⟨q, e⟩
    · exact .inr ⟨q1, q3⟩
  | (n, kd) :: r, h, acc, lo, hl, hi, ha => by
    unfold cellsFrom pushCells
    split
    · have hsz : (h.push { cls := .type "cell", data := .cell none }).objs.size = h.objs.size + 1 := Heap.size_push ..
      have hi' : InjC ((n, h.objs.size) :: acc) := by
        intro x y c h1 h2
        rw [List.lookup_cons] at h1 h2
        have c' : Nat := c
        have hlt : ∀ z, acc.lookup z = some c → Nat.lt c h.objs.size := fun z q => by rcases ha z c q with w | ⟨_, w, _⟩; exact Nat.lt_of_lt_of_le w hl; exact w
        by_cases hx : x = n <;> by_cases hy : y = n
        · rw [hx, hy]
        · subst hx
          simp only [beq_self_eq_true, Option.some.injEq] at h1
          rw [beq_eq_false_iff_ne.mpr hy] at h2
          have := hlt y h2; rw [h1] at this; exact absurd this (Nat.lt_irrefl _)
        · subst hy
          simp only [beq_self_eq_true, Option.some.injEq] at h2
          rw [beq_eq_false_iff_ne.mpr hx] at h1
          have := hlt x h1; rw [h2] at this; exact absurd this (Nat.lt_irrefl _)
        · rw [beq_eq_false_iff_ne.mpr hx] at h1
          rw [beq_eq_false_iff_ne.mpr hy] at h2
          exact hi x y c h1 h2
      have ha' : ∀ x (c : Nat), ((n, h.objs.size) :: acc).lookup x = some c → (c < lo ∨ (lo ≤ c ∧ c < (h.push { cls := .type "cell", data := .cell none }).objs.size ∧ (h.push { cls := .type "cell", data := .cell none }).IsCell c none)) := by
        intro x c e
        rw [hsz]
        rw [List.lookup_cons] at e
        by_cases hx : x = n
        · subst hx
          simp only [beq_self_eq_true, Option.some.injEq] at e
          subst e
          exact .inr ⟨hl, by lia, ⟨_, Heap.get?_push_size _ rfl, rfl⟩⟩
        · rw [beq_eq_false_iff_ne.mpr hx] at e
          rcases ha x c e with q | ⟨q1, q2, q3⟩
          · exact .inl q
          · exact .inr ⟨q1, by lia, q3.keeps fun b o e => Heap.get?_push_of_some _ e⟩
      have := cells_spec (names := r) (h := h.push { cls := .type "cell", data := .cell none }) (lo := lo) (by lia) hi' ha'
      rw [hsz] at this
      refine ⟨this.1, fun x c e => ?_⟩
      rcases this.2 x c e with ⟨q1, q2⟩ | q
      · refine .inl ⟨q1, ?_⟩
        rw [List.lookup_cons] at q2
        by_cases hx : x = n
        · subst hx
          simp only [beq_self_eq_true, Option.some.injEq] at q2
          exact absurd (Nat.lt_of_lt_of_le q1 hl) (by rw [← q2]; exact Nat.lt_irrefl _)
        · rwa [beq_eq_false_iff_ne.mpr hx] at q2
      · exact .inr q
    · exact cells_spec hl hi ha
noncomputable def rl (sc scope : Scope) : Scope := { scope with names := scope.names.map fun (n, kd) => if (kd == .free && sc.kind == .function && sc.names.lookup n == some .cell) then (n, .cell) else (n, kd) }
theorem relabel_rl (scope : Scope) (env : Env) : relabel scope env = rl env.scope scope := rfl
theorem rl_lookup {sc scope : Scope} {x : Str} (hk : sc.kind = .function) : (rl sc scope).names.lookup x = (scope.names.lookup x).map fun kd => if kd = .free ∧ sc.names.lookup x = some .cell then .cell else kd := by
  unfold rl
  simp only
  induction scope.names with
  | nil => rfl
  | cons y r ih =>
    obtain ⟨n, kd⟩ := y
    rw [List.map_cons, List.lookup_cons]
    by_cases hx : x = n
    · subst hx
      by_cases hc : kd = .free ∧ sc.names.lookup x = some .cell
      · obtain ⟨rfl, h2⟩ := hc
        simp [hk, h2]
      · rw [show (if (kd == NameKind.free && sc.kind == ScopeKind.function && sc.names.lookup x == some NameKind.cell) = true then (x, NameKind.cell) else (x, kd)) = (x, kd) from if_neg (by
          intro q
          simp only [Bool.and_eq_true, beq_iff_eq] at q
          exact hc ⟨q.1.1, q.2⟩)]
        simp [hc]
    · have hb : (x == n) = false := beq_eq_false_iff_ne.mpr hx
      rw [List.lookup_cons, hb]
      have hb2 : ∀ u : NameKind, ((n, u) : Str × NameKind).1 = n := fun _ => rfl
      by_cases hc : (kd == NameKind.free && sc.kind == ScopeKind.function && sc.names.lookup n == some NameKind.cell) = true
      · simp only [hc, if_true, hb]; exact ih
      · simp only [hc, Bool.false_eq_true, if_false, hb]; exact ih
end
section
variable {C : Cx} {k : Nat} {sc : Scope} {σ : Sto} {om : Om}
structure BlockOk (sc scope : Scope) : Prop where
  kind : scope.kind = .function
  free : ∀ x, scope.names.lookup x = some .free → sc.names.lookup x = some .cell
  uniq : ∀ x ∈ scope.names, scope.names.lookup x.1 = some x.2
noncomputable def blockOk (sc scope : Scope) : Bool := scope.kind == .function && scope.names.all (fun x => scope.names.lookup x.1 == some x.2 && (x.2 != .free || sc.names.lookup x.1 == some .cell))
theorem blockOk_ok {sc scope : Scope} (h : blockOk sc scope = true) : BlockOk sc scope := by
  unfold blockOk at h
  simp only [Bool.and_eq_true, List.all_eq_true, beq_iff_eq] at h
  refine ⟨h.1, fun x hx => ?_, fun x hx => (h.2 x hx).1⟩
  have hm : (x, NameKind.free) ∈ scope.names := PySem.mem_of_lookup hx
  have := (h.2 _ hm).2
  simpa using this
noncomputable def sigC (scope : Scope) (σ : Sto) : Sto := fun y => if scope.names.lookup y = some .free then σ y else none
theorem newEnv_comp {M : Model} {A : Around} {E : Value → Shared → Prop} {s : Shared} {scope : Scope} {globals : Addr} {cl : List (Str × Addr)} {qual : Str} {outer : Env} {Q : Env → Shared → Prop}
    (h : Q { scope, locals := s.heap.objs.size, globals, cells := cellsFrom (s.heap.objs.size + 1) scope.names cl, qual, func := none, code := outer.code, frame := outer.frame, builtins := outer.builtins }
      { s with heap := pushCells (s.heap.push { cls := .type "dict", data := .dict #[] }) scope.names }) :
    wpAny M A (newFunctionEnv scope globals cl [] qual none .none (some outer)) Q E s := by
  simp only [newFunctionEnv, Option.isSome_some, if_true]
  refine wpAny_bind (wpAny_alloc ?_)
  refine wpAny_bind (wpAny_layCells _ (fun name kind cells => by cases hkc : kind == NameKind.cell <;> simp [hkc]) _ _ _ _ ?_)
  rw [show ({ s with heap := s.heap.push { cls := .type "dict", data := .dict #[] } } : Shared).heap.objs.size = s.heap.objs.size + 1 from Heap.size_push ..]
  refine wpAny_bind ?_
  rw [List.forIn_nil]
  exact wpAny_pure (wpAny_pure h)
theorem comp_env {scope : Scope} {env cenv : Env} {h : Heap} (S : St C sc σ om env h) (bk : BlockOk sc scope)
    (hc : cenv = { scope := relabel scope env, locals := h.objs.size, globals := env.globals, cells := cellsFrom (h.objs.size + 1) scope.names (clos env scope.names []), qual := env.qual, func := none, code := env.code, frame := env.frame, builtins := env.builtins }) :
    St C (rl sc scope) (sigC scope σ) om cenv (pushCells (h.push { cls := .type "dict", data := .dict #[] }) scope.names) ∧
    Ext h (pushCells (h.push { cls := .type "dict", data := .dict #[] }) scope.names) ∧
    (∀ x c, cenv.cells.lookup x = some c → scope.names.lookup x = some .cell → h.get? c = none) := by
  have F := S.fro
  have ex : Ext h (pushCells (h.push { cls := .type "dict", data := .dict #[] }) scope.names) := fun b o e => pushCells_keeps _ _ b o (Heap.get?_push_of_some _ e)
  have hsz : (h.push { cls := .type "dict", data := .dict #[] }).objs.size = h.objs.size + 1 := Heap.size_push ..
  have hf : ∀ y ∈ scope.names, y.2 = .free → (env.cells.lookup y.1).isSome = true := fun y hy e => by
    have h1 := bk.uniq y hy
    rw [e] at h1
    obtain ⟨c, hc⟩ := F.cellAll y.1 (bk.free _ h1)
    rw [hc]; rfl
  have hcl' : ∀ x c, (clos env scope.names []).lookup x = some c → env.cells.lookup x = some c := fun x c e => clos_spec (x := x) hf (fun c q => by simp at q) c e
  have un : ∀ {x kd}, scope.names.lookup x = some kd → ∀ y ∈ scope.names, y.1 = x → y.2 = kd := fun {x kd} e y hy q => by
    have := bk.uniq y hy
    rw [q, e] at this
    exact (Option.some.inj this).symm
  have hlt : ∀ x c, (clos env scope.names []).lookup x = some c → Nat.lt c h.objs.size := fun x c e => by
    obtain ⟨v, o, e1, _⟩ := F.cell x c (hcl' x c e)
    exact Heap.lt_size e1
  have spec := cells_spec (names := scope.names) (h := h.push { cls := .type "dict", data := .dict #[] }) (acc := clos env scope.names []) (lo := h.objs.size + 1) (by rw [hsz]; exact Nat.le_refl _)
    (fun x y c h1 h2 => F.apart x y c (hcl' x c h1) (hcl' y c h2)) (fun x c e => .inl (Nat.lt_succ_of_lt (hlt x c e)))
  rw [hsz] at spec
  have hcells : cenv.cells = cellsFrom (h.objs.size + 1) scope.names (clos env scope.names []) := by rw [hc]
  have hloc : cenv.locals = h.objs.size := by rw [hc]
  have hscp : cenv.scope = rl sc scope := by rw [hc, ← F.scope]; rfl
  have hkof : ∀ y, cenv.kindOf y = (rl sc scope).names.lookup y := fun y => by show cenv.scope.names.lookup y = _; rw [hscp]
  have new : ∀ b : Nat, h.objs.size ≤ b → C.h0.get? b = none := fun b hb' => by
    cases q : C.h0.get? b with
    | none => rfl
    | some o => exact absurd (Heap.lt_size (F.base _ _ q)) (Nat.not_lt.mpr hb')
  have cellOf : ∀ x c, cenv.cells.lookup x = some c → (Nat.lt c h.objs.size ∧ env.cells.lookup x = some c) ∨ (Nat.le (h.objs.size + 1) c ∧ (pushCells (h.push { cls := .type "dict", data := .dict #[] }) scope.names).IsCell c none) := fun x c e => by
    rw [hcells] at e
    rcases spec.2 x c e with ⟨_, q2⟩ | q
    · exact .inl ⟨hlt x c q2, hcl' x c q2⟩
    · exact .inr q
  refine ⟨⟨⟨fun b o e => ex b o (F.base b o e), hscp, bk.kind, by rw [hc]; exact F.glob, by rw [hc]; exact F.blt, ⟨fun _ => none, ?_⟩, new _ (by rw [hloc]; exact Nat.le_refl _), fun x c e => ?_, fun x c e => ?_, fun x y c h1 h2 => ?_, fun x hx => ?_⟩, S.own.step ex, fun y a hy => ?_⟩, ex, fun x c e hx => ?_⟩
  · rw [hloc]; exact (Heap.Ns.new h (.type "dict")).keeps (pushCells_keeps _ _)
  · rcases cellOf x c e with ⟨_, q⟩ | ⟨_, q⟩
    · obtain ⟨v, hv⟩ := F.cell x c q; exact ⟨v, hv.keeps ex⟩
    · exact ⟨_, q⟩
  · rcases cellOf x c e with ⟨_, q⟩ | ⟨q, _⟩
    · exact F.cellNew x c q
    · exact new c (Nat.le_of_succ_le q)
  · rw [hcells] at h1 h2; exact spec.1 x y c h1 h2
  · rw [hcells]
    rw [rl_lookup F.kind] at hx
    obtain ⟨kd, hkd, he⟩ := Option.map_eq_some_iff.mp hx
    have : scope.names.lookup x = some .cell ∨ ((clos env scope.names []).lookup x).isSome = true := by
      by_cases hfr : kd = .free ∧ sc.names.lookup x = some .cell
      · exact .inr (clos_has (.inl (by rw [hkd, hfr.1])))
      · rw [if_neg hfr] at he; subst he; exact .inl hkd
    exact Option.isSome_iff_exists.mp (cellsFrom_has this)
  · unfold sigC at hy
    split at hy
    · rename_i hfr
      obtain ⟨v, r, q⟩ := S.rd y a hy
      have hcell := bk.free y hfr
      refine ⟨v, .inr ⟨.inl ?_, ?_⟩, ex.step.avr q⟩
      · rw [hkof, rl_lookup F.kind, hfr]; simp [hcell]
      · rcases r with ⟨hl, _⟩ | ⟨_, c, hc', hv⟩
        · rw [F.kof, hcell] at hl; cases hl
        · have h1 := clos_has (env := env) (names := scope.names) (acc := []) (x := y) (.inl hfr)
          obtain ⟨c', hc1⟩ := Option.isSome_iff_exists.mp h1
          have h2 := cellsFrom_has (n := h.objs.size + 1) (names := scope.names) (acc := clos env scope.names []) (x := y) (.inr h1)
          obtain ⟨c2, hc2⟩ := Option.isSome_iff_exists.mp h2
          have h3 := cells_not (n := h.objs.size + 1) (names := scope.names) (acc := clos env scope.names []) (x := y) (fun z hz q => by rw [un hfr z hz q]; decide)
          rw [hc1] at h3
          have e3 := hcl' y c' hc1
          rw [hc'] at e3; cases e3
          exact ⟨c, by rw [hcells]; exact h3, hv.keeps ex⟩
    · cases hy
  · rw [hcells] at e
    rcases spec.2 x c e with ⟨_, q2⟩ | ⟨q, _⟩
    · rw [clos_not (fun z hz q => by rw [un hx z hz q]; decide)] at q2; cases q2
    · cases q' : h.get? c with
      | none => rfl
      | some o => exact absurd (Heap.lt_size q') (Nat.not_lt.mpr (Nat.le_of_succ_le q))
noncomputable def CompJ (C : Cx) (k : Nat) (sc : Scope) (σ : Sto) (x : Str) (items : List AV) (J : Nat → List AV → Om → Prop) (ifs : List PySem.Expr) (elt : PySem.Expr) : Prop :=
  ∀ i a acc om2 D, items[i]? = some a → om2 D = none → J i acc om2 → match ifs with
    | [] => We C k sc (σ.set x a) (om2.set D acc) elt (fun b om3 => ∃ om4, om3 = om4.set D acc ∧ om4 D = none ∧ J (i + 1) (acc ++ [b]) om4)
    | [t] => Wt C k sc (σ.set x a) (om2.set D acc) t (fun c om3 => if c then We C k sc (σ.set x a) om3 elt (fun b om3' => ∃ om4, om3' = om4.set D acc ∧ om4 D = none ∧ J (i + 1) (acc ++ [b]) om4)
        else ∃ om4, om3 = om4.set D acc ∧ om4 D = none ∧ J (i + 1) acc om4)
    | _ => False
theorem append_own {A : Around} {E : Value → Shared → Prop} {s : Shared} {Q : Value → Shared → Prop} {D : Addr} {l : List AV} {v : Value} {a : AV} (O : OwnOk C.h0 om s.heap) (hl : om D = some l) (hlen : l.length ≤ 2 ^ 20) (hv : AVR om s.heap v a)
    (hQ : ∀ h', Step om s.heap (om.set D (l ++ [a])) h' → OwnOk C.h0 (om.set D (l ++ [a])) h' → Q .none { s with heap := h' }) :
    wpAny (MM C) A (call (.builtin "list.append") [.ref D, v]) Q E s := by
  obtain ⟨vs, n, h1, h2⟩ := O.at' D l hl
  have z := h2.length
  simp only [Array.length_toList] at z
  refine wpAny_call_entry slot_list_append (IsL.isList h1).typeIs entry_list_append ?_ (args_list_append _ _)
  show wpAny _ _ (updateSeq D (·.push v) >>= fun _ => ret .none) _ _ s
  refine wpAny_bind ?_
  obtain ⟨st, o⟩ := own_set (l := l ++ [a]) O (by rw [hl]; exact Option.some_ne_none _) (Heap.SameBut.update _ _ _) (IsL.update h1 (·.push v)) (by simpa using h2.append (.cons hv .nil))
  exact wpAny_updateSeq (hz := by rw [sizeLine_eq]; omega) (_hz' := by rw [sizeLine_eq, Array.size_push]; omega) h1 rfl (wpAny_pure ⟨.none, rfl, hQ _ st o⟩)
theorem Sto.set_set {σ : Sto} {x : Str} {a b : AV} : (σ.set x a).set x b = σ.set x b := by
  funext y; simp only [Sto.set]; split <;> rfl
theorem comp_hf {env : Env} {h : Heap} {scope : Scope} (S : St C sc σ om env h) (bk : BlockOk sc scope) : ∀ y ∈ scope.names, y.2 = .free → (env.cells.lookup y.1).isSome = true := fun y hy e => by
  have h1 := bk.uniq y hy
  rw [e] at h1
  obtain ⟨c, hc⟩ := S.fro.cellAll y.1 (bk.free _ h1)
  rw [hc]; rfl
theorem Kd_comp {scope : Scope} {x : Str} (hk : sc.kind = .function) (hx : scope.names.lookup x = some .local ∨ scope.names.lookup x = some .cell) : Kd (rl sc scope) x := by
  rcases hx with q | q
  · exact .inl (by rw [rl_lookup hk, q]; simp)
  · exact .inr (by rw [rl_lookup hk, q]; simp)
noncomputable def CP (cenv : Env) (x : Str) (b : Addr) : Prop := b = cenv.locals ∨ (cenv.kindOf x = some .cell ∧ cenv.cells.lookup x = some b)
noncomputable def CU (V : Addr → Prop) (wr : List Addr) (b : Addr) : Prop := V b ∨ b ∈ wr
theorem CU.noSeq {V : Addr → Prop} {wr : List Addr} {h : Heap} (hV : ∀ b, V b → h.get? b = none) (f : ∀ b ∈ wr, ∃ o xs, h.get? b = some o ∧ o.data = .fields xs) : NoSeq (CU V wr) h := by
  rintro b o (q | q) e
  · rw [hV b q] at e; cases e
  · exact fld_noSeq f b o q e
theorem fp_ne {h : Heap} {fp : List Addr} {c : Addr} (ob : ∀ b ∈ fp, ∃ o, h.get? b = some o) (hc : h.get? c = none) : ∀ b ∈ fp, b ≠ c := by
  rintro b hb rfl
  obtain ⟨o, e⟩ := ob b hb; rw [hc] at e; cases e
theorem comp_pre {e0 : PySem.Expr} {scope : Scope} {use : Option (Value → Sem Unit)} {A : Around} {env : Env} {s : Shared} {E : Value → Shared → Prop} {Q : Value → Shared → Prop} {om1 : Om} {h2 : Heap} {tk : Nat} {I : Value} (S2 : St C sc σ om1 env h2) (bk : BlockOk sc scope)
    (H : ∀ (D : Addr) (cenv : Env) (h4 : Heap), om1 D = none → St C (rl sc scope) (sigC scope σ) (om1.set D []) cenv h4 → Step om1 h2 (om1.set D []) h4 → Ext h2 h4 → h2.get? cenv.locals = none →
      (∀ x, (scope.names.lookup x = some .local ∨ scope.names.lookup x = some .cell) → ∀ b, CP cenv x b → h2.get? b = none) →
      codeAny (MM C) A (.compStart e0 0 I (.ref D) cenv) (compPost (MM C) A E use Q (.ref D) cenv.locals) { s with heap := h4, toks := tk }) :
    wpAny (MM C) A (newList []) (fun acc s₃ => wpAny (MM C) A (newFunctionEnv scope env.globals (clos env scope.names []) [] env.qual none .none (some env)) (fun cenv s₄ =>
      codeAny (MM C) A (.compStart e0 0 I acc { cenv with scope := relabel scope env }) (compPost (MM C) A E use Q acc cenv.locals) s₄) E s₃) E { s with heap := h2, toks := tk } := by
  have F := S2.fro
  refine wpAny_newObj_type ?_
  show wpAny _ _ (newFunctionEnv scope env.globals _ [] env.qual none .none (some env)) _ _ { s with heap := h2.push { cls := .type "list", data := .seq ([] : List Value).toArray }, toks := tk }
  obtain ⟨st3, O3⟩ := push_list (as := []) S2.own F.base (.nil) (h2.push { cls := .type "list", data := .seq ([] : List Value).toArray }) (Ext.push _ _) h2.objs.size (size_new _) (Heap.get?_push_size _ rfl)
  have hD1 : om1 h2.objs.size = none := S2.own.free (size_new _)
  have ex3 := Ext.push h2 { cls := .type "list", data := .seq ([] : List Value).toArray }
  generalize h2.push { cls := .type "list", data := .seq ([] : List Value).toArray } = h3 at st3 O3 ex3 ⊢
  generalize h2.objs.size = D at st3 O3 hD1 ⊢
  have S3 : St C sc σ (om1.set D []) env h3 := S2.step st3 O3
  refine newEnv_comp ?_
  show codeAny _ _ (.compStart _ 0 I (.ref D) { scope := relabel scope env, locals := h3.objs.size, globals := env.globals, cells := cellsFrom (h3.objs.size + 1) scope.names (clos env scope.names []), qual := env.qual, func := none, code := env.code, frame := env.frame, builtins := env.builtins }) (compPost _ _ _ use Q (.ref D) h3.objs.size) { s with heap := pushCells (h3.push { cls := .type "dict", data := .dict #[] }) scope.names, toks := tk }
  obtain ⟨S4, ex4, hown⟩ := comp_env S3 bk rfl
  have h32 : ∀ b, h3.get? b = none → h2.get? b = none := fun b q => by
    cases e : h2.get? b with
    | none => rfl
    | some o => rw [ex3 b o e] at q; cases q
  refine H D _ _ hD1 S4 (st3.trans ex4.step) (fun b o e => ex4 b o (ex3 b o e)) (h32 _ (size_new _)) fun x hx b q => h32 b ?_
  rcases q with q | ⟨q1, q2⟩
  · rw [q]; exact size_new _
  · rcases hx with w | w
    · rw [S4.fro.kof, rl_lookup F.kind, w] at q1; simp at q1
    · exact hown x b q2 w
noncomputable def CI (C : Cx) (sc : Scope) (V : Sto → Prop) (n : Nat) (J : Nat → List AV → Om → Prop) (U : Addr → Prop) (om1 : Om) (h2 : Heap) (D : Addr) (cenv : Env) (Stt : Nat → Heap → Prop) (s : Shared) (m : Nat) (s' : Shared) : Prop :=
  ∃ om2 h5 tk5 acc i τ, s' = { s with heap := h5, toks := tk5 } ∧ J i acc om2 ∧ om2 D = none ∧ Ef U om1 h2 (om2.set D acc) h5 ∧ St C sc τ (om2.set D acc) cenv h5 ∧ V τ ∧ Stt i h5 ∧ i ≤ n ∧ m = n + 1 - i
section
variable {V : Sto → Prop} {n : Nat} {J : Nat → List AV → Om → Prop} {U : Addr → Prop} {om1 om2 : Om} {h2 h7 : Heap} {D : Addr} {cenv : Env} {Stt : Nat → Heap → Prop} {s : Shared} {i : Nat} {acc : List AV} {σ7 : Sto}
theorem CI.fin {om4 : Om} {h8 : Heap} {tk8 : Nat} {acc' : List AV} {om3 : Om} (ef7 : Ef U om1 h2 om2 h7) (S7 : St C sc σ7 om2 cenv h7) (hV : V σ7) (hlt : i < n) (e : om3 = om4.set D acc') (hD4 : om4 D = none) (hJ : J (i + 1) acc' om4) (ef8 : Ef NoW om2 h7 om3 h8) (O8 : OwnOk C.h0 om3 h8) (hst8 : Stt (i + 1) h8) :
    ∃ m, m < n + 1 - i ∧ CI C sc V n J U om1 h2 D cenv Stt s m { s with heap := h8, toks := tk8 } := by
  subst e
  exact ⟨n + 1 - (i + 1), Nat.sub_lt_sub_left (Nat.lt_succ_of_lt hlt) (Nat.lt_succ_self i), om4, h8, tk8, acc', i + 1, _, rfl, hJ, hD4, ef7.trans (Step.weak ef8), S7.step ef8 O8, hV, hst8, hlt, rfl⟩
theorem CI.elt {elt : PySem.Expr} {A : Around} (hA : AOk k A) (fr : ∀ om3 h8, Ef NoW (om2.set D acc) h7 om3 h8 → Stt (i + 1) h8) (ef7 : Ef U om1 h2 (om2.set D acc) h7) (S7 : St C sc σ7 (om2.set D acc) cenv h7) (hV : V σ7) (hlt : i < n) (hal : acc.length ≤ i) (hlen : n ≤ 2 ^ 20)
    {om3 : Om} {h8 : Heap} {tk8 : Nat} (ef8 : Ef NoW (om2.set D acc) h7 om3 h8) (O8 : OwnOk C.h0 om3 h8) (z : We C k sc σ7 om3 elt (fun b om3' => ∃ om4, om3' = om4.set D acc ∧ om4 D = none ∧ J (i + 1) (acc ++ [b]) om4)) (E' : Value → Shared → Prop) :
    wpAny (MM C) A (eval elt cenv) (fun u₄ s₄ => wpAny (MM C) A (call (.builtin "list.append") [.ref D, u₄]) (fun _ s₅ => ∃ m, m < n + 1 - i ∧ CI C sc V n J U om1 h2 D cenv Stt s m s₅) E' s₄) E' { s with heap := h8, toks := tk8 } := by
  refine z.bind (s := { s with heap := h8, toks := tk8 }) hA (S7.step ef8 O8) fun u b om9 h9 tk9 ⟨om4, e4, hD4, hJ4⟩ st9 S9 ru => ?_
  subst e4
  refine append_own (s := { s with heap := h9, toks := tk9 }) S9.own Om.set_at (Nat.le_trans hal (Nat.le_trans (Nat.le_of_lt hlt) hlen)) ru fun h10 st10 O10 => ?_
  have hss : (om4.set D acc).set D (acc ++ [b]) = om4.set D (acc ++ [b]) := by funext z; simp only [Om.set]; split <;> rfl
  rw [hss] at st10 O10
  have ef10 := (ef8.trans st9).trans st10
  exact CI.fin ef7 S7 hV hlt rfl hD4 hJ4 ef10 O10 (fr _ _ ef10)
end
theorem comp_done {om2 : Om} {h5 h6 : Heap} {wr : List Addr} {U : Addr → Prop} {s : Shared} {cenv : Env} {τ : Sto} (S5 : St C sc τ om2 cenv h5) (x5 : Ef U om s.heap om2 h5)
    (hk6 : ∀ b o, b ∉ wr → h5.get? b = some o → h6.get? b = some o) (f : ∀ b ∈ wr, ∃ o xs, h5.get? b = some o ∧ o.data = .fields xs) (hU0 : ∀ b, U b → s.heap.get? b = none) (hUw : ∀ b ∈ wr, U b) (hlw : cenv.locals ∉ wr) :
    Step om s.heap om2 h6 ∧ OwnOk C.h0 om2 h6 ∧ ∃ m, h6.Ns cenv.locals m := by
  refine ⟨⟨fun b o _ q1 q2 => ?_, fun b q => ?_, x5.fresh⟩, chg_own S5.own hk6 (fld_noSeq f), ?_⟩
  · have hb : ¬ U b := fun q => by rw [hU0 b q] at q2; cases q2
    exact hk6 b o (fun q => hb (hUw b q)) (x5.keep b o hb q1 q2)
  · by_cases hb : b ∈ wr
    · exact hU0 b (hUw b hb)
    · refine x5.stay b ?_
      cases q' : h5.get? b with
      | none => rfl
      | some o => rw [hk6 b o hb q'] at q; cases q
  · obtain ⟨m, o, es, ep, e1, e2, r⟩ := S5.fro.ns
    exact ⟨m, o, es, ep, hk6 _ _ hlw e1, e2, r⟩
theorem comp_core {elt iter : PySem.Expr} {ifs : List PySem.Expr} {x : Str} {px pos cpos : Pos} {scope : Scope} {use : Option (Value → Sem Unit)} {Fin : List AV → Om → Prop} {A : Around} {env : Env} {s : Shared} {E : Value → Shared → Prop} {Q : Value → Shared → Prop}
    (bk : BlockOk sc scope) (hx : scope.names.lookup x = some .local ∨ scope.names.lookup x = some .cell)
    (y : Wi C k sc σ om iter (fun items om1 => ∃ J : Nat → List AV → Om → Prop, J 0 [] om1 ∧ (∀ i acc om2, J i acc om2 → acc.length ≤ i) ∧ CompJ C k (rl sc scope) (sigC scope σ) x items J ifs elt ∧ (∀ acc om2, J items.length acc om2 → Fin acc om2)))
    (hs : ∀ x, foldedSetIterable iter env x = pure x) (hA : AOk k A) (S : St C sc σ om env s.heap)
    (hQ : ∀ D acc om' h' tk C0 m, Fin acc om' → om' D = none → Step om s.heap (om'.set D acc) h' → OwnOk C.h0 (om'.set D acc) h' → s.heap.get? C0 = none → h'.Ns C0 m →
      compPost (MM C) A E use Q (.ref D) C0 (.ok .next) { s with heap := h', toks := tk }) :
    wpAny (MM C) A (comprehension (.ListComp elt [⟨.Name x px, iter, ifs, 0⟩] scope pos) scope env cpos (newList []) false (eval iter env) use) Q E s := by
  have F := S.fro
  refine wpAny_comprehension_free rfl hs (closureFor_eq (comp_hf S bk)) bk.kind (fun z hz e => by have := bk.uniq z hz; rw [e] at this; exact this)
    (y A env s E _ hA S fun I fp wr Pr Stt items om1 h2 tk ⟨J, hJ0, hJl, turn, done⟩ W it hst hlen hitem st O2 hnew hfo hfw hfs => comp_pre (S.step st O2) bk fun D cenv h4 hD1 S4 st4 ex24 hC0n hU3 => ?_)
  have hkx : Kd (rl sc scope) x := Kd_comp F.kind hx
  have hV := hU3 x hx
  have hU0 : ∀ b, CU (CP cenv x) wr b → s.heap.get? b = none := fun b q => q.elim (fun q => st.stay b (hV b q)) (hnew b)
  have nsU2 := CU.noSeq hV (it.fld 0 h2 hst)
  have hn0 := new0 S hnew
  have wsub : ∀ b ∈ wr, b ∈ fp := W.sub
  have ob := it.obj _ _ hst
  have hst4 : Stt 0 h4 := W.frame 0 _ _ hst fun b hb o e => ex24 b o e
  have loop : codeAny (MM C) A (.compLoop (.ListComp elt [⟨.Name x px, iter, ifs, 0⟩] scope pos) 0 (.ref I) (.ref D) cenv) (compPost (MM C) A E use Q (.ref D) cenv.locals) { s with heap := h4, toks := tk } := by
    refine codeAny_compLoop_tests (CI C (rl sc scope) (fun τ => ∀ a, τ.set x a = (sigC scope σ).set x a) items.length J (CU (CP cenv x) wr) om1 h2 D cenv Stt s) ?_ (items.length + 1)
      ⟨om1, h4, tk, [], 0, _, rfl, hJ0, hD1, Step.weak st4, S4, fun _ => rfl, hst4, Nat.zero_le _, rfl⟩
    rintro m s' ⟨om2, h5, tk5, acc, i, τ, rfl, hJ, hDn2, ef5, S5, hτ, hst5, hi, rfl⟩
    by_cases hlt : i < items.length
    · refine W.item i { s with heap := h5, toks := tk5 } _ _ hlt hst5 fun v h6 tk6 hP hst6 hk6 => ?_
      have e6 := but_ef (W := NoW) (om := om2.set D acc) hk6 (some_ne (it.obj _ _ hst6) wsub)
      have ef6 : Ef (CU (CP cenv x) wr) om1 h2 (om2.set D acc) h6 := ef5.trans (e6.weak fun b q => .inr q)
      have S6 := S5.but hk6 (it.fld _ _ hst5) hn0
      obtain ⟨a, ha, hr⟩ := hitem i v _ _ h6 hP ef6 nsU2
      refine wpAny_assign_Name (store_ok (s := { s with heap := h6, toks := tk6 }) S6 hkx hr fun pl h7 tk7 hp hs7 ef7 S7 => ?_)
      rw [hτ a] at S7
      have ef7' : Ef (CU (CP cenv x) wr) om1 h2 (om2.set D acc) h7 := ef6.trans (ef7.weak fun b q => .inl (by subst q; exact hp))
      have hst7 : Stt (i + 1) h7 := W.frame _ _ _ hst6 fun b hb o e => hs7.extBut b o (fp_ne ob (hV _ hp) b hb) e
      have fr : ∀ om3 h8, Ef NoW (om2.set D acc) h7 om3 h8 → Stt (i + 1) h8 := fun om3 h8 ef8 => W.frame _ _ _ hst7 fun b hb o e => ef8.keep b o id (by
        obtain ⟨o', e'⟩ := ob b hb
        exact Ef.still ef7' (hfo b hb) e') e
      have hVσ : ∀ b, ((sigC scope σ).set x a).set x b = (sigC scope σ).set x b := fun b => Sto.set_set
      have tn := turn i a acc om2 D ha hDn2 hJ
      have hal := hJl _ _ _ hJ
      match ifs, tn with
      | [], tn => exact wpAny_tests_nil (CI.elt hA fr ef7' S7 hVσ hlt hal hlen Ef.refl S7.own tn _)
      | [t], tn =>
        refine wpAny_tests_one (tn A cenv { s with heap := h7, toks := tk7 } _ _ hA S7 fun c om3 h8 tk8 z st8 O8 => ?_)
        cases c with
        | true => exact CI.elt hA fr ef7' S7 hVσ hlt hal hlen st8 O8 z _
        | false =>
          obtain ⟨om4, e4, hD4, hJ4⟩ := z
          exact CI.fin ef7' S7 hVσ hlt e4 hD4 hJ4 st8 O8 (fr _ _ st8)
    · cases Nat.le_antisymm hi (Nat.le_of_not_lt hlt)
      refine W.done { s with heap := h5, toks := tk5 } _ _ hst5 fun h6 tk6 hk6 => ?_
      obtain ⟨d1, d2, m, d3⟩ := comp_done S5 ((Step.weak st).trans ef5) hk6 (it.fld _ _ hst5) hU0 (fun b q => .inr q) fun q => fp_ne ob hC0n _ (wsub _ q) rfl
      exact hQ D acc om2 h6 tk6 cenv.locals m (done acc om2 hJ) hDn2 d1 d2 (st.stay _ hC0n) d3
  exact codeAny_compStart_list loop (W.self 0 _ _ _ hst4 loop)
theorem We.comp {elt iter : PySem.Expr} {ifs : List PySem.Expr} {x : Str} {px pos : Pos} {scope : Scope} {Φ : AV → Om → Prop}
    (y : Wi C k sc σ om iter (fun items om1 => ∃ J : Nat → List AV → Om → Prop, J 0 [] om1 ∧ (∀ i acc om2, J i acc om2 → acc.length ≤ i) ∧ CompJ C k (rl sc scope) (sigC scope σ) x items J ifs elt ∧ (∀ acc om2, J items.length acc om2 → NewL om2 acc Φ)))
    (bk : blockOk sc scope = true) (hx : scope.names.lookup x = some .local ∨ scope.names.lookup x = some .cell)
    (hs : ∀ env x, foldedSetIterable iter env x = pure x := by intros; rfl) : We C k sc σ om (.ListComp elt [⟨.Name x px, iter, ifs, 0⟩] scope pos) Φ := by
  intro A env s E Q hA S hQ
  rw [eval_ListComp]
  refine comp_core (use := none) (blockOk_ok bk) hx y (hs env) hA S fun D acc om' h' tk C0 m fin hD st O hC0 hm => ?_
  refine ⟨m, hm, fun h'' hs'' => ?_⟩
  have ns : NoSeq (fun b => b = C0) h' := by
    rintro b o rfl e vs n q
    obtain ⟨o', _, _, e1, e2, _⟩ := hm
    rw [e1] at e; cases e; rw [e2] at q; cases q
  have hk : ∀ b o, ¬ (b = C0) → h'.get? b = some o → h''.get? b = some o := fun b o hb e => hs''.extBut b o hb e
  refine fin_list (s := s) (tk1 := tk) fin hQ hD ⟨fun b o _ q1 q2 => ?_, fun b q => ?_, st.fresh⟩ (chg_own O hk ns)
  · exact hk b o (fun q => by subst q; rw [hC0] at q2; cases q2) (st.keep b o id q1 q2)
  · by_cases hb : b = C0
    · subst hb; exact hC0
    · exact st.stay b (by rwa [← hs''.2 b hb])
theorem new_ex {om om1 : Om} {h : Heap} {as : List AV} {D : Addr} {h1 : Heap} {Φ : AV → Om → Prop} (hN : NewL om1 as Φ) (hD : om1 D = none) (hx : Step om h (om1.set D as) h1) (O1 : OwnOk C.h0 (om1.set D as) h1) :
    ∃ a om3, Φ a om3 ∧ Step om h om3 h1 ∧ OwnOk C.h0 om3 h1 ∧ AVR om3 h1 (.ref D) a := by
  rcases hN with ⟨ds, rfl, hh⟩ | hh
  · have hf := freeze_den O1 (D := D) Om.set_at
    rw [Om.del_set hD] at hf
    have hs := hx.trans (freeze_step (D := D))
    rw [Om.del_set hD] at hs
    have ho := freeze_own (D := D) O1
    rw [Om.del_set hD] at ho
    exact ⟨_, _, hh, hs, ho, hf⟩
  · exact ⟨_, _, hh D hD, hx, O1, rfl⟩
theorem Ws.assignComp {elt iter : PySem.Expr} {ifs : List PySem.Expr} {x z : Str} {px pz pos spos : Pos} {scope : Scope} {Φ : Fl → Sto → Om → Prop}
    (y : Wi C k sc σ om iter (fun items om1 => ∃ J : Nat → List AV → Om → Prop, J 0 [] om1 ∧ (∀ i acc om2, J i acc om2 → acc.length ≤ i) ∧ CompJ C k (rl sc scope) (sigC scope σ) x items J ifs elt ∧ (∀ acc om2, J items.length acc om2 → NewL om2 acc (fun a om3 => Φ .nx (σ.set z a) om3))))
    (bk : blockOk sc scope = true) (hx : scope.names.lookup x = some .local ∨ scope.names.lookup x = some .cell) (hz : sc.names.lookup z = some .local)
    (hsw : ∀ env, env.scope = sc → swapsWith (.ListComp elt [⟨.Name x px, iter, ifs, 0⟩] scope pos) (some (.Name z pz)) spos.line env = pure true)
    (hs : ∀ env x, foldedSetIterable iter env x = pure x := by intros; rfl) : Ws C k sc σ om (.Assign [.Name z pz] (.ListComp elt [⟨.Name x px, iter, ifs, 0⟩] scope pos) spos) Φ := by
  intro A env s E Q hA S hQ
  rw [exec_Assign_Name_used (hs := hsw env S.fro.scope)]
  refine wpAny_bind (wpAny_standAt (wpAny_bind ?_))
  show wpAny _ A (do let _ ← comprehension (.ListComp elt [⟨.Name x px, iter, ifs, 0⟩] scope pos) scope env _ (newList []) false (eval iter env) (some (PySem.assign (.Name z pz) env))) _ _ s
  refine wpAny_bind (wpAny_mono (comp_core (use := some (PySem.assign (.Name z pz) env)) (Q := fun _ s' => Q .next s') (blockOk_ok bk) hx y (hs env) hA S fun D acc om' h' tk C0 m fin hD st O hC0 hm => ?_) (fun _ s' hq => wpAny_pure (wpAny_pure hq)) fun _ _ e => e)
  show wpAny _ A (PySem.assign (.Name z pz) env (.ref D)) _ _ _
  obtain ⟨a, om3, hΦ, st3, O3, r3⟩ := new_ex fin hD st O
  have S3 : St C sc σ om3 env h' := S.step st3 O3
  have hlC : env.locals ≠ C0 := by
    obtain ⟨m2, o, _, _, e, _⟩ := S.fro.ns
    intro q; rw [q, hC0] at e; cases e
  refine wpAny_assign_Name (store_ok (s := { s with heap := h', toks := tk }) S3 (.inl hz) r3 fun p h2 tk2 hp hs2 ef2 S2 => ?_)
  have hpC : C0 ≠ p := by
    rcases hp with q | ⟨q, _⟩
    · rw [q]; exact Ne.symm hlC
    · rw [S.fro.kof, hz] at q; cases q
  have hm2 : h2.Ns C0 m := hm.sameBut hs2 hpC
  refine ⟨m, hm2, fun h3 hs3 => ?_⟩
  have ns : NoSeq (fun b => b = C0) h2 := by
    rintro b o rfl e vs n q
    obtain ⟨o', _, _, e1, e2, _⟩ := hm2
    rw [e1] at e; cases e; rw [e2] at q; cases q
  have hk : ∀ b o, ¬ (b = C0) → h2.get? b = some o → h3.get? b = some o := fun b o hb e => hs3.extBut b o hb e
  have S4 : St C sc (σ.set z a) om3 env h3 := S2.chg hk ns hlC (fun w c e q => by
    obtain ⟨v, o, e1, _⟩ := S.fro.cell w c e
    rw [q, hC0] at e1; cases e1) (fun b q => by
    subst q
    cases e : C.h0.get? b with
    | none => rfl
    | some o => rw [S.fro.base _ _ e] at hC0; cases hC0)
  have ef : Ef (Wr env) om s.heap om3 h2 := (Step.weak st3).trans (ef2.weak (Wr_sub hp))
  refine hQ .next .nx _ om3 h3 tk2 hΦ ⟨fun b o nw q1 q2 => ?_, fun b q => ?_, ef.fresh⟩ S4 trivial
  · exact hk b o (fun q => by subst q; rw [hC0] at q2; cases q2) (ef.keep b o nw q1 q2)
  · by_cases hb : b = C0
    · subst hb; exact hC0
    · exact ef.stay b (by rwa [← hs3.2 b hb])
end
noncomputable def fnAt (i : Nat) : DefRec := match P.main.body.drop i with
  | .FunctionDef n a b _ _ _ sc _ _ pos :: _ => ⟨n, a, b, sc, pos⟩
  | _ => ⟨"", ⟨[], [], none, [], [], none, []⟩, [], { kind := .function, names := [], isGenerator := false, isCoroutine := false }, ⟨0, 0, 0, 0⟩⟩
theorem has_of {C : Cx} {f : Str} (j : Nat) (h : ((recsOf P)[j]?).map (·.name) = some f) : ∃ a o fd, C.mg f = some (.ref a) ∧ C.h0.get? a = some o ∧ o.data = .func fd := by
  obtain ⟨d, hd, rfl⟩ := Option.map_eq_some_iff.mp h
  obtain ⟨a, o, pm, code, doc, e1, e2, e3, e4⟩ := C.fn d (List.mem_of_getElem? hd)
  exact ⟨a, o, _, e1, e2, e3⟩
section
variable {C : Cx} {k : Nat} {sc : Scope} {σ : Sto} {om : Om} {Φ : AV → Om → Prop} {fp pos : Pos} {e e2 : PySem.Expr}
theorem We.bAbs (x : We C k sc σ om e (fun a om1 => ∃ i : Int, a = .dat (.int i) ∧ Φ (.dat (.int i.natAbs)) om1)) (hf : sc.names.lookup (Str.ofString "abs") = some .globalImplicit)
    (hs : ∀ env, starEach [e] env = [(false, eval e env)] := by intros; rfl) : We C k sc σ om (.Call (.Name (Str.ofString "abs") fp) [e] [] pos) Φ :=
  We.bltB (Wl.cons (x.mono fun a om1 ⟨i, e1, h⟩ => Wl.nil (by subst e1; exact Wc.abs h)) hs) hf (by decide) (by decide +kernel) hs
theorem We.bInt (x : We C k sc σ om e (fun a om1 => ∃ i : Int, a = .dat (.int i) ∧ Φ (.dat (.int i)) om1)) (hf : sc.names.lookup (Str.ofString "int") = some .globalImplicit)
    (hs : ∀ env, starEach [e] env = [(false, eval e env)] := by intros; rfl) : We C k sc σ om (.Call (.Name (Str.ofString "int") fp) [e] [] pos) Φ :=
  We.bltT (Wl.cons (x.mono fun a om1 ⟨i, e1, h⟩ => Wl.nil (by subst e1; exact Wc.int h)) hs) hf (by decide) (by decide +kernel) hs
theorem We.bLen (x : We C k sc σ om e (fun a om1 => ∃ l, LsOf om1 a l ∧ l.length ≤ 2 ^ 20 ∧ Φ (.dat (.int l.length)) om1)) (hf : sc.names.lookup (Str.ofString "len") = some .globalImplicit)
    (hs : ∀ env, starEach [e] env = [(false, eval e env)] := by intros; rfl) : We C k sc σ om (.Call (.Name (Str.ofString "len") fp) [e] [] pos) Φ :=
  We.bltB (Wl.cons (x.mono fun a om1 ⟨l, e1, hn, h⟩ => Wl.nil (Wc.len e1 (by lia) h)) hs) hf (by decide) (by decide +kernel) hs
theorem We.bLenD (x : We C k sc σ om e (fun a om1 => ∃ l, a = .dat (.list l) ∧ l.length ≤ 2 ^ 20 ∧ Φ (.dat (.int l.length)) om1)) (hf : sc.names.lookup (Str.ofString "len") = some .globalImplicit)
    (hs : ∀ env, starEach [e] env = [(false, eval e env)] := by intros; rfl) : We C k sc σ om (.Call (.Name (Str.ofString "len") fp) [e] [] pos) Φ :=
  We.bLen (x.mono fun a om1 ⟨l, e1, hn, h⟩ => ⟨l.map .dat, by rw [e1]; rfl, by simpa using hn, by simpa using h⟩) hf hs
theorem We.bList (x : We C k sc σ om e (fun a om1 => ∃ l, LsOf om1 a l ∧ l.length ≤ 2 ^ 20 ∧ NewL om1 l Φ)) (hf : sc.names.lookup (Str.ofString "list") = some .globalImplicit)
    (hs : ∀ env, starEach [e] env = [(false, eval e env)] := by intros; rfl) : We C k sc σ om (.Call (.Name (Str.ofString "list") fp) [e] [] pos) Φ :=
  We.bltT (Wl.cons (x.mono fun a om1 ⟨l, e1, hn, h⟩ => Wl.nil (Wc.list e1 (by lia) h)) hs) hf (by decide) (by decide +kernel) hs
theorem We.bListD (x : We C k sc σ om e (fun a om1 => ∃ l, a = .dat (.list l) ∧ l.length ≤ 2 ^ 20 ∧ Φ (.dat (.list l)) om1)) (hf : sc.names.lookup (Str.ofString "list") = some .globalImplicit)
    (hs : ∀ env, starEach [e] env = [(false, eval e env)] := by intros; rfl) : We C k sc σ om (.Call (.Name (Str.ofString "list") fp) [e] [] pos) Φ :=
  We.bList (x.mono fun a om1 ⟨l, e1, hn, h⟩ => ⟨l.map .dat, by rw [e1]; rfl, by simpa using hn, NewL.dat h⟩) hf hs
theorem We.bMax (x : We C k sc σ om e (fun a om1 => We C k sc σ om1 e2 (fun b om2 => ∃ i j : Int, a = .dat (.int i) ∧ b = .dat (.int j) ∧ Φ (.dat (.int (Max.max i j))) om2))) (hf : sc.names.lookup (Str.ofString "max") = some .globalImplicit)
    (hs : ∀ env, starEach [e, e2] env = [(false, eval e env), (false, eval e2 env)] := by intros; rfl) (hs2 : ∀ env, starEach [e2] env = [(false, eval e2 env)] := by intros; rfl) : We C k sc σ om (.Call (.Name (Str.ofString "max") fp) [e, e2] [] pos) Φ :=
  We.bltB (Wl.cons (x.mono fun a om1 y => Wl.cons (y.mono fun b om2 ⟨i, j, e1, e2, h⟩ => Wl.nil (by subst e1 e2; exact Wc.max2 h)) hs2) (fun env => by rw [hs, hs2])) hf (by decide) (by decide +kernel) (fun env => by rw [hs, hs2]) (fun env pos => by rw [hs2]; rfl)
theorem We.bSum (x : We C k sc σ om e (fun a om1 => ∃ ns : List Int, a = .dat (.list (ns.map .int)) ∧ Φ (.dat (.int ns.sum)) om1)) (hf : sc.names.lookup (Str.ofString "sum") = some .globalImplicit)
    (hs : ∀ env, starEach [e] env = [(false, eval e env)] := by intros; rfl) : We C k sc σ om (.Call (.Name (Str.ofString "sum") fp) [e] [] pos) Φ :=
  We.bltB (Wl.cons (x.mono fun a om1 ⟨l, e1, h⟩ => Wl.nil (Wc.sum (ns := l) (by rw [e1]; simp [LsOf]) h)) hs) hf (by decide) (by decide +kernel) hs
end
noncomputable def kdB (sc : Scope) (names : List Str) : Bool := names.all fun x => sc.names.lookup x == some .local || sc.names.lookup x == some .cell
theorem kd_of {sc : Scope} {names : List Str} (h : kdB sc names = true) : ∀ x ∈ names, Kd sc x := by
  intro x hx
  have := List.all_eq_true.mp h x hx
  simp only [Bool.or_eq_true, beq_iff_eq] at this
  exact this
theorem Sto.set_eq {σ : Sto} {x : Str} {a : AV} : σ.set x a x = some a := by simp [Sto.set]
theorem Sto.set_ne {σ : Sto} {x y : Str} {a : AV} (h : y ≠ x) : σ.set x a y = σ y := by simp [Sto.set, h]
set_option maxHeartbeats 1000000 in
theorem gcd_spec {C : Cx} {k : Nat} {om : Om} {a b : Int} {Φ : AV → Om → Prop} (h : Φ (.dat (.int (Int.gcd a b))) om) : Wf C (k + 1) "gcd" om [.dat (.int a), .dat (.int b)] Φ := by
  refine Wf.intro (d := fnAt 3) (List.mem_of_getElem? (i := 0) (by kernel_rfl)) (names := ["a", "b"]) ?_ rfl (by decide) (kd_of (by rfl)) ?_
  · rintro pm code doc (_ | ⟨v1, _ | ⟨v2, _ | ⟨v3, r⟩⟩⟩) h <;> first | rfl | simp at h
  · refine Wx.cons (Ws.swap (names := ["a", "b"]) ?_ (kd_of (by rfl)) (by intro env he; cases env; cases he; rfl))
    repeat first
      | refine We.name (by first | assumption | rfl) ?_
      | refine We.cInt ?_
      | refine We.cNone ?_
      | refine We.cBool ?_
      | refine We.add ?_
      | refine We.sub ?_
      | refine We.mod ?_
      | refine We.neg ?_
      | refine Wl.cons ?_
      | refine Wl.nil ?_
      | refine Wt.cmp ?_
      | refine We.cmp ?_
      | refine Wt.and ?_
      | refine We.bAbs ?_ (by rfl)
      | refine We.bMax ?_ (by rfl)
      | refine We.bInt ?_ (by rfl)
      | refine Wx.cons ?_
      | refine Ws.ret ?_
      | refine Ws.ite ?_
      | refine Wx.nil ?_
      | refine ⟨_, _, rfl, rfl, ?_⟩
      | refine ⟨_, rfl, ?_⟩
    refine ⟨rfl, by decide, ?_⟩
    refine Wx.cons (Ws.while (fun n σ1 om1 => ∃ x y : Nat, σ1 "a" = some (.dat (.int x)) ∧ σ1 "b" = some (.dat (.int y)) ∧ Nat.gcd x y = Int.gcd a b ∧ n = y ∧ om1 = om) b.natAbs ⟨a.natAbs, b.natAbs, rfl, rfl, rfl, rfl, rfl⟩ ?_)
    rintro y σ1 om1 ⟨x, _, hx, hy, hg, rfl, rfl⟩
    repeat first
      | refine We.name (by first | assumption | rfl) ?_
      | refine We.cInt ?_
      | refine We.cNone ?_
      | refine We.cBool ?_
      | refine We.add ?_
      | refine We.sub ?_
      | refine We.mod ?_
      | refine We.neg ?_
      | refine Wl.cons ?_
      | refine Wl.nil ?_
      | refine Wt.cmp ?_
      | refine We.cmp ?_
      | refine Wt.and ?_
      | refine We.bAbs ?_ (by rfl)
      | refine We.bMax ?_ (by rfl)
      | refine We.bInt ?_ (by rfl)
      | refine Wx.cons ?_
      | refine Ws.ret ?_
      | refine Ws.ite ?_
      | refine Wx.nil ?_
      | refine ⟨_, _, rfl, rfl, ?_⟩
      | refine ⟨_, rfl, ?_⟩
    by_cases hy0 : y = 0
    · subst hy0
      simp only [Nat.gcd_zero_right] at hg
      refine Wx.cons (Ws.ret (We.name hx ?_))
      rw [hg]; exact h
    · have : ((y : Int) != 0) = true := by simpa using hy0
      rw [this]
      refine Wx.cons (Ws.swap (names := ["a", "b"]) ?_ (kd_of (by rfl)) (by intro env he; cases env; cases he; rfl))
      refine Wl.cons (We.name hy (Wl.cons (We.mod (We.name hx (We.name hy ⟨_, _, rfl, rfl, by lia, Wl.nil ?_⟩)))))
      have e : ((x : Int).fmod (y : Int)) = ((x % y : Nat) : Int) := by rw [Int.fmod_eq_emod_of_nonneg _ (by lia)]; rfl
      refine ⟨rfl, by decide, Wx.nil ⟨x % y, Nat.mod_lt _ (Nat.pos_of_ne_zero hy0), y, x % y, rfl, ?_, ?_, rfl, rfl⟩⟩
      · rw [← e]; rfl
      · rw [← hg, Nat.gcd_comm x y, Nat.gcd_rec y x, Nat.gcd_comm]
noncomputable def encZ (l : List Int) : PyData := .list (l.map .int)
noncomputable def ztr : List Int → List Int
  | [] => []
  | x :: r => match ztr r with
    | [] => if x = 0 then [] else [x]
    | t => x :: t
theorem ztr_zero : ∀ {l : List Int}, (∀ i, i < l.length → l.getD i 0 = 0) → ztr l = []
  | [], _ => rfl
  | x :: r, h => by
    have h0 := h 0 (by simp)
    simp at h0
    have hr : ztr r = [] := ztr_zero fun i hi => by simpa using h (i + 1) (by simp; omega)
    simp [ztr, hr, h0]
theorem ztr_char : ∀ {l : List Int} {n : Nat}, n ≤ l.length → (∀ i, n ≤ i → i < l.length → l.getD i 0 = 0) → (n = 0 ∨ l.getD (n - 1) 0 ≠ 0) → l.take n = ztr l
  | [], n, _, _, _ => by simp [ztr]
  | x :: r, 0, _, h, _ => by rw [ztr_zero fun i hi => h i (Nat.zero_le _) hi]; rfl
  | x :: r, n + 1, hn, h, hc => by
    have ih := ztr_char (l := r) (n := n) (by simpa using hn) (fun i h1 h2 => by simpa using h (i + 1) (by (exact Nat.lt_succ_of_le (by assumption))) (by simpa using h2))
    rcases Nat.eq_zero_or_pos n with rfl | hp
    · have hx : x ≠ 0 := by simpa using hc
      have hr := ih (.inl rfl)
      simp only [List.take_zero] at hr
      simp [ztr, ← hr, hx]
    · have hl : r.getD (n - 1) 0 ≠ 0 := by
        obtain ⟨m, rfl⟩ : ∃ m, n = m + 1 := ⟨n - 1, by (exact (Nat.sub_add_cancel (by assumption)).symm)⟩
        simpa using hc
      have hr := ih (.inr hl)
      rw [List.take_succ_cons, ztr, ← hr]
      cases r with
      | nil => simp at hn; lia
      | cons y r =>
        obtain ⟨m, rfl⟩ : ∃ m, n = m + 1 := ⟨n - 1, by (exact (Nat.sub_add_cancel (by assumption)).symm)⟩
        simp
section
variable {C : Cx} {k : Nat} {sc : Scope} {σ : Sto} {om : Om} {Φ : AV → Om → Prop} {fp pos : Pos} {e v sl : PySem.Expr}
theorem We.uptoD {x : Str} {p p2 : Pos} {up : PySem.Expr} {ds : List PyData} (hx : σ x = some (.dat (.list ds))) (y : We C k sc σ om up (fun b om1 => ∃ i : Int, b = .dat (.int i) ∧ ds.length ≤ 2 ^ 20 ∧ Φ (.dat (.list (ds.take (if i < 0 then ((ds.length : Int) + i).toNat else i.toNat)))) om1))
    (hd : (x == ("__debug__" : Str)) = false := by decide) (hc : (x == ("__classdict__" : Str)) = false := by decide) : We C k sc σ om (.Subscript (.Name x p) (.Slice none (some up) none p2) pos) Φ :=
  We.upto hx (y.mono fun b om1 ⟨i, hb, hn, h⟩ => ⟨i, ds.map .dat, hb, rfl, by simpa using hn, .inl ⟨_, by rw [List.map_take, List.length_map], h⟩⟩) hd hc
section
variable {elt iter : PySem.Expr} {x z : Str} {px pz spos : Pos} {scope : Scope}
theorem take_map_snoc {items : List AV} {g : AV → AV} {i : Nat} {a : AV} (h : items[i]? = some a) : (items.take i).map g ++ [g a] = (items.take (i + 1)).map g := by
  rw [List.take_add_one, h]; simp
theorem We.compM {g : AV → AV} (y : Wi C k sc σ om iter (fun items om1 => (∀ a ∈ items, ∀ om', We C k (rl sc scope) ((sigC scope σ).set x a) om' elt (fun b om3 => b = g a ∧ om3 = om')) ∧ NewL om1 (items.map g) Φ))
    (bk : blockOk sc scope = true) (hx : scope.names.lookup x = some .local ∨ scope.names.lookup x = some .cell)
    (hs : ∀ env x, foldedSetIterable iter env x = pure x := by intros; rfl) : We C k sc σ om (.ListComp elt [⟨.Name x px, iter, [], 0⟩] scope pos) Φ :=
  We.comp (y.mono fun items om1 ⟨h1, h2⟩ => ⟨fun i acc om2 => acc = (items.take i).map g ∧ om2 = om1, ⟨by simp, rfl⟩, fun i acc om2 ⟨e, _⟩ => by rw [e]; simp; lia,
    fun i a acc om2 D ha hD ⟨e1, e2⟩ => (h1 a (List.mem_of_getElem? ha) (om2.set D acc)).mono fun b om3 ⟨e3, e4⟩ => ⟨om2, e4, hD, by rw [e1, e3, take_map_snoc ha], e2⟩,
    fun acc om2 ⟨e1, e2⟩ => by rw [e1, e2, List.take_length]; exact h2⟩) bk hx hs
theorem We.compF {g : AV → AV} {p : AV → Bool} {t : PySem.Expr} (y : Wi C k sc σ om iter (fun items om1 => (∀ a ∈ items, ∀ om', Wt C k (rl sc scope) ((sigC scope σ).set x a) om' t (fun c om3 => c = p a ∧ om3 = om')) ∧ (∀ a ∈ items, p a = true → ∀ om', We C k (rl sc scope) ((sigC scope σ).set x a) om' elt (fun b om3 => b = g a ∧ om3 = om')) ∧ NewL om1 ((items.filter p).map g) Φ))
    (bk : blockOk sc scope = true) (hx : scope.names.lookup x = some .local ∨ scope.names.lookup x = some .cell)
    (hs : ∀ env x, foldedSetIterable iter env x = pure x := by intros; rfl) : We C k sc σ om (.ListComp elt [⟨.Name x px, iter, [t], 0⟩] scope pos) Φ :=
  We.comp (y.mono fun items om1 ⟨h0, h1, h2⟩ => ⟨fun i acc om2 => acc = ((items.take i).filter p).map g ∧ om2 = om1, ⟨by simp, rfl⟩, fun i acc om2 ⟨e, _⟩ => by
      rw [e, List.length_map]; exact Nat.le_trans (List.length_filter_le _ _) (by simp; lia),
    fun i a acc om2 D ha hD ⟨e1, e2⟩ => (h0 a (List.mem_of_getElem? ha) (om2.set D acc)).mono fun c om3 ⟨ec, e4⟩ => by
      subst e4
      have hstep : (items.take (i + 1)).filter p = (items.take i).filter p ++ (if p a then [a] else []) := by
        rw [List.take_add_one, ha, List.filter_append]
        cases hp : p a <;> simp [hp]
      cases hp : p a with
      | true =>
        rw [hp] at ec hstep; subst ec
        rw [if_pos rfl]
        exact (h1 a (List.mem_of_getElem? ha) hp _).mono fun b om4 ⟨e5, e6⟩ => ⟨om2, e6, hD, by rw [e1, e5, hstep]; simp, e2⟩
      | false =>
        rw [hp] at ec hstep; subst ec
        rw [if_neg (by decide)]
        exact ⟨om2, rfl, hD, by rw [e1, hstep]; simp, e2⟩,
    fun acc om2 ⟨e1, e2⟩ => by rw [e1, e2, List.take_length]; exact h2⟩) bk hx hs
theorem Ws.assignCompM {g : AV → AV} {Φ : Fl → Sto → Om → Prop} (y : Wi C k sc σ om iter (fun items om1 => (∀ a ∈ items, ∀ om', We C k (rl sc scope) ((sigC scope σ).set x a) om' elt (fun b om3 => b = g a ∧ om3 = om')) ∧ NewL om1 (items.map g) (fun a om3 => Φ .nx (σ.set z a) om3)))
    (bk : blockOk sc scope = true) (hx : scope.names.lookup x = some .local ∨ scope.names.lookup x = some .cell) (hz : sc.names.lookup z = some .local)
    (hsw : ∀ env, env.scope = sc → swapsWith (.ListComp elt [⟨.Name x px, iter, [], 0⟩] scope pos) (some (.Name z pz)) spos.line env = pure true)
    (hs : ∀ env x, foldedSetIterable iter env x = pure x := by intros; rfl) : Ws C k sc σ om (.Assign [.Name z pz] (.ListComp elt [⟨.Name x px, iter, [], 0⟩] scope pos) spos) Φ :=
  Ws.assignComp (y.mono fun items om1 ⟨h1, h2⟩ => ⟨fun i acc om2 => acc = (items.take i).map g ∧ om2 = om1, ⟨by simp, rfl⟩, fun i acc om2 ⟨e, _⟩ => by rw [e]; simp; lia,
    fun i a acc om2 D ha hD ⟨e1, e2⟩ => (h1 a (List.mem_of_getElem? ha) (om2.set D acc)).mono fun b om3 ⟨e3, e4⟩ => ⟨om2, e4, hD, by rw [e1, e3, take_map_snoc ha], e2⟩,
    fun acc om2 ⟨e1, e2⟩ => by rw [e1, e2, List.take_length]; exact h2⟩) bk hx hz hsw hs
end
theorem Wi.range1 {fp : Pos} {e : PySem.Expr} {Ψ : List AV → Om → Prop} (x : We C k sc σ om e (fun a om1 => ∃ n : Nat, a = .dat (.int n) ∧ n ≤ 2 ^ 20 ∧ Ψ ((List.range n).map fun i : Nat => .dat (.int i)) om1)) (hf : sc.names.lookup (Str.ofString "range") = some .globalImplicit)
    (hs : ∀ env, starEach [e] env = [(false, eval e env)] := by intros; rfl) : Wi C k sc σ om (.Call (.Name "range" fp) [e] [] pos) Ψ :=
  Wi.range (Wl.cons (x.mono fun a om1 ⟨n, e1, hn, h⟩ => Wl.nil ⟨0, n, 1, n, .inl ⟨by rw [e1], rfl, rfl⟩, by (decide), by (decide), by lia, by lia, by (decide), by rw [rangeSize_one]; split <;> lia, hn, by
    have : rgs 0 1 n = (List.range n).map fun i : Nat => .dat (.int i) := by simp [rgs]
    rw [this]; exact h⟩) hs) hf hs
theorem Wi.range2 {fp : Pos} {e e2 : PySem.Expr} {Ψ : List AV → Om → Prop} (x : We C k sc σ om e (fun a om1 => We C k sc σ om1 e2 (fun b om2 => ∃ m n : Nat, a = .dat (.int m) ∧ b = .dat (.int n) ∧ m ≤ 2 ^ 20 ∧ n ≤ 2 ^ 20 ∧ Ψ ((List.range (n - m)).map fun i : Nat => .dat (.int ((m + i : Nat) : Int))) om2))) (hf : sc.names.lookup (Str.ofString "range") = some .globalImplicit)
    (hs : ∀ env, starEach [e, e2] env = [(false, eval e env), (false, eval e2 env)] := by intros; rfl) (hs2 : ∀ env, starEach [e2] env = [(false, eval e2 env)] := by intros; rfl) : Wi C k sc σ om (.Call (.Name "range" fp) [e, e2] [] pos) Ψ :=
  Wi.range (Wl.cons (x.mono fun a om1 y => Wl.cons (y.mono fun b om2 ⟨m, n, ea, eb, hm, hn, h⟩ => Wl.nil ⟨m, n, 1, n - m, .inr (.inl ⟨by rw [ea, eb], rfl⟩), by lia, by lia, by lia, by lia, by (decide), by rw [rangeSize_one]; split <;> lia, by (exact Nat.le_trans (Nat.sub_le _ _) (by assumption)), by
    have : rgs m 1 (n - m) = (List.range (n - m)).map fun i : Nat => .dat (.int ((m + i : Nat) : Int)) := by simp [rgs]
    rw [this]; exact h⟩) hs2) (fun env => by rw [hs, hs2])) hf (fun env => by rw [hs, hs2]) (fun env pos => by rw [hs2]; rfl)
theorem We.subN (x : We C k sc σ om v (fun a om1 => We C k sc σ om1 sl (fun b om2 => ∃ (l : List PyData) (m : Nat) (d : PyData), (a = .dat (.list l) ∨ a = .dat (.tuple l)) ∧ b = .dat (.int m) ∧ l[m]? = some d ∧ l.length ≤ 2 ^ 20 ∧ Φ (.dat d) om2)))
    (hs : ∀ o v, subscripted sl false o v = operate [o, v] (getItem o v) := by intros; rfl) : We C k sc σ om (.Subscript v sl pos) Φ :=
  We.sub1 (x.mono fun a om1 y => y.mono fun b om2 ⟨l, m, d, ha, hb, hd, hn, h⟩ => by
    have hlt : m < l.length := by
      rcases Nat.lt_or_ge m l.length with q | q
      · exact q
      · rw [List.getElem?_eq_none q] at hd; cases hd
    refine ⟨m, l.map .dat, m, .dat d, hb, ?_, by simp; (exact Nat.le_trans (by assumption) (Nat.le_of_ble_eq_true rfl)), ?_, by simp [hd], h⟩
    · rcases ha with rfl | rfl <;> rfl
    · unfold pyIx; rw [if_pos (by simp; omega)]; simp) hs
theorem We.subL (x : We C k sc σ om v (fun a om1 => We C k sc σ om1 sl (fun b om2 => ∃ (l : List PyData) (d : PyData), a = .dat (.list l) ∧ b = .dat (.int (-1)) ∧ l.getLast? = some d ∧ l.length ≤ 2 ^ 20 ∧ Φ (.dat d) om2)))
    (hs : ∀ o v, subscripted sl false o v = operate [o, v] (getItem o v) := by intros; rfl) : We C k sc σ om (.Subscript v sl pos) Φ :=
  We.sub1 (x.mono fun a om1 y => y.mono fun b om2 ⟨l, d, ha, hb, hd, hn, h⟩ => by
    have hne : l ≠ [] := by rintro rfl; cases hd
    have hpos : 0 < l.length := List.length_pos_iff.mpr hne
    refine ⟨-1, l.map .dat, l.length - 1, .dat d, hb, by rw [ha]; rfl, by simp; (exact Nat.le_trans (by assumption) (Nat.le_of_ble_eq_true rfl)), ?_, ?_, h⟩
    · unfold pyIx
      rw [if_neg (by lia), if_pos (by simp; lia)]
      congr 1; simp; lia
    · rw [List.getLast?_eq_getElem?] at hd
      simp [hd]) hs
end
theorem gcd_all_spec {C : Cx} {k : Nat} {om : Om} {l : List Int} {Φ : AV → Om → Prop} (hn : l.length ≤ 2 ^ 20) (h : Φ (.dat (.int (l.foldl (fun (g n : Int) => (Int.gcd g n : Int)) 0))) om) : Wf C (k + 2) "gcd_all" om [.dat (encZ l)] Φ := by
  refine Wf.intro (d := fnAt 4) (List.mem_of_getElem? (i := 1) (by kernel_rfl)) (names := ["numbers"]) ?_ rfl (by decide) (kd_of (by rfl)) ?_
  · rintro pm code doc (_ | ⟨v1, _ | ⟨v2, r⟩⟩) h <;> first | rfl | simp at h
  · refine Wx.cons (Ws.assign (We.cInt ?_) (.inl rfl))
    refine Wx.cons (Ws.for (Wi.list (We.name (by rfl) ⟨_, rfl, by simpa using hn, fun i σ1 om1 => σ1 "found" = some (.dat (.int ((l.take i).foldl (fun (g n : Int) => (Int.gcd g n : Int)) 0))) ∧ om1 = om, ⟨rfl, rfl⟩, ?_, ?_⟩)) (.inl rfl))
    · rintro i a σ1 om2 ha ⟨hf, rfl⟩
      simp only [List.map_map, List.getElem?_map] at ha
      obtain ⟨m, hm, rfl⟩ := Option.map_eq_some_iff.mp ha
      refine Wx.cons (Ws.assign (We.call (Wl.cons (We.name (by rw [Sto.set_ne (by decide)]; exact hf) (Wl.cons (We.name Sto.set_eq (Wl.nil (gcd_spec ?_)))))) (by rfl) (has_of 0 (by kernel_rfl))) (.inl rfl))
      refine Wx.nil ⟨?_, rfl⟩
      have hlt : i < l.length := by
        rcases Nat.lt_or_ge i l.length with q | q
        · exact q
        · rw [List.getElem?_eq_none q] at hm; cases hm
      have e : l.take (i + 1) = l.take i ++ [m] := by rw [List.take_add_one, hm]; rfl
      rw [Sto.set_eq, e, List.foldl_append]
      rfl
    · rintro σ1 om2 ⟨hf, rfl⟩
      refine Wx.cons (Ws.ret (We.name hf ?_))
      simp only [List.length_map, List.take_length] at hf ⊢
      exact h
theorem encZ_take {l : List Int} {n : Nat} : PyData.list ((l.map .int).take n) = encZ (l.take n) := by simp [encZ, List.map_take]
theorem ztrim_spec {C : Cx} {k : Nat} {om : Om} {l : List Int} {Φ : AV → Om → Prop} (hn : l.length ≤ 2 ^ 20) (h : Φ (.dat (encZ (ztr l))) om) : Wf C (k + 1) "ztrim" om [.dat (encZ l)] Φ := by
  refine Wf.intro (d := fnAt 6) (List.mem_of_getElem? (i := 2) (by kernel_rfl)) (names := ["row"]) ?_ rfl (by decide) (kd_of (by rfl)) ?_
  · rintro pm code doc (_ | ⟨v1, _ | ⟨v2, r⟩⟩) h <;> first | rfl | simp at h
  · refine Wx.cons (Ws.assign (We.bLenD (We.name (by rfl) ⟨_, rfl, by simpa using hn, ?_⟩) (by rfl)) (.inl rfl))
    refine Wx.cons (Ws.while (fun n σ1 om1 => σ1 "row" = some (.dat (encZ l)) ∧ σ1 "size" = some (.dat (.int n)) ∧ n ≤ l.length ∧ (∀ i, n ≤ i → i < l.length → l.getD i 0 = 0) ∧ om1 = om) l.length ⟨rfl, ?_, Nat.le_refl _, fun i h1 h2 => by lia, rfl⟩ ?_)
    · rw [Sto.set_eq]; simp
    rintro n σ1 om1 ⟨hr, hs, hnl, hz, rfl⟩
    have fin : (n = 0 ∨ l.getD (n - 1) 0 ≠ 0) → Φ (.dat (.list ((l.map .int).take (if (n : Int) < 0 then (((l.map PyData.int).length : Int) + n).toNat else (n : Int).toNat)))) om1 := fun hc => by
      rw [if_neg (by lia), Int.toNat_natCast, encZ_take, ztr_char hnl hz hc]; exact h
    refine Wt.and (Wt.cmp (We.name hs (We.cInt ⟨_, rfl, ?_⟩)))
    by_cases hn0 : n = 0
    · subst hn0
      have hd : decide ((0 : Int) < ((0 : Nat) : Int)) = false := by decide
      rw [hd, if_neg (by decide)]
      exact Wx.cons (Ws.ret (We.bListD (We.uptoD hr (We.name hs ⟨_, rfl, by simpa using hn, _, rfl, by simp, fin (.inl rfl)⟩)) (by rfl)))
    · have hd : decide ((0 : Int) < n) = true := decide_eq_true (by lia)
      rw [hd, if_pos rfl]
      obtain ⟨m, rfl⟩ : ∃ m, n = m + 1 := ⟨n - 1, by lia⟩
      have hm : m < l.length := by (assumption)
      have hg : l[m]? = some (l.getD m 0) := by rw [List.getD_eq_getElem?_getD, List.getElem?_eq_getElem hm]; rfl
      refine Wt.cmp (We.subN (We.name hr (We.sub (We.name hs (We.cInt ⟨_, _, rfl, rfl, _, m, .int (l.getD m 0), .inl rfl, ?_, by rw [List.getElem?_map, hg]; rfl, by simpa using hn, We.cInt ⟨_, rfl, ?_⟩⟩)))))
      · congr 2; lia
      by_cases hc : l.getD m 0 = 0
      · have : (l.getD m 0 == 0) = true := by simpa using hc
        rw [this, if_pos rfl]
        refine Wx.cons (Ws.augSub hs (We.cInt ⟨_, rfl, Wx.nil ⟨m, by (exact Nat.le_refl _), ?_, ?_, by (exact Nat.le_of_lt (by assumption)), fun i h1 h2 => ?_, rfl⟩⟩) (.inl rfl))
        · rw [Sto.set_ne (by decide)]; exact hr
        · rw [Sto.set_eq]; congr 3; lia
        · by_cases hi : i = m
          · subst hi; exact hc
          · exact hz i (by lia) h2
      · have : (l.getD m 0 == 0) = false := by simpa using hc
        rw [this, if_neg (by decide)]
        exact Wx.cons (Ws.ret (We.bListD (We.uptoD hr (We.name hs ⟨_, rfl, by simpa using hn, _, rfl, by simp <;> lia, fin (.inr (by simpa using hc))⟩)) (by rfl)))
theorem zdegree_spec {C : Cx} {k : Nat} {om : Om} {l : List PyData} {Φ : AV → Om → Prop} (hn : l.length ≤ 2 ^ 20) (h : Φ (.dat (.int ((l.length : Int) - 1))) om) : Wf C (k + 1) "zdegree" om [.dat (.list l)] Φ := by
  refine Wf.intro (d := fnAt 7) (List.mem_of_getElem? (i := 3) (by kernel_rfl)) (names := ["p"]) ?_ rfl (by decide) (kd_of (by rfl)) ?_
  · rintro pm code doc (_ | ⟨v1, _ | ⟨v2, r⟩⟩) h <;> first | rfl | simp at h
  · exact Wx.cons (Ws.ret (We.sub (We.bLenD (We.name (by rfl) ⟨_, rfl, hn, We.cInt ⟨_, _, rfl, rfl, h⟩⟩) (by rfl))))
noncomputable def lead (l : List Int) : Int := l.getLast?.getD 0
theorem zlead_spec {C : Cx} {k : Nat} {om : Om} {l : List Int} {Φ : AV → Om → Prop} (hn : l.length ≤ 2 ^ 20) (h : Φ (.dat (.int (lead l))) om) : Wf C (k + 1) "zlead" om [.dat (encZ l)] Φ := by
  refine Wf.intro (d := fnAt 8) (List.mem_of_getElem? (i := 4) (by kernel_rfl)) (names := ["p"]) ?_ rfl (by decide) (kd_of (by rfl)) ?_
  · rintro pm code doc (_ | ⟨v1, _ | ⟨v2, r⟩⟩) h <;> first | rfl | simp at h
  · refine Wx.cons (Ws.ret (We.ifexp (Wt.cmp (We.bLenD (We.name (by rfl) ⟨_, rfl, by simpa using hn, We.cInt ⟨_, rfl, ?_⟩⟩) (by rfl)))))
    rcases l with _ | ⟨x, r⟩
    · exact We.cInt h
    · have : decide ((0 : Int) < (List.map PyData.int (x :: r)).length) = true := decide_eq_true (by simp <;> lia)
      rw [this, if_pos rfl]
      refine We.subL (We.name (by rfl) (We.neg (We.cInt ⟨_, rfl, _, _, rfl, rfl, ?_, by simpa using hn, h⟩)))
      have e : (x :: r).getLast? = some (lead (x :: r)) := by simp [lead, List.getLast?_cons]
      rw [List.getLast?_map, e]; rfl
noncomputable def padd (a b : List Int) : List Int := (List.range (max a.length b.length)).map fun i => a.getD i 0 + b.getD i 0
noncomputable def zadd (a b : List Int) : List Int := ztr (padd a b)
theorem We.itemOr {C : Cx} {k : Nat} {sc : Scope} {σ : Sto} {om : Om} {Φ : AV → Om → Prop} {at_ nm : Str} {p1 p2 p3 p4 p5 p6 p7 p8 p9 p0 : Pos} {kd : Nat} {l : List Int} {i : Nat} (hx : σ at_ = some (.dat (.int i))) (hn : σ nm = some (.dat (encZ l))) (hl : l.length ≤ 2 ^ 20) (hf : sc.names.lookup (Str.ofString "len") = some .globalImplicit)
    (h : Φ (.dat (.int (l.getD i 0))) om) (d1 : (at_ == ("__debug__" : Str)) = false := by decide) (d2 : (at_ == ("__classdict__" : Str)) = false := by decide) (d3 : (nm == ("__debug__" : Str)) = false := by decide) (d4 : (nm == ("__classdict__" : Str)) = false := by decide) :
    We C k sc σ om (.IfExp (.Compare (.Name at_ p1) [.Lt] [.Call (.Name (Str.ofString "len") p2) [.Name nm p3] [] p4] p5) (.Subscript (.Name nm p6) (.Name at_ p7) p8) (.Constant (.int 0) kd p9) p0) Φ := by
  refine We.ifexp (Wt.cmp (We.name hx (We.bLenD (We.name hn ⟨_, rfl, by simpa using hl, _, rfl, ?_⟩ d3 d4) hf) d1 d2))
  by_cases hlt : i < l.length
  · have : decide ((i : Int) < ((l.map PyData.int).length : Nat)) = true := decide_eq_true (by simpa using hlt)
    rw [this, if_pos rfl]
    have hg : l[i]? = some (l.getD i 0) := by rw [List.getD_eq_getElem?_getD, List.getElem?_eq_getElem hlt]; rfl
    exact We.subN (We.name hn (We.name hx ⟨_, _, _, .inl rfl, rfl, by rw [List.getElem?_map, hg]; rfl, by simpa using hl, h⟩ d1 d2) d3 d4)
  · have : decide ((i : Int) < ((l.map PyData.int).length : Nat)) = false := decide_eq_false (by simpa using hlt)
    rw [this, if_neg (by decide)]
    refine We.cInt ?_
    rwa [List.getD_eq_getElem?_getD, List.getElem?_eq_none (by (exact Nat.le_of_not_lt (by assumption)))] at h
theorem ztr_len : ∀ l : List Int, (ztr l).length ≤ l.length
  | [] => Nat.le_refl _
  | x :: r => by
    have := ztr_len r
    unfold ztr
    split
    · split <;> simp
    · rename_i h; simp; omega
theorem zadd_spec {C : Cx} {k : Nat} {om : Om} {a b : List Int} {Φ : AV → Om → Prop} (ha : a.length ≤ 2 ^ 20) (hb : b.length ≤ 2 ^ 20) (h : Φ (.dat (encZ (zadd a b))) om) : Wf C (k + 2) "zadd" om [.dat (encZ a), .dat (encZ b)] Φ := by
  refine Wf.intro (d := fnAt 9) (List.mem_of_getElem? (i := 5) (by kernel_rfl)) (names := ["a", "b"]) ?_ rfl (by decide) (kd_of (by rfl)) ?_
  · rintro pm code doc (_ | ⟨v1, _ | ⟨v2, _ | ⟨v3, r⟩⟩⟩) h <;> first | rfl | simp at h
  · refine Wx.cons (Ws.assign (We.bMax (We.bLenD (We.name (by rfl) ⟨_, rfl, by simpa using ha, We.bLenD (We.name (by rfl) ⟨_, rfl, by simpa using hb, _, _, rfl, rfl, ?_⟩) (by rfl)⟩) (by rfl)) (by rfl)) (.inl rfl))
    have em : Max.max ((a.map PyData.int).length : Int) ((b.map PyData.int).length : Int) = ((max a.length b.length : Nat) : Int) := by simp; (clear ha hb; omega)
    rw [em]
    refine Wx.cons (Ws.ret (We.call (Wl.cons (We.compM (g := fun i => match i with | .dat (.int i) => .dat (.int (a.getD i.toNat 0 + b.getD i.toNat 0)) | x => x) (Wi.range1 (We.name (by rfl) ⟨_, rfl, by lia, ?_, ?_⟩) (by rfl)) (by rfl) (.inl (by rfl)))) (by rfl) (has_of 2 (by kernel_rfl))))
    · intro x hx om'
      obtain ⟨i, hi, rfl⟩ := List.mem_map.mp hx
      refine We.add (We.itemOr (at_ := "at") (nm := "a") Sto.set_eq (by rfl) ha (by rfl) (We.itemOr (at_ := "at") (nm := "b") Sto.set_eq (by rfl) hb (by rfl) ⟨_, _, rfl, rfl, ?_, rfl⟩))
      simp
    · refine .inl ⟨(padd a b).map .int, ?_, Wl.nil (ztrim_spec (l := padd a b) (by simp [padd]; lia) h)⟩
      simp [padd]
noncomputable def zneg (a : List Int) : List Int := a.map fun x => -x
noncomputable def zsub (a b : List Int) : List Int := zadd a (zneg b)
noncomputable def zscale (p : List Int) (k : Int) : List Int := if k ≠ 0 then p.map (· * k) else []
noncomputable def zraise (p : List Int) (n : Nat) : List Int := if p = [] then [] else List.replicate n 0 ++ p
noncomputable def zcont (p : List Int) : Int := p.foldl (fun (g n : Int) => (Int.gcd g n : Int)) 0
noncomputable def onInt (f : Int → Int) : AV → AV
  | .dat (.int i) => .dat (.int (f i))
  | x => x
theorem onInt_map {f : Int → Int} {l : List Int} : ((l.map PyData.int).map AV.dat).map (onInt f) = ((l.map f).map PyData.int).map AV.dat := by
  simp [onInt]
theorem mem_ints {l : List Int} {a : AV} (h : a ∈ (l.map PyData.int).map AV.dat) : ∃ i ∈ l, a = .dat (.int i) := by
  simp only [List.map_map, List.mem_map] at h
  obtain ⟨i, hi, rfl⟩ := h
  exact ⟨i, hi, rfl⟩
section
variable {C : Cx} {k : Nat} {om : Om} {Φ : AV → Om → Prop}
theorem zneg_spec {l : List Int} (hn : l.length ≤ 2 ^ 20) (h : Φ (.dat (encZ (zneg l))) om) : Wf C (k + 1) "zneg" om [.dat (encZ l)] Φ := by
  refine Wf.intro (d := fnAt 10) (List.mem_of_getElem? (i := 6) (by kernel_rfl)) (names := ["p"]) (by rintro pm code doc (_ | ⟨v1, _ | ⟨v2, r⟩⟩) h <;> first | rfl | simp at h; done) rfl (by decide) (kd_of (by rfl)) ?_
  refine Wx.cons (Ws.ret (We.compM (g := onInt fun x => -x) (Wi.list (We.name (by rfl) ⟨_, rfl, by simpa using hn, ?_, ?_⟩)) (by rfl) (.inl (by rfl))))
  · intro a ha om'
    obtain ⟨i, _, rfl⟩ := mem_ints ha
    exact We.neg (We.name Sto.set_eq ⟨i, rfl, rfl, rfl⟩)
  · rw [onInt_map]; exact NewL.dat h
theorem zsub_spec {a b : List Int} (ha : a.length ≤ 2 ^ 20) (hb : b.length ≤ 2 ^ 20) (h : Φ (.dat (encZ (zsub a b))) om) : Wf C (k + 3) "zsub" om [.dat (encZ a), .dat (encZ b)] Φ := by
  refine Wf.intro (d := fnAt 11) (List.mem_of_getElem? (i := 7) (by kernel_rfl)) (names := ["a", "b"]) (by rintro pm code doc (_ | ⟨v1, _ | ⟨v2, _ | ⟨v3, r⟩⟩⟩) h <;> first | rfl | simp at h; done) rfl (by decide) (kd_of (by rfl)) ?_
  exact Wx.cons (Ws.ret (We.call (Wl.cons (We.name (by rfl) (Wl.cons (We.call (Wl.cons (We.name (by rfl) (Wl.nil (zneg_spec hb (Wl.nil (zadd_spec ha (by simpa [zneg] using hb) h)))))) (by rfl) (has_of 6 (by kernel_rfl)))))) (by rfl) (has_of 5 (by kernel_rfl))))
theorem zscale_spec {p : List Int} {x : Int} (hp : p.length ≤ 2 ^ 20) (hm : ∀ i ∈ p, IntMulOk i x) (h : Φ (.dat (encZ (zscale p x))) om) : Wf C (k + 1) "zscale" om [.dat (encZ p), .dat (.int x)] Φ := by
  refine Wf.intro (d := fnAt 12) (List.mem_of_getElem? (i := 8) (by kernel_rfl)) (names := ["p", "k"]) (by rintro pm code doc (_ | ⟨v1, _ | ⟨v2, _ | ⟨v3, r⟩⟩⟩) h <;> first | rfl | simp at h; done) rfl (by decide) (kd_of (by rfl)) ?_
  refine Wx.cons (Ws.ret (We.ifexp (Wt.cmp (We.name (by rfl) (We.cInt ⟨_, rfl, ?_⟩)))))
  by_cases hx : x = 0
  · subst hx
    exact We.lst (Wl.nil ⟨by decide, .inl ⟨[], rfl, h⟩⟩)
  · have : (x != 0) = true := by simpa using hx
    rw [this, if_pos rfl]
    refine We.compM (g := onInt fun i => i * x) (Wi.list (We.name (by rfl) ⟨_, rfl, by simpa using hp, ?_, ?_⟩)) (by rfl) (.inl (by rfl))
    · intro a ha om'
      obtain ⟨i, hi, rfl⟩ := mem_ints ha
      exact We.mul (We.name Sto.set_eq (We.name (by rfl) ⟨i, x, rfl, rfl, hm i hi, rfl, rfl⟩))
    · rw [onInt_map]; refine NewL.dat ?_
      unfold zscale at h; rw [if_pos hx] at h; exact h
theorem zraise_spec {p : List Int} {n : Nat} (hp : p.length ≤ 2 ^ 19) (hn : n ≤ 2 ^ 19) (h : Φ (.dat (encZ (zraise p n))) om) : Wf C (k + 1) "zraise" om [.dat (encZ p), .dat (.int n)] Φ := by
  refine Wf.intro (d := fnAt 13) (List.mem_of_getElem? (i := 9) (by kernel_rfl)) (names := ["p", "many"]) (by rintro pm code doc (_ | ⟨v1, _ | ⟨v2, _ | ⟨v3, r⟩⟩⟩) h <;> first | rfl | simp at h; done) rfl (by decide) (kd_of (by rfl)) ?_
  refine Wx.cons (Ws.ret (We.ifexp (Wt.cmp (We.bLenD (We.name (by rfl) ⟨_, rfl, by simp; lia, We.cInt ⟨_, rfl, ?_⟩⟩) (by rfl)))))
  rcases p with _ | ⟨x, r⟩
  · exact We.lst (Wl.nil ⟨by decide, .inl ⟨[], rfl, h⟩⟩)
  · have : decide ((0 : Int) < (List.map PyData.int (x :: r)).length) = true := decide_eq_true (by simp <;> lia)
    rw [this, if_pos rfl]
    refine We.addL (We.mulL (We.lst (Wl.cons (We.cInt (Wl.nil ⟨by decide, NewL.dat (ds := [.int 0]) (We.name (by rfl) ⟨[.dat (.int 0)], n, rfl, rfl, by lia, by lia, by simp; lia, .inl ⟨List.replicate n (.int 0), by simp, We.bListD (We.name (by rfl) ⟨_, rfl, by simp at hp ⊢; lia, ?_⟩) (by rfl)⟩⟩)⟩)))))
    refine ⟨_, _, rfl, rfl, by simp at hp ⊢; lia, .inl ⟨(zraise (x :: r) n).map .int, by simp [zraise], h⟩⟩
theorem zcontent_spec {l : List Int} (hn : l.length ≤ 2 ^ 20) (h : Φ (.dat (.int (zcont l))) om) : Wf C (k + 3) "zcontent" om [.dat (encZ l)] Φ := by
  refine Wf.intro (d := fnAt 14) (List.mem_of_getElem? (i := 10) (by kernel_rfl)) (names := ["p"]) (by rintro pm code doc (_ | ⟨v1, _ | ⟨v2, r⟩⟩) h <;> first | rfl | simp at h; done) rfl (by decide) (kd_of (by rfl)) ?_
  exact Wx.cons (Ws.ret (We.call (Wl.cons (We.name (by rfl) (Wl.nil (gcd_all_spec hn h)))) (by rfl) (has_of 1 (by kernel_rfl))))
theorem check_spec {l : List PyData} (hn : l.length ≤ 2 ^ 20) (hne : l ≠ []) (h : Φ (.dat .none) om) : Wf C (k + 1) "check_bottom" om [.dat (.list l)] Φ := by
  refine Wf.intro (d := fnAt 16) (List.mem_of_getElem? (i := 11) (by kernel_rfl)) (names := ["p"]) (by rintro pm code doc (_ | ⟨v1, _ | ⟨v2, r⟩⟩) h <;> first | rfl | simp at h; done) rfl (by decide) (kd_of (by rfl)) ?_
  refine Wx.cons (Ws.ite (Wt.cmp (We.bLenD (We.name (by rfl) ⟨_, rfl, hn, We.cInt ⟨_, rfl, ?_⟩⟩) (by rfl))))
  have : ((l.length : Int) == 0) = false := by
    have := List.length_pos_iff.mpr hne
    simp; lia
  rw [this, if_neg (by decide)]
  exact Wx.nil (Wx.nil h)
end
noncomputable def Sz (n : Nat) (x : Int) : Prop := x.natAbs < 2 ^ n
noncomputable def SzL (n : Nat) (l : List Int) : Prop := ∀ x ∈ l, Sz n x
theorem Sz.mono {m n x} (h : Sz m x) (hm : m ≤ n) : Sz n x := Nat.lt_of_lt_of_le h (Nat.pow_le_pow_right (by decide) hm)
theorem Sz.mul {m n x y} (h : Sz m x) (h' : Sz n y) : Sz (m + n) (x * y) := by
  unfold Sz at *
  rw [Int.natAbs_mul, Nat.pow_add]
  exact Nat.mul_lt_mul'' h h'
theorem Sz.neg {m x} (h : Sz m x) : Sz m (-x) := by unfold Sz at *; rwa [Int.natAbs_neg]
theorem Sz.add {m x y} (h : Sz m x) (h' : Sz m y) : Sz (m + 1) (x + y) := by
  unfold Sz at *
  have := Int.natAbs_add_le x y
  rw [Nat.pow_succ]; lia
theorem Sz.zero {m} : Sz m 0 := by unfold Sz; exact Nat.pow_pos (by decide)
theorem Sz.bits {n x} (h : Sz n x) : Builtin.Int.intBits x ≤ n := by
  unfold Builtin.Int.intBits
  split
  · exact Nat.zero_le _
  · rename_i hx
    have hx' : x.natAbs ≠ 0 := by simpa using hx
    exact (Nat.log2_lt hx').mpr h
theorem mulOk_r {x y : Int} (h : Sz 64 y) : IntMulOk x y := by
  unfold IntMulOk
  have := h.bits
  simp [shortFactorBits]; lia
theorem mulOk_l {x y : Int} (h : Sz 64 x) : IntMulOk x y := IntMulOk.of_left h.bits
theorem mulOk_sz {m n : Nat} {x y : Int} (h : Sz m x) (h' : Sz n y) (hs : m + n ≤ 100000000) : IntMulOk x y := by
  unfold IntMulOk
  have := h.bits
  have := h'.bits
  have e : Builtin.Int.intTooBig (Builtin.Int.intBits x + Builtin.Int.intBits y) = false := by
    unfold Builtin.Int.intTooBig bitsLine
    simp; lia
  rw [e]; simp
theorem Sz.pow {m x} (h : Sz m x) : ∀ n, Sz (m * n + 1) (x ^ n)
  | 0 => by unfold Sz; simp
  | n + 1 => by
    rw [Int.pow_succ]
    exact ((Sz.pow h n).mul h).mono (by rw [Nat.mul_succ]; lia)
noncomputable def cf (l : List Int) (i : Nat) : Int := l.getD i 0
theorem cf_nil {i} : cf [] i = 0 := by simp [cf]
theorem cf_ge {l : List Int} {i} (h : l.length ≤ i) : cf l i = 0 := by simp [cf, List.getD_eq_getElem?_getD, List.getElem?_eq_none h]
theorem cf_c0 {x : Int} {r : List Int} : cf (x :: r) 0 = x := rfl
theorem cf_cs {x : Int} {r : List Int} {i : Nat} : cf (x :: r) (i + 1) = cf r i := rfl
theorem cf_ztr : ∀ (l : List Int) (i : Nat), cf (ztr l) i = cf l i
  | [], i => rfl
  | x :: r, i => by
    have ih := cf_ztr r
    unfold ztr
    split
    · rename_i h
      rw [h] at ih
      cases i with
      | zero =>
        split
        · rename_i h0; rw [h0]; rfl
        · rfl
      | succ i =>
        have h1 := ih i
        rw [cf_nil] at h1
        rw [cf_cs, ← h1]
        split
        · exact cf_nil
        · rw [cf_cs, cf_nil]
    · rename_i t h
      cases i with
      | zero => rfl
      | succ i => rw [cf_cs, cf_cs]; exact ih i
theorem cf_padd {a b : List Int} {i} : cf (padd a b) i = cf a i + cf b i := by
  unfold padd
  by_cases h : i < max a.length b.length
  · have e : (List.range (max a.length b.length))[i]? = some i := by rw [List.getElem?_range h]
    unfold cf
    rw [List.getD_eq_getElem?_getD, List.getElem?_map, e]; rfl
  · rw [cf_ge (by simp; (exact Nat.le_of_not_lt (by assumption))), cf_ge (by lia), cf_ge (by lia)]; rfl
theorem cf_zadd {a b : List Int} {i} : cf (zadd a b) i = cf a i + cf b i := by rw [zadd, cf_ztr, cf_padd]
theorem cf_map {f : Int → Int} (h0 : f 0 = 0) {a : List Int} {i} : cf (a.map f) i = f (cf a i) := by
  simp only [cf, List.getD_eq_getElem?_getD, List.getElem?_map]
  cases a[i]? <;> simp [h0]
theorem cf_zneg {a : List Int} {i} : cf (zneg a) i = -cf a i := cf_map (f := fun x => -x) rfl
theorem cf_zsub {a b : List Int} {i} : cf (zsub a b) i = cf a i - cf b i := by rw [zsub, cf_zadd, cf_zneg]; (exact Int.sub_eq_add_neg)
theorem cf_zscale {a : List Int} {k i} : cf (zscale a k) i = cf a i * k := by
  unfold zscale
  split
  · exact cf_map (f := fun x => x * k) (by simp)
  · rename_i h
    have : k = 0 := by simpa using h
    rw [this, cf_nil]; simp
theorem cf_zraise {a : List Int} {n i} : cf (zraise a n) i = if i < n then 0 else cf a (i - n) := by
  unfold zraise
  split
  · rename_i h; subst h; simp [cf_nil]
  · by_cases h : i < n
    · rw [if_pos h]; simp [cf, List.getD_eq_getElem?_getD, List.getElem?_append, h]
    · rw [if_neg h]; simp [cf, List.getD_eq_getElem?_getD, List.getElem?_append, h]
theorem lead_cf {l : List Int} : lead l = cf l (l.length - 1) := by simp [lead, cf, List.getLast?_eq_getElem?, List.getD_eq_getElem?_getD]
theorem zneg_len {a} : (zneg a).length = a.length := by simp [zneg]
theorem zscale_len {a k} : (zscale a k).length = if k = 0 then 0 else a.length := by unfold zscale; split <;> simp_all
theorem zscale_le {a k} : (zscale a k).length ≤ a.length := by rw [zscale_len]; split <;> lia
theorem zraise_len {a n} : (zraise a n).length = if a = [] then 0 else n + a.length := by unfold zraise; split <;> simp_all
theorem zraise_le {a n} : (zraise a n).length ≤ n + a.length := by rw [zraise_len]; split <;> lia
theorem zadd_le {a b} : (zadd a b).length ≤ max a.length b.length := by
  have := ztr_len (padd a b)
  simp only [padd, List.length_map, List.length_range] at this
  exact this
theorem zsub_le {a b} : (zsub a b).length ≤ max a.length b.length := by
  have := zadd_le (a := a) (b := zneg b)
  rwa [zneg_len] at this
theorem ztr_lt : ∀ {l : List Int}, l ≠ [] → cf l (l.length - 1) = 0 → (ztr l).length < l.length
  | [], h, _ => absurd rfl h
  | [x], _, h => by
    have : x = 0 := by simpa [cf] using h
    simp [ztr, this]
  | x :: y :: r, _, h => by
    have := ztr_lt (l := y :: r) (by simp) (by simpa [cf] using h)
    rw [ztr]
    split
    · split <;> simp
    · simpa using this
theorem ztr_sub {l : List Int} : ∀ x ∈ ztr l, x ∈ l := by
  induction l with
  | nil => intro x h; exact h
  | cons y r ih =>
    intro x h
    unfold ztr at h
    split at h
    · split at h
      · cases h
      · simp at h; simp [h]
    · rcases List.mem_cons.mp h with rfl | h
      · exact .head _
      · exact .tail _ (ih x h)
theorem SzL.mono {m n l} (h : SzL m l) (hm : m ≤ n) : SzL n l := fun x hx => (h x hx).mono hm
theorem SzL.cf {m l} (h : SzL m l) (i : Nat) : Sz m (cf l i) := by
  unfold Mine.cf
  rw [List.getD_eq_getElem?_getD]
  cases q : l[i]? with
  | none => exact Sz.zero
  | some x => exact h x (List.mem_of_getElem? q)
theorem SzL.of_cf {m} {l : List Int} (h : ∀ i, Sz m (Mine.cf l i)) : SzL m l := by
  intro x hx
  obtain ⟨i, hi, rfl⟩ := List.getElem_of_mem hx
  have := h i
  simpa [Mine.cf, List.getD_eq_getElem?_getD, hi] using this
theorem SzL.lead {m l} (h : SzL m l) : Sz m (lead l) := by rw [lead_cf]; exact h.cf _
theorem SzL.scale {m n l k} (h : SzL m l) (hk : Sz n k) : SzL (m + n) (zscale l k) := .of_cf fun i => by rw [cf_zscale]; exact (h.cf i).mul hk
theorem SzL.sub {m a b} (h : SzL m a) (h' : SzL m b) : SzL (m + 1) (zsub a b) := .of_cf fun i => by
  rw [cf_zsub, Int.sub_eq_add_neg]; exact (h.cf i).add (h'.cf i).neg
theorem SzL.raise {m a n} (h : SzL m a) : SzL m (zraise a n) := .of_cf fun i => by
  rw [cf_zraise]; split
  · exact Sz.zero
  · exact h.cf _
noncomputable def psStep (b rs : List Int) : List Int := zsub (zscale rs (lead b)) (zraise (zscale b (lead rs)) (rs.length - b.length))
theorem psStep_lt {b rs : List Int} (hb : b ≠ []) (hl : lead b ≠ 0) (h : b.length ≤ rs.length) : (psStep b rs).length < rs.length := by
  have hbp : 0 < b.length := List.length_pos_iff.mpr hb
  have e1 : (zscale rs (lead b)).length = rs.length := by rw [zscale_len, if_neg hl]
  have e2 : (zraise (zscale b (lead rs)) (rs.length - b.length)).length ≤ rs.length := by
    have := zraise_le (a := zscale b (lead rs)) (n := rs.length - b.length)
    have := zscale_le (a := b) (k := lead rs)
    lia
  have e3 : (padd (zscale rs (lead b)) (zneg (zraise (zscale b (lead rs)) (rs.length - b.length)))).length = rs.length := by
    simp only [padd, List.length_map, List.length_range, zneg_len, e1]; lia
  have e4 : cf (padd (zscale rs (lead b)) (zneg (zraise (zscale b (lead rs)) (rs.length - b.length)))) (rs.length - 1) = 0 := by
    rw [cf_padd, cf_zneg, cf_zscale, cf_zraise, if_neg (by (clear hl e1 e2 e3; omega)), cf_zscale, lead_cf (l := rs), lead_cf (l := b)]
    have : rs.length - 1 - (rs.length - b.length) = b.length - 1 := by (clear hl e1 e2 e3; lia)
    rw [this, Int.mul_comm (cf rs _)]; lia
  unfold psStep zsub zadd
  generalize padd (zscale rs (lead b)) (zneg (zraise (zscale b (lead rs)) (rs.length - b.length))) = X at e3 e4 ⊢
  rw [← e3] at e4 ⊢
  exact ztr_lt (fun q => by rw [q] at e3; simp at e3; lia) e4
noncomputable def psR (b : List Int) : Nat → List Int → List Int × Nat
  | 0, rs => (rs, 0)
  | n + 1, rs => if b.length ≤ rs.length then psR b n (psStep b rs) else (rs, n + 1)
noncomputable def prem (a b : List Int) : List Int := zscale (psR b (a.length + 1 - b.length) a).1 (lead b ^ (psR b (a.length + 1 - b.length) a).2)
section
variable {C : Cx} {k : Nat} {om : Om} {Φ : AV → Om → Prop}
theorem encZ_last {l : List Int} (h : l ≠ []) : (l.map PyData.int).getLast? = some (.int (lead l)) := by
  rw [List.getLast?_map]
  rcases l with _ | ⟨x, r⟩
  · exact absurd rfl h
  · have e : (x :: r).getLast? = some (lead (x :: r)) := by simp [lead, List.getLast?_cons]
    rw [e]; rfl
structure pqJS (a b : List Int) (M : Nat) (om : Om) (m : Nat) (σ1 : Sto) (om1 : Om) (fd rs : List Int) : Prop where
  c0 : σ1 "found" = some (.dat (encZ fd))
  c1 : σ1 "rest" = some (.dat (encZ rs))
  c2 : σ1 "left" = some (.dat (.int m))
  c3 : σ1 "b" = some (.dat (encZ b))
  c4 : σ1 "first" = some (.dat (.int (lead b)))
  c5 : σ1 "many" = some (.dat (.int M))
  c6 : rs.length < b.length + m
  c7 : rs.length ≤ 10
  c8 : fd.length ≤ 20
  c9 : psR b m rs = psR b M a
  c10 : SzL (64 + 65 * (M - m)) rs
  c11 : SzL (64 + 65 * (M - m)) fd
  c12 : m ≤ M
  c13 : om1 = om
@[reducible] noncomputable def pqJ (a b : List Int) (M : Nat) (om : Om) (m : Nat) (σ1 : Sto) (om1 : Om) : Prop := ∃ fd rs, pqJS a b M om m σ1 om1 fd rs
set_option maxHeartbeats 1000000 in
theorem pseudo_spec {a b : List Int} (ha : a.length ≤ 10) (hb : b.length ≤ 10) (hne : b ≠ []) (hl : lead b ≠ 0) (sa : SzL 64 a) (sb : SzL 64 b)
    (h : ∀ fd, Φ (.dat (.tuple [encZ fd, encZ (prem a b), .int ((a.length + 1 - b.length : Nat) : Int)])) om) : Wf C (k + 4) "pseudo" om [.dat (encZ a), .dat (encZ b)] Φ := by
  refine Wf.intro (d := fnAt 17) (List.mem_of_getElem? (i := 12) (by kernel_rfl)) (names := ["a", "b"]) (by rintro pm code doc (_ | ⟨v1, _ | ⟨v2, _ | ⟨v3, r⟩⟩⟩) h <;> first | rfl | simp at h; done) rfl (by decide) (kd_of (by rfl)) ?_
  have hbp : 0 < b.length := List.length_pos_iff.mpr hne
  have sF : Sz 64 (lead b) := sb.lead
  generalize hM : a.length + 1 - b.length = M at h
  refine Wx.cons (Ws.expr (We.call (Wl.cons (We.name (by rfl) (Wl.nil (check_spec (by simp; (exact Nat.le_trans (by assumption) (Nat.le_of_ble_eq_true rfl))) (by simpa using hne) ⟨rfl, ?_⟩)))) (by rfl) (has_of 11 (by kernel_rfl))))
  refine Wx.cons (Ws.assign (We.bMax (We.cInt (We.add (We.sub (We.bLenD (We.name (by rfl) ⟨_, rfl, by simp; (exact Nat.le_trans (by assumption) (Nat.le_of_ble_eq_true rfl)), We.bLenD (We.name (by rfl) ⟨_, rfl, by simp; (exact Nat.le_trans (by assumption) (Nat.le_of_ble_eq_true rfl)), _, _, rfl, rfl, We.cInt ⟨_, _, rfl, rfl, _, _, rfl, rfl, ?_⟩⟩) (by rfl)⟩) (by rfl))))) (by rfl)) (.inl rfl))
  have em : Max.max (0 : Int) (((a.map PyData.int).length : Int) - ((b.map PyData.int).length : Int) + 1) = (M : Int) := by simp; lia
  rw [em]
  refine Wx.cons (Ws.assignTT (Wl.cons (We.bListD (We.name (by rfl) ⟨_, rfl, by simp; (exact Nat.le_trans (by assumption) (Nat.le_of_ble_eq_true rfl)), ?_⟩) (by rfl))) (by rfl) (by intro env he; cases env; cases he; rfl))
  refine Wl.cons (We.lst (Wl.nil ⟨by decide, .inl ⟨[], rfl, ?_⟩⟩))
  refine Wl.cons (We.name (by rfl) (Wl.cons (We.call (Wl.cons (We.name (by rfl) (Wl.nil (zlead_spec (by (exact Nat.le_trans (by assumption) (Nat.le_of_ble_eq_true rfl))) (Wl.nil ⟨rfl, by decide, ?_⟩))))) (by rfl) (has_of 4 (by kernel_rfl)))))
  refine Wa.name (Wa.name (Wa.name (Wa.name ?_ (.inl rfl)) (.inl rfl)) (.inl rfl)) (.inl rfl)
  refine Wx.cons (Ws.while ((pqJ a b M om)) M
    ⟨[], a, rfl, rfl, rfl, rfl, rfl, rfl, by (clear ha hb hl hbp em; omega), ha, by simp, rfl, sa.mono (by (exact Nat.le_add_right _ _)), fun _ q => (nomatch q), Nat.le_refl _, rfl⟩ ?_)
  rintro m σ1 om1 ⟨fd, rs, h1, h2, h3, h4, h5, h6, hlt, hr10, hf20, hps, sr, sf, hmM, rfl⟩
  refine Wt.cmp (We.bLenD (We.name h2 ⟨_, rfl, by simp; (exact Nat.le_trans (by assumption) (Nat.le_of_ble_eq_true rfl)), We.bLenD (We.name h4 ⟨_, rfl, by simp; (exact Nat.le_trans (by assumption) (Nat.le_of_ble_eq_true rfl)), _, rfl, ?_⟩) (by rfl)⟩) (by rfl))
  by_cases hge : b.length ≤ rs.length
  · have : decide (((b.map PyData.int).length : Int) ≤ ((rs.map PyData.int).length : Int)) = true := decide_eq_true (by simpa using hge)
    rw [this, if_pos rfl]
    have hrne : rs ≠ [] := by rintro rfl; simp at hge; exact hne hge
    obtain ⟨m', rfl⟩ : ∃ m', m = m' + 1 := ⟨m - 1, by lia⟩
    have hpw : ((rs.map PyData.int).length : Int) - ((b.map PyData.int).length : Int) = ((rs.length - b.length : Nat) : Int) := by simp; lia
    have hstep := psStep_lt hne hl hge
    refine Wx.cons (Ws.swap (names := ["number", "power"]) (Wl.cons (We.subL (We.name h2 (We.neg (We.cInt ⟨_, rfl, _, _, rfl, rfl, encZ_last hrne, by simp; (exact Nat.le_trans (by assumption) (Nat.le_of_ble_eq_true rfl)), ?_⟩))))) (kd_of (by rfl)) (by intro env he; cases env; cases he; rfl))
    refine Wl.cons (We.sub (We.bLenD (We.name h2 ⟨_, rfl, by simp; (exact Nat.le_trans (by assumption) (Nat.le_of_ble_eq_true rfl)), We.bLenD (We.name h4 ⟨_, rfl, by simp; lia, _, _, rfl, rfl, Wl.nil ⟨rfl, by decide, ?_⟩⟩) (by rfl)⟩) (by rfl)))
    rw [hpw]
    refine Wx.cons (Ws.assign (We.call (Wl.cons (We.call (Wl.cons (We.name h1 (Wl.cons (We.name h5 (Wl.nil (zscale_spec (by (exact Nat.le_trans (by assumption) (Nat.le_of_ble_eq_true rfl))) (fun i _ => mulOk_r sF) ?_)))))) (by rfl) (has_of 8 (by kernel_rfl)))) (by rfl) (has_of 7 (by kernel_rfl))) (.inl rfl))
    refine Wl.cons (We.call (Wl.cons (We.lst (Wl.cons (We.neg (We.name (by rfl) ⟨_, rfl, Wl.nil ⟨by simp, .inl ⟨[.int (-(lead rs))], rfl, ?_⟩⟩⟩))))) (by rfl) (has_of 9 (by kernel_rfl)))
    refine Wl.cons (We.name (by rfl) (Wl.nil (zraise_spec (p := [-(lead rs)]) (by simp) (by (clear ha hl hM em hf20 hlt hmM hpw hstep; lia)) (Wl.nil (zsub_spec (by have := zscale_le (a := fd) (k := lead b); lia) (by have := zraise_le (a := [-(lead rs)]) (n := rs.length - b.length); simp at this; (clear ha hl hM em hf20 hlt hmM hpw hstep; lia)) ?_)))))
    refine Wx.cons (Ws.assign (We.call (Wl.cons (We.call (Wl.cons (We.name h2 (Wl.cons (We.name h5 (Wl.nil (zscale_spec (by (exact Nat.le_trans (by assumption) (Nat.le_of_ble_eq_true rfl))) (fun i _ => mulOk_r sF) ?_)))))) (by rfl) (has_of 8 (by kernel_rfl)))) (by rfl) (has_of 7 (by kernel_rfl))) (.inl rfl))
    refine Wl.cons (We.call (Wl.cons (We.call (Wl.cons (We.name h4 (Wl.cons (We.name (by rfl) (Wl.nil (zscale_spec (by lia) (fun i hi => mulOk_l (sb i hi)) ?_)))))) (by rfl) (has_of 8 (by kernel_rfl)))) (by rfl) (has_of 9 (by kernel_rfl)))
    refine Wl.cons (We.name (by rfl) (Wl.nil (zraise_spec (by have := zscale_le (a := b) (k := lead rs); lia) (by (clear ha hl hM em hf20 hlt hmM hpw hstep; lia)) (Wl.nil (zsub_spec (by have := zscale_le (a := rs) (k := lead b); lia) (by have := zraise_le (a := zscale b (lead rs)) (n := rs.length - b.length); have := zscale_le (a := b) (k := lead rs); (clear ha hb hl hbp hM em hf20 hlt hmM hpw hstep; lia)) ?_)))))
    have hM11 : M ≤ 11 := by (clear hb hl em hr10 hf20 hge hlt hmM hpw hstep; omega)
    refine Wx.cons (Ws.augSub (i := ((m' + 1 : Nat) : Int)) h3 (We.cInt ⟨_, rfl, Wx.nil ⟨m', by (exact Nat.le_refl _), _, psStep b rs, by rfl, by rfl, ?_, h4, h5, h6, by lia, by lia, ?_, ?_, ?_, ?_, by (exact Nat.le_of_lt (by assumption)), rfl⟩⟩) (.inl rfl))
    · rw [Sto.set_eq]; congr 3; lia
    · have := zsub_le (a := zscale fd (lead b)) (b := zraise [-(lead rs)] (rs.length - b.length))
      have := zscale_le (a := fd) (k := lead b)
      have := zraise_le (a := [-(lead rs)]) (n := rs.length - b.length)
      simp at this
      (clear ha hl hpw hstep; lia)
    · rw [← hps, psR, if_pos hge]
    · have e : 64 + 65 * (M - m') = (64 + 65 * (M - (m' + 1))) + 64 + 1 := by (clear ha hb hl hbp hM hr10 hf20 hge hlt hpw hstep hM11; lia)
      rw [e]
      refine SzL.sub (sr.scale sF) (SzL.raise ?_)
      have := sb.scale (k := lead rs) sr.lead
      exact this.mono (by lia)
    · have e : 64 + 65 * (M - m') = (64 + 65 * (M - (m' + 1))) + 64 + 1 := by (clear ha hb hl hbp hM hr10 hf20 hge hlt hpw hstep hM11; lia)
      rw [e]
      refine SzL.sub (sf.scale sF) (SzL.raise ?_)
      intro x hx
      simp only [List.mem_cons, List.not_mem_nil, or_false] at hx
      subst hx
      exact (sr.lead.neg).mono (by (exact Nat.le_add_right _ _))
  · have : decide (((b.map PyData.int).length : Int) ≤ ((rs.map PyData.int).length : Int)) = false := decide_eq_false (by simpa using hge)
    rw [this, if_neg (by decide)]
    have hM11 : M ≤ 11 := by (clear hb hl em hlt hr10 hf20 hmM hge; omega)
    have hend : psR b m rs = (rs, m) := by
      cases m with
      | zero => rfl
      | succ m => rw [psR, if_neg hge]
    have hprem : prem a b = zscale rs (lead b ^ m) := by
      unfold prem; rw [hM, ← hps, hend]
    have sm : Sz (64 * m + 1) (lead b ^ m) := sF.pow m
    have hbits : (Builtin.Int.intBits (lead b) : Int) * (m : Int) ≤ 2 ^ 27 := by
      have h1 := sF.bits
      have h2 : Builtin.Int.intBits (lead b) * m ≤ 64 * 11 := Nat.mul_le_mul h1 (by (exact Nat.le_trans (by assumption) (by assumption)))
      have h3 : ((Builtin.Int.intBits (lead b) * m : Nat) : Int) ≤ 704 := by lia
      rw [Int.natCast_mul] at h3
      lia
    refine Wx.cons (Ws.assign (We.pow (We.name h5 (We.name h3 ⟨_, _, rfl, rfl, by lia, hbits, ?_⟩))) (.inl rfl))
    rw [Int.toNat_natCast]
    have mk : ∀ i, Sz (64 + 65 * (M - m)) i → IntMulOk i (lead b ^ m) := fun i hi => mulOk_sz hi sm (by (clear ha hb hl hbp em hlt hr10 hf20 hge hbits; lia))
    refine Wx.cons (Ws.ret (We.tup (Wl.cons (We.call (Wl.cons (We.name h1 (Wl.cons (We.name (by rfl) (Wl.nil (zscale_spec (by (exact Nat.le_trans (by assumption) (Nat.le_of_ble_eq_true rfl))) (fun i hi => mk i (sf i hi)) ?_)))))) (by rfl) (has_of 8 (by kernel_rfl))))))
    refine Wl.cons (We.call (Wl.cons (We.name h2 (Wl.cons (We.name (by rfl) (Wl.nil (zscale_spec (by (exact Nat.le_trans (by assumption) (Nat.le_of_ble_eq_true rfl))) (fun i hi => mk i (sr i hi)) ?_)))))) (by rfl) (has_of 8 (by kernel_rfl)))
    refine Wl.cons (We.name h6 (Wl.nil ⟨[_, _, _], rfl, by simp, ?_⟩))
    rw [← hprem]
    exact h _
end
section
variable {C : Cx} {k : Nat} {om : Om} {Φ : AV → Om → Prop}
@[reducible] noncomputable def KP (R : Sto → Om → Prop) : Fl → Sto → Om → Prop := fun f σ1 om1 => f = .nx ∧ R σ1 om1
theorem Wx.consP {sc : Scope} {σ : Sto} {st : Stmt} {rest : List Stmt} {Ψ : Fl → Sto → Om → Prop} (R : Sto → Om → Prop) (x : Ws C k sc σ om st (KP R)) (y : ∀ σ1 om1, R σ1 om1 → Wx C k sc σ1 om1 rest Ψ) : Wx C k sc σ om (st :: rest) Ψ :=
  Wx.cons fun A env s E Q hA S hQ => x A env s E Q hA S fun fl f σ' om' h' tk ⟨p1, p2⟩ ef S' r => hQ fl f σ' om' h' tk (by subst p1; exact y σ' om' p2) ef S' r
theorem divided_spec {l : List Int} {n : Int} (hl : l.length ≤ 2 ^ 20) (hn : n ≠ 0) (h : Φ (.dat (encZ (l.map fun x => x.fdiv n))) om) : Wf C (k + 1) "divided" om [.dat (encZ l), .dat (.int n)] Φ := by
  refine Wf.intro (d := fnAt 19) (List.mem_of_getElem? (i := 13) (by kernel_rfl)) (names := ["p", "number"]) (by rintro pm code doc (_ | ⟨v1, _ | ⟨v2, _ | ⟨v3, r⟩⟩⟩) h <;> first | rfl | simp at h; done) rfl (by decide) (kd_of (by rfl)) ?_
  refine Wx.cons (Ws.ret (We.compM (g := onInt fun x => x.fdiv n) (Wi.list (We.name (by rfl) ⟨_, rfl, by simpa using hl, ?_, ?_⟩)) (by rfl) (.inl (by rfl))))
  · intro a ha om'
    obtain ⟨i, _, rfl⟩ := mem_ints ha
    exact We.fdiv (We.name Sto.set_eq (We.name (by rfl) ⟨i, n, rfl, rfl, hn, rfl, rfl⟩))
  · rw [onInt_map]; exact NewL.dat h
theorem prem_le {a b : List Int} (hb : b ≠ []) (hl : lead b ≠ 0) : (prem a b).length < b.length ∨ (prem a b).length ≤ a.length := by
  right
  unfold prem
  have key : ∀ n rs, (psR b n rs).1.length ≤ rs.length := by
    intro n
    induction n with
    | zero => intro rs; exact Nat.le_refl _
    | succ n ih =>
      intro rs
      unfold psR
      split
      · rename_i h
        have := psStep_lt hb hl h
        have := ih (psStep b rs)
        lia
      · exact Nat.le_refl _
  have := zscale_le (a := (psR b (a.length + 1 - b.length) a).1) (k := lead b ^ (psR b (a.length + 1 - b.length) a).2)
  have := key (a.length + 1 - b.length) a
  (exact Nat.le_trans (by assumption) (by assumption))
theorem full_rest_spec {a b : List Int} (ha : a.length ≤ 10) (hba : b.length ≤ a.length) (hne : b ≠ []) (hl : lead b ≠ 0) (sa : SzL 64 a) (sb : SzL 64 b)
    (h : Φ (.dat (encZ (prem a b))) om) : Wf C (k + 5) "full_rest" om [.dat (encZ a), .dat (encZ b)] Φ := by
  refine Wf.intro (d := fnAt 20) (List.mem_of_getElem? (i := 14) (by kernel_rfl)) (names := ["a", "b"]) (by rintro pm code doc (_ | ⟨v1, _ | ⟨v2, _ | ⟨v3, r⟩⟩⟩) h <;> first | rfl | simp at h; done) rfl (by decide) (kd_of (by rfl)) ?_
  have hbp : 0 < b.length := List.length_pos_iff.mpr hne
  refine Wx.cons (Ws.assignT (We.call (Wl.cons (We.name (by rfl) (Wl.cons (We.name (by rfl) (Wl.nil (pseudo_spec ha (by (exact Nat.le_trans (by assumption) (by assumption))) hne hl sa sb fun fd => ⟨_, rfl, rfl, ?_⟩)))))) (by rfl) (has_of 12 (by kernel_rfl))) (by rfl))
  refine Wa.name (Wa.name (Wa.name ?_ (.inl rfl)) (.inl rfl)) (.inl rfl)
  refine Wx.cons (Ws.assign (We.sub (We.add (We.sub (We.call (Wl.cons (We.name (by rfl) (Wl.nil (zdegree_spec (by simp; (exact Nat.le_trans (by assumption) (Nat.le_of_ble_eq_true rfl))) ?_)))) (by rfl) (has_of 3 (by kernel_rfl)))))) (.inr rfl))
  refine We.call (Wl.cons (We.name (by rfl) (Wl.nil (zdegree_spec (by simp; lia) ⟨_, _, rfl, rfl, We.cInt ⟨_, _, rfl, rfl, We.name (by rfl) ⟨_, _, rfl, rfl, ?_⟩⟩⟩)))) (by rfl) (has_of 3 (by kernel_rfl))
  have e0 : ((a.map PyData.int).length : Int) - 1 - (((b.map PyData.int).length : Int) - 1) + 1 - ((a.length + 1 - b.length : Nat) : Int) = 0 := by simp; (clear ha hl hbp; lia)
  rw [e0]
  have hpl : (prem a b).length ≤ 10 := by rcases prem_le (a := a) hne hl with q | q <;> lia
  refine Wx.cons (Ws.ret (We.compM (g := fun x => x) (Wi.list (We.name (by rfl) ⟨_, rfl, by simp; (exact Nat.le_trans (by assumption) (Nat.le_of_ble_eq_true rfl)), ?_, ?_⟩)) (by rfl) (.inl (by rfl))))
  · intro x hx om'
    obtain ⟨i, _, rfl⟩ := mem_ints hx
    refine We.mul (We.name Sto.set_eq (We.pow (We.call (Wl.cons (We.name (by rfl) (Wl.nil (zlead_spec (by lia) (We.name (by rfl) ⟨_, _, rfl, rfl, by (exact Int.le_refl _), by simp, ⟨_, _, rfl, rfl, mulOk_r (by simp [Sz]), ?_, rfl⟩⟩))))) (by rfl) (has_of 4 (by kernel_rfl)))))
    simp
  · rw [List.map_id']; exact NewL.dat h
noncomputable def rrNext (a b : List Int) (g h : Int) : List Int := (prem a b).map fun x => x.fdiv (g * h ^ (a.length - b.length))
noncomputable def rrH (a b : List Int) (h : Int) : Int := if a.length - b.length > 0 then (lead b ^ (a.length - b.length)).fdiv (h ^ (a.length - b.length - 1)) else h
noncomputable def rrSg (a b : List Int) (sg : Int) : Int := if (a.length - 1) % 2 = 1 ∧ (b.length - 1) % 2 = 1 then -sg else sg
noncomputable def rr : Nat → List Int → List Int → Int → Int → Int → Int
  | 0, _, _, _, _, _ => 0
  | n + 1, a, b, g, h, sg => if b.length ≤ 1 then (if b = [] then 0 else sg * (if a.length - 1 > 0 then (cf b 0 ^ (a.length - 1)).fdiv (h ^ (a.length - 2)) else 1))
      else rr n b (rrNext a b g h) (lead b) (rrH a b h) (rrSg a b sg)
noncomputable def rrOk : Nat → List Int → List Int → Int → Int → Int → Prop
  | 0, _, _, _, _, _ => False
  | n + 1, a, b, g, h, sg => a ≠ [] ∧ a.length ≤ 10 ∧ b.length ≤ a.length ∧ SzL 64 a ∧ SzL 64 b ∧ Sz 64 g ∧ Sz 64 h ∧ g ≠ 0 ∧ h ≠ 0 ∧ Sz 64 sg ∧ (b ≠ [] → lead b ≠ 0) ∧
      (2 ≤ b.length → rrOk n b (rrNext a b g h) (lead b) (rrH a b h) (rrSg a b sg))
theorem bits_pow {x : Int} {n : Nat} (h : Sz 64 x) (hn : n ≤ 100) : (Builtin.Int.intBits x : Int) * (n : Int) ≤ 2 ^ 27 := by
  have h1 := h.bits
  have h2 : Builtin.Int.intBits x * n ≤ 64 * 100 := Nat.mul_le_mul h1 hn
  have h3 : ((Builtin.Int.intBits x * n : Nat) : Int) ≤ 6400 := by lia
  rw [Int.natCast_mul] at h3
  lia
theorem deg_odd {l : List Int} (h : l ≠ []) : ((((l.map PyData.int).length : Int) - 1).fmod 2 == 1) = decide ((l.length - 1) % 2 = 1) := by
  have hp : 0 < l.length := List.length_pos_iff.mpr h
  have e : ((l.map PyData.int).length : Int) - 1 = ((l.length - 1 : Nat) : Int) := by simp; lia
  rw [e, Int.fmod_eq_emod_of_nonneg _ (by (decide))]
  by_cases hq : (l.length - 1) % 2 = 1
  · rw [decide_eq_true hq]; simp; lia
  · rw [decide_eq_false hq]; simp; lia
end
section
variable {C : Cx} {k : Nat} {om : Om} {Φ : AV → Om → Prop}
theorem rrOk.hd {n a b g h sg} (x : rrOk n a b g h sg) : a ≠ [] ∧ a.length ≤ 10 ∧ b.length ≤ a.length ∧ SzL 64 a ∧ SzL 64 b ∧ Sz 64 g ∧ Sz 64 h ∧ g ≠ 0 ∧ h ≠ 0 ∧ Sz 64 sg ∧ (b ≠ [] → lead b ≠ 0) := by
  cases n with
  | zero => exact x.elim
  | succ n => obtain ⟨h1, h2, h3, h4, h5, h6, h7, h8, h9, h10, h11, _⟩ := x; exact ⟨h1, h2, h3, h4, h5, h6, h7, h8, h9, h10, h11⟩
structure rrP1S (R : Int) (om : Om)  (σ1 : Sto) (om1 : Om) (m : Nat) (a b : List Int) (g h sg : Int) : Prop where
  c0 : σ1 "a" = some (.dat (encZ a))
  c1 : σ1 "b" = some (.dat (encZ b))
  c2 : σ1 "h" = some (.dat (.int h))
  c3 : σ1 "sign" = some (.dat (.int sg))
  c4 : rrOk (m + 1) a b g h sg
  c5 : rr (m + 1) a b g h sg = R
  c6 : om1 = om
  c7 : b.length ≤ 1
@[reducible] noncomputable def rrP1 (R : Int) (om : Om)  (σ1 : Sto) (om1 : Om) : Prop := ∃ m a b g h sg, rrP1S R om σ1 om1 m a b g h sg
structure rrJ1S (R : Int) (om : Om) (m : Nat) (σ1 : Sto) (om1 : Om) (a b : List Int) (g h sg : Int) : Prop where
  c0 : σ1 "a" = some (.dat (encZ a))
  c1 : σ1 "b" = some (.dat (encZ b))
  c2 : σ1 "g" = some (.dat (.int g))
  c3 : σ1 "h" = some (.dat (.int h))
  c4 : σ1 "sign" = some (.dat (.int sg))
  c5 : rrOk m a b g h sg
  c6 : rr m a b g h sg = R
  c7 : om1 = om
@[reducible] noncomputable def rrJ1 (R : Int) (om : Om) (m : Nat) (σ1 : Sto) (om1 : Om) : Prop := ∃ a b g h sg, rrJ1S R om m σ1 om1 a b g h sg
structure rrP2 (a b : List Int) (g h sg : Int) (OM : Om)  (σ1 : Sto) (om1 : Om) : Prop where
  c0 : σ1 "a" = some (.dat (encZ a))
  c1 : σ1 "b" = some (.dat (encZ b))
  c2 : σ1 "g" = some (.dat (.int g))
  c3 : σ1 "h" = some (.dat (.int h))
  c4 : σ1 "sign" = some (.dat (.int (rrSg a b sg)))
  c5 : σ1 "gap" = some (.dat (.int ((a.length - b.length : Nat) : Int)))
  c6 : om1 = OM
set_option maxHeartbeats 2000000 in
theorem row_resultant_spec {n : Nat} {a b : List Int} {sg : Int} (ok : rrOk n a b 1 1 sg) (hΦ : Φ (.dat (.int (rr n a b 1 1 sg))) om) : Wf C (k + 6) "row_resultant" om [.dat (encZ a), .dat (encZ b), .dat (.int sg)] Φ := by
  refine Wf.intro (d := fnAt 21) (List.mem_of_getElem? (i := 15) (by kernel_rfl)) (names := ["a", "b", "sign"]) (by rintro pm code doc (_ | ⟨v1, _ | ⟨v2, _ | ⟨v3, _ | ⟨v4, r⟩⟩⟩⟩) h <;> first | rfl | simp at h; done) rfl (by decide) (kd_of (by rfl)) ?_
  generalize hR : rr n a b 1 1 sg = R at hΦ
  refine Wx.cons (Ws.assignTT (Wl.cons (We.cInt (Wl.cons (We.cInt (Wl.nil ⟨rfl, by decide, ?_⟩))))) (by rfl) (by intro env he; cases env; cases he; rfl))
  refine Wa.name (Wa.name ?_ (.inl rfl)) (.inl rfl)
  refine Wx.consP ((rrP1 R om)) (Ws.while ((rrJ1 R om)) n
    ⟨a, b, 1, 1, sg, rfl, rfl, rfl, rfl, rfl, ok, hR, rfl⟩ ?_) ?_
  · rintro m σ1 OM ⟨a, b, g, h, sg, h1, h2, h3, h4, h5, ok, hr, rfl⟩
    obtain ⟨m, rfl⟩ : ∃ m', m = m' + 1 := by
      cases m with
      | zero => exact ok.elim
      | succ m => exact ⟨m, rfl⟩
    have okk := ok
    obtain ⟨hane, ha10, hba, sa, sb, sgg, sh, hg0, hh0, ssg, hlb, hnext⟩ := ok
    refine Wt.cmp (We.call (Wl.cons (We.name h2 (Wl.nil (zdegree_spec (by simp; lia) (We.cInt ⟨_, rfl, ?_⟩))))) (by rfl) (has_of 3 (by kernel_rfl)))
    by_cases hb2 : 2 ≤ b.length
    · have hbne : b ≠ [] := by rintro rfl; simp at hb2
      have : decide ((0 : Int) < ((b.map PyData.int).length : Int) - 1) = true := decide_eq_true (by simp; lia)
      rw [this, if_pos rfl]
      have hnx := hnext hb2
      have hr' : rr m b (rrNext a b g h) (lead b) (rrH a b h) (rrSg a b sg) = R := by rw [← hr, rr, if_neg (by (exact Nat.not_le_of_lt (by assumption)))]
      have egap : ((a.map PyData.int).length : Int) - 1 - (((b.map PyData.int).length : Int) - 1) = ((a.length - b.length : Nat) : Int) := by simp; (clear hR hr ha10 hg0 hh0 hlb hnext hb2 hr'; lia)
      refine Wx.cons (Ws.assign (We.sub (We.call (Wl.cons (We.name h1 (Wl.nil (zdegree_spec (by simp; (exact Nat.le_trans (by assumption) (Nat.le_of_ble_eq_true rfl))) ?_)))) (by rfl) (has_of 3 (by kernel_rfl)))) (.inl rfl))
      refine We.call (Wl.cons (We.name h2 (Wl.nil (zdegree_spec (by simp; lia) ⟨_, _, rfl, rfl, ?_⟩)))) (by rfl) (has_of 3 (by kernel_rfl))
      rw [egap]
      refine Wx.consP ((rrP2 a b g h sg OM)) ?_ ?_
      · refine Ws.ite (Wt.and (Wt.cmp (We.mod (We.call (Wl.cons (We.name h1 (Wl.nil (zdegree_spec (by simp; (exact Nat.le_trans (by assumption) (Nat.le_of_ble_eq_true rfl))) (We.cInt ⟨_, _, rfl, rfl, by decide, We.cInt ⟨_, rfl, ?_⟩⟩))))) (by rfl) (has_of 3 (by kernel_rfl))))))
        rw [deg_odd hane]
        by_cases q1 : (a.length - 1) % 2 = 1
        · rw [decide_eq_true q1, if_pos rfl]
          refine Wt.cmp (We.mod (We.call (Wl.cons (We.name h2 (Wl.nil (zdegree_spec (by simp; lia) (We.cInt ⟨_, _, rfl, rfl, by decide, We.cInt ⟨_, rfl, ?_⟩⟩))))) (by rfl) (has_of 3 (by kernel_rfl))))
          rw [deg_odd hbne]
          by_cases q2 : (b.length - 1) % 2 = 1
          · rw [decide_eq_true q2, if_pos rfl]
            refine Wx.cons (Ws.assign (We.neg (We.name h5 ⟨_, rfl, Wx.nil ⟨rfl, h1, h2, h3, h4, ?_, rfl, rfl⟩⟩)) (.inl rfl))
            rw [Sto.set_eq, rrSg, if_pos ⟨q1, q2⟩]
          · rw [decide_eq_false q2, if_neg (by decide)]
            refine Wx.nil ⟨rfl, h1, h2, h3, h4, ?_, rfl, rfl⟩
            rw [rrSg, if_neg (fun q => q2 q.2)]; exact h5
        · rw [decide_eq_false q1, if_neg (by decide), if_neg (by decide)]
          refine Wx.nil ⟨rfl, h1, h2, h3, h4, ?_, rfl, rfl⟩
          rw [rrSg, if_neg (fun q => q1 q.1)]; exact h5
      · rintro σ2 om2 ⟨g1, g2, g3, g4, g5, g6, rfl⟩
        refine Wx.cons (Ws.assign (We.call (Wl.cons (We.name g1 (Wl.cons (We.name g2 (Wl.nil (full_rest_spec ha10 hba hbne (hlb hbne) sa sb ?_)))))) (by rfl) (has_of 14 (by kernel_rfl))) (.inl rfl))
        have hpl : (prem a b).length ≤ 10 := by rcases prem_le (a := a) hbne (hlb hbne) with q | q <;> lia
        have hgh : g * h ^ (a.length - b.length) ≠ 0 := Int.mul_ne_zero hg0 (Int.pow_ne_zero hh0)
        refine Wx.cons (Ws.swap (names := ["a", "b"]) (Wl.cons (We.name g2 (Wl.cons (We.call (Wl.cons (We.name (by rfl) (Wl.cons ?_))) (by rfl) (has_of 13 (by kernel_rfl)))))) (kd_of (by rfl)) (by intro env he; cases env; cases he; rfl))
        refine We.mul (We.name g3 (We.pow (We.name g4 (We.name g6 ⟨_, _, rfl, rfl, by (clear hR hr ha10 hba hg0 hh0 hlb hnext hb2 hr' egap hpl hgh; lia), bits_pow sh (by (clear hR hr hg0 hh0 hlb hnext hr' egap hpl; lia)), _, _, rfl, rfl, mulOk_l sgg, Wl.nil (divided_spec (by (exact Nat.le_trans (by assumption) (Nat.le_of_ble_eq_true rfl))) ?_ (Wl.nil ⟨rfl, by decide, ?_⟩))⟩))))
        · simpa using hgh
        rw [Int.toNat_natCast]
        refine Wx.cons (Ws.assign (We.call (Wl.cons (We.name (by rfl) (Wl.nil (zlead_spec (by lia) ?_)))) (by rfl) (has_of 4 (by kernel_rfl))) (.inl rfl))
        refine Wx.cons (Ws.ite (Wt.cmp (We.name g6 (We.cInt ⟨_, rfl, ?_⟩))))
        by_cases hgap : a.length - b.length > 0
        · have : decide ((0 : Int) < ((a.length - b.length : Nat) : Int)) = true := decide_eq_true (by (clear hR hr ha10 hba hg0 hh0 hlb hnext hb2 hr' egap hpl hgh; lia))
          rw [this, if_pos rfl]
          have e1 : ((a.length - b.length : Nat) : Int) - 1 = ((a.length - b.length - 1 : Nat) : Int) := by (clear hR hr ha10 hg0 hh0 hlb hnext hb2 hr' egap hpl; omega)
          refine Wx.cons (Ws.assign (We.fdiv (We.pow (We.name (by rfl) (We.name g6 ⟨_, _, rfl, rfl, by (clear hR hr ha10 hba hg0 hh0 hlb hnext hb2 hr' egap hpl hgh; lia), bits_pow sb.lead (by (clear hR hr hba hg0 hh0 hlb hnext hr' egap hpl hgh hgap; omega)), We.pow (We.name g4 (We.sub (We.name g6 (We.cInt ⟨_, _, rfl, rfl, _, _, rfl, rfl, by (clear hR hr ha10 hba hg0 hh0 hlb hnext hb2 hr' egap hpl hgh; lia), ?_, _, _, rfl, rfl, ?_, ?_⟩))))⟩)))) (.inl rfl))
          · rw [e1]; exact bits_pow sh (by (clear hR hr hba hg0 hh0 hlb hnext hr' egap hpl hgh hgap e1; omega))
          · exact Int.pow_ne_zero hh0
          · rw [e1, Int.toNat_natCast, Int.toNat_natCast]
            refine Wx.nil (Wx.nil ⟨m, by (exact Nat.le_refl _), _, _, _, _, _, by rfl, by rfl, by rfl, by rfl, g5, ?_, ?_, rfl⟩)
            · have := hnx; rw [rrH, if_pos hgap] at this; exact this
            · have := hr'; rw [rrH, if_pos hgap] at this; exact this
        · have : decide ((0 : Int) < ((a.length - b.length : Nat) : Int)) = false := decide_eq_false (by (clear hR hr ha10 hba hg0 hh0 hlb hnext hb2 hr' egap hpl hgh; lia))
          rw [this, if_neg (by decide)]
          refine Wx.nil (Wx.nil ⟨m, by (exact Nat.le_refl _), _, _, _, _, _, by rfl, by rfl, by rfl, g4, g5, ?_, ?_, rfl⟩)
          · have := hnx; rw [rrH, if_neg hgap] at this; exact this
          · have := hr'; rw [rrH, if_neg hgap] at this; exact this
    · have : decide ((0 : Int) < ((b.map PyData.int).length : Int) - 1) = false := decide_eq_false (by simp; lia)
      rw [this, if_neg (by decide)]
      exact ⟨rfl, m, a, b, g, h, sg, h1, h2, h4, h5, okk, hr, rfl, by (exact Nat.le_of_not_lt (by assumption))⟩
  · rintro σ1 om1 ⟨m, a, b, g, h', sg, h1, h2, h4, h5, ok, hr, rfl, hb1⟩
    obtain ⟨hane, ha10, hba, sa, sb, sgg, sh, hg0, hh0, ssg, hlb, hnext⟩ := ok
    have hap : 0 < a.length := List.length_pos_iff.mpr hane
    rw [rr, if_pos hb1] at hr
    rcases b with _ | ⟨b0, r⟩
    · refine Wx.cons (Ws.ite (Wt.cmp (We.name h2 (We.lst (Wl.nil ⟨by decide, .inl ⟨[], rfl, true, rfl, ?_⟩⟩)))))
      rw [if_pos rfl]
      refine Wx.cons (Ws.ret (We.cInt ?_))
      rw [if_pos rfl] at hr
      subst hr; exact hΦ
    · have hr0 : r = [] := by simpa using hb1
      subst hr0
      rw [if_neg (by simp)] at hr
      refine Wx.cons (Ws.ite (Wt.cmp (We.name h2 (We.lst (Wl.nil ⟨by decide, .inl ⟨[], rfl, false, rfl, ?_⟩⟩)))))
      rw [if_neg (by decide)]
      refine Wx.nil (Wx.cons (Ws.assign (We.call (Wl.cons (We.name h1 (Wl.nil (zdegree_spec (by simp; (exact Nat.le_trans (by assumption) (Nat.le_of_ble_eq_true rfl))) ?_)))) (by rfl) (has_of 3 (by kernel_rfl))) (.inl rfl)))
      have e0 : ((a.map PyData.int).length : Int) - 1 = ((a.length - 1 : Nat) : Int) := by simp; lia
      rw [e0]
      refine Wx.cons (Ws.ret (We.mul (We.name h5 (We.ifexp (Wt.cmp (We.name (by rfl) (We.cInt ⟨_, rfl, ?_⟩)))))))
      by_cases hm : a.length - 1 > 0
      · have : decide ((0 : Int) < ((a.length - 1 : Nat) : Int)) = true := decide_eq_true (by lia)
        rw [this, if_pos rfl]
        rw [if_pos hm] at hr
        have e1 : ((a.length - 1 : Nat) : Int) - 1 = ((a.length - 2 : Nat) : Int) := by lia
        refine We.fdiv (We.pow (We.subN (We.name h2 (We.cInt ⟨_, 0, .int b0, .inl rfl, rfl, rfl, by simp, We.name (by rfl) ⟨_, _, rfl, rfl, by (clear hR ha10 hg0 hh0 hap hr hb1 hba hlb hnext e0; lia), bits_pow (sb b0 (by simp)) (by lia), We.pow (We.name h4 (We.sub (We.name (by rfl) (We.cInt ⟨_, _, rfl, rfl, _, _, rfl, rfl, by lia, ?_, _, _, rfl, rfl, Int.pow_ne_zero hh0, _, _, rfl, rfl, mulOk_l ssg, ?_⟩))))⟩⟩))))
        · rw [e1]; exact bits_pow sh (by (clear hR hg0 hh0 hr hb1 hba hlb hnext e0 hm e1; omega))
        · rw [e1, Int.toNat_natCast, Int.toNat_natCast]
          subst hr; exact hΦ
      · have : decide ((0 : Int) < ((a.length - 1 : Nat) : Int)) = false := decide_eq_false (by lia)
        rw [this, if_neg (by decide)]
        rw [if_neg hm] at hr
        refine We.cInt ⟨_, _, rfl, rfl, mulOk_l ssg, ?_⟩
        subst hr; exact hΦ
end
section
variable {C : Cx} {k : Nat} {sc : Scope} {σ : Sto} {om : Om}
theorem Wi.tuple {e} {Ψ : List AV → Om → Prop} (x : We C k sc σ om e (fun a om1 => ∃ ds, a = .dat (.tuple ds) ∧ ds.length ≤ 2 ^ 20 ∧ Ψ (ds.map .dat) om1)) : Wi C k sc σ om e Ψ := by
  intro A env s E Q hA S hQ
  refine x.bind hA S fun v a om1 h1 tk1 ⟨ds, e1, hn, y⟩ st1 S1 ra => ?_
  subst e1
  have ra' : Den om1 h1 v (.tuple ds) := ra
  cases ra' with
  | tuple ho hl hd =>
    rename_i c vs n
    have z := hd.length
    simp only [Array.length_toList] at z
    have hlst : h1.IsTuple c vs := ⟨_, hl, rfl, _, rfl⟩
    refine wpAny_pyIter_tuple hlst ?_
    have hlt : c < h1.objs.size := Heap.lt_size hl
    have ex := Ext.push h1 { cls := .type "tuple_iterator", data := .fields #[.ref c, .int 0 0] }
    have hz : (ds.map AV.dat).length = vs.size := by simp [z]
    refine hQ h1.objs.size [h1.objs.size, c] [h1.objs.size] _ _ (ds.map .dat) om1 _ tk1 y (hz ▸ Walks.tuple (prog := P) (w := C.w) hA.hd h1.objs.size c (Nat.ne_of_lt hlt) vs) ⟨?_, ?_⟩ ⟨⟨_, Heap.get?_push_size _ rfl, rfl, rfl⟩, hlst.at fun o e => Heap.get?_push_of_some _ e⟩ (by simpa using hn) ?_ (st1.trans ex.step) (S1.own.step ex) ?_ ?_ ?_ ?_
    · rintro i h ⟨⟨o1, e1, _⟩, ⟨o2, e2, _⟩⟩ b hb
      simp only [List.mem_cons, List.not_mem_nil, or_false] at hb
      rcases hb with rfl | rfl
      · exact ⟨_, e1⟩
      · exact ⟨_, e2⟩
    · rintro i h ⟨⟨o1, e1, _, e3⟩, _⟩ b hb
      simp only [List.mem_cons, List.not_mem_nil, or_false] at hb
      subst hb
      exact ⟨_, _, e1, e3⟩
    · intro i u W om2 h2 hP ef ns
      have hP' : vs.toList[i]? = some u := by simpa using hP
      obtain ⟨a, ha, hr⟩ := (ex.step.denL hd).avl.get' hP'
      exact ⟨a, ha, ef.avr ns hr⟩
    · intro b hb
      simp only [List.mem_cons, List.not_mem_nil, or_false] at hb
      subst hb
      exact st1.none (size_new _)
    · intro b hb
      simp only [List.mem_cons, List.not_mem_nil, or_false] at hb
      rcases hb with rfl | rfl
      · exact S1.own.free (size_new _)
      · exact ho
    · intro b hb hw
      obtain ⟨o, e⟩ := S1.fro.wrIn hw
      simp only [List.mem_cons, List.not_mem_nil, or_false] at hb
      rcases hb with rfl | rfl
      · rw [size_new] at e; cases e
      · exact S1.fro.noSeq _ _ hw hl _ _ rfl
    · intro b hb
      rw [Heap.size_push]
      simp only [List.mem_cons, List.not_mem_nil, or_false] at hb
      rcases hb with rfl | rfl
      · exact Nat.lt_succ_self _
      · exact Nat.lt_succ_of_lt hlt
noncomputable def Wi2 (C : Cx) (k : Nat) (sc : Scope) (σ : Sto) (om : Om) (e : PySem.Expr) (Ψ : List AV → Om → Prop) : Prop :=
  ∀ (A : Around) (env : Env) (s : Shared) (E : Value → Shared → Prop) (Q : Value → Shared → Prop), AOk k A → St C sc σ om env s.heap →
    (∀ I fp wr Pt Stt Mid items om' h' tk, Ψ items om' → WalksT P C.w A I fp wr items.length Pt Stt Mid → ItOk Stt fp wr → Stt 0 h' → items.length ≤ 2 ^ 20 →
      (∀ i vals W om'' h'', Pt i vals → Ef W om' h' om'' h'' → NoSeq W h' → ∃ a t v, items[i]? = some a ∧ vals = #[.int i t, v] ∧ AVR om'' h'' v a) → Step om s.heap om' h' → OwnOk C.h0 om' h' →
      (∀ b ∈ wr, s.heap.get? b = none) → (∀ b ∈ fp, om' b = none) → (∀ b ∈ fp, ¬ Wr env b) → (∀ b ∈ fp, b < h'.objs.size) → Q (.ref I) { s with heap := h', toks := tk }) →
    wpAny (MM C) A (eval e env) (fun x s₁ => wpAny (MM C) A (pyIter x) Q E s₁) E s
theorem Wi2.enum {fp e pos} {Ψ : List AV → Om → Prop} (x : We C k sc σ om e (fun a om1 => ∃ ds, a = .dat (.list ds) ∧ ds.length ≤ 2 ^ 20 ∧ Ψ (ds.map .dat) om1))
    (hf : sc.names.lookup (Str.ofString "enumerate") = some .globalImplicit)
    (hs : ∀ env, starEach [e] env = [(false, eval e env)] := by intros; rfl) : Wi2 C k sc σ om (.Call (.Name "enumerate" fp) [e] [] pos) Ψ := by
  intro A env s E Q hA S hQ
  refine Call_Name rfl ?_
  refine Name_function_global (by rw [S.fro.scope]; exact S.fro.kind) (by show env.scope.names.lookup _ = _; rw [S.fro.scope]; exact hf)
    (loadGlobal_builtin (mg := C.mg) (mb := C.mb) (v := .type "enumerate") (by rw [S.fro.glob]; exact C.g.keeps S.fro.base) (C.noglob _ (by decide)) (by rw [S.fro.blt]; exact C.b.keeps S.fro.base) ((C.blt _ (by decide)).trans (by decide +kernel)) ?_)
  have WL : Wl C k sc σ om [e] (fun as om1 => ∃ ds, as = [.dat (.list ds)] ∧ ds.length ≤ 2 ^ 20 ∧ Ψ (ds.map .dat) om1) := Wl.cons (x.mono fun a om1 ⟨ds, e1, h1, h2⟩ => Wl.nil ⟨ds, by rw [e1], h1, h2⟩) (fun env => by rw [hs]; rfl)
  refine PyProof.Rows.callWith_type1 (WL A env pos s E _ hA S fun vs as om1 h1 tk1 ⟨ds, hc, hn, y⟩ st1 O1 ra => ?_) (by rw [hs]; rfl) (by intros; rfl)
  subst hc
  have S1 := S.step st1 O1
  cases ra with
  | cons r1 r2 =>
    cases r2
    rename_i v0
    have ra' : Den om1 h1 v0 (.list ds) := r1
    cases ra' with
    | list ho hl hd =>
      rename_i c vs n
      have z := hd.length
      simp only [Array.length_toList] at z
      have hlst : h1.IsList c vs := IsL.isList hl
      have hlt : c < h1.objs.size := Heap.lt_size hl
      refine call_enumerate_1 (s := { s with heap := h1, toks := tk1 }) hl fun h2 he hit hsz hk => ?_
      replace he : IsEnum h2 (h1.objs.size + 1) h1.objs.size 0 .none := he
      replace hit : h2.IsListIter h1.objs.size c 0 := hit
      replace hsz : h2.objs.size = h1.objs.size + 2 := hsz
      have ex : Ext h1 h2 := hk
      refine wpAny_pyIter_enum he ?_
      have hz : (ds.map AV.dat).length = vs.size := by simp [z]
      have new1 : ∀ j : Nat, h1.objs.size ≤ j → h1.get? j = none := fun j hj => by
        cases q : h1.get? j with
        | none => rfl
        | some o => exact absurd (Heap.lt_size q) (Nat.not_lt.mpr hj)
      refine hQ (h1.objs.size + 1) [h1.objs.size + 1, h1.objs.size, c] [h1.objs.size + 1, h1.objs.size] _ _ _ (ds.map .dat) om1 _ tk1 y (hz ▸ WalksT.enumerate (prog := P) (w := C.w) hA.hd (h1.objs.size + 1) h1.objs.size c (Nat.succ_ne_self _) (Nat.ne_of_lt (Nat.lt_succ_of_lt hlt)) (Nat.ne_of_lt hlt) vs) ⟨?_, ?_⟩ ⟨⟨_, he⟩, hit, hlst.at fun o e => hk _ _ e⟩ (by simpa using hn) ?_ (st1.trans ex.step) (S1.own.step ex) ?_ ?_ ?_ ?_
      · rintro i h ⟨⟨old, e0⟩, ⟨o1, e1, _⟩, ⟨o2, e2, _⟩⟩ b hb
        simp only [List.mem_cons, List.not_mem_nil, or_false] at hb
        rcases hb with rfl | rfl | rfl
        · exact ⟨_, e0⟩
        · exact ⟨_, e1⟩
        · exact ⟨_, e2⟩
      · rintro i h ⟨⟨old, e0⟩, ⟨o1, e1, _, e3⟩, _⟩ b hb
        simp only [List.mem_cons, List.not_mem_nil, or_false] at hb
        rcases hb with rfl | rfl
        · exact ⟨_, _, e0, rfl⟩
        · exact ⟨_, _, e1, e3⟩
      · rintro i vals W om2 h3 ⟨t, u, hP, rfl⟩ ef ns
        have hP' : vs.toList[i]? = some u := by simpa using hP
        obtain ⟨a, ha, hr⟩ := (ex.step.denL hd).avl.get' hP'
        exact ⟨a, t, u, ha, rfl, ef.avr ns hr⟩
      · intro b hb
        simp only [List.mem_cons, List.not_mem_nil, or_false] at hb
        rcases hb with rfl | rfl
        · exact st1.none (new1 _ (Nat.le_succ _))
        · exact st1.none (new1 _ (Nat.le_refl _))
      · intro b hb
        simp only [List.mem_cons, List.not_mem_nil, or_false] at hb
        rcases hb with rfl | rfl | rfl
        · exact S1.own.free (new1 _ (Nat.le_succ _))
        · exact S1.own.free (new1 _ (Nat.le_refl _))
        · exact ho
      · intro b hb hw
        obtain ⟨o, e⟩ := S1.fro.wrIn hw
        simp only [List.mem_cons, List.not_mem_nil, or_false] at hb
        rcases hb with rfl | rfl | rfl
        · rw [new1 _ (Nat.le_succ _)] at e; cases e
        · rw [new1 _ (Nat.le_refl _)] at e; cases e
        · exact S1.fro.noSeq _ _ hw hl _ _ rfl
      · intro b hb
        rw [hsz]
        simp only [List.mem_cons, List.not_mem_nil, or_false] at hb
        rcases hb with rfl | rfl | rfl
        · exact Nat.lt_succ_self _
        · exact Nat.lt_succ_of_lt (Nat.lt_succ_self _)
        · exact Nat.lt_succ_of_lt (Nat.lt_succ_of_lt hlt)
theorem Ws.forT {xi xv pi pv tk1 pt iter b pos} {Φ : Fl → Sto → Om → Prop} (y : Wi2 C k sc σ om iter (fun items om1 => ∃ J : Nat → Sto → Om → Prop, J 0 σ om1 ∧
      (∀ i a σ1 om2, items[i]? = some a → J i σ1 om2 → Wx C k sc ((σ1.set xi (.dat (.int i))).set xv a) om2 b (KF J i Φ)) ∧ (∀ σ1 om2, J items.length σ1 om2 → Φ .nx σ1 om2))) (hki : Kd sc xi) (hkv : Kd sc xv)
    (hs : ∀ env x, foldedSetIterable iter env x = pure x := by intros; rfl) : Ws C k sc σ om (.For (.Tuple [.Name xi pi, .Name xv pv] tk1 pt) iter b [] pos) Φ := by
  intro A env s E Q hA S hQ
  refine wpAny_For (y A env s E _ hA S fun I fp wr Pt Stt Mid items om' h' tk ⟨J, hJ0, turn, done⟩ W it hst hlen hitem st O' hnew hfo hfw hfs => ?_) (hs env)
  have S0 := S.step st O'
  have hn0 := new0 S hnew
  have nsU := FI.noSeq S0 (it.fld 0 h' hst)
  refine codeAny_forLoop_any (FI C sc env s items.length J wr om' h' Stt) ?_ (items.length + 1) ⟨σ, om', h', tk, 0, rfl, hJ0, Ef.refl, S0, hst, Nat.zero_le _, rfl⟩
  rintro m s1 ⟨σ1, om1, h1, tk1, i, rfl, hJ, ef1, S1, hst1, hi, rfl⟩
  by_cases hlt : i < items.length
  · refine W.item i { s with heap := h1, toks := tk1 } _ _ hlt hst1 fun T vals h2 tk2 hP _ hT hMid hk2 => ?_
    refine W.go _ _ pt i T { s with heap := h2, toks := tk2 } _ _ hMid fun h3 hst3 hk3 => ?_
    replace hk3 : ∀ b o, b ∉ wr → h2.get? b = some o → h3.get? b = some o := hk3
    have hk13 : ∀ b o, b ∉ wr → h1.get? b = some o → h3.get? b = some o := fun b o hb e => hk3 b o hb (hk2 b o hb e)
    have hT3 : h3.IsTuple T vals := hT.at fun o e => hk3 T o (W.apart i T h2 hMid) e
    have e3 := but_ef (W := NoW) (om := om1) hk13 (some_ne (it.obj _ _ hst3) W.sub)
    have ef3 : Ef (fun b => Wr env b ∨ b ∈ wr) om' h' om1 h3 := ef1.trans (e3.weak fun b q => .inr q)
    have S3 := S1.but hk13 (it.fld _ _ hst1) hn0
    obtain ⟨a, t, v, ha, rfl, hr⟩ := hitem i vals _ om1 h3 hP ef3 nsU
    refine wpAny_assign_Tuple (s := { s with heap := h3, toks := tk2 }) hA.hd hT3 rfl rfl fun h4 hx4 => ?_
    have ex4 : Ext h3 h4 := fun b o e => hx4 b o (Nat.ne_of_lt (Heap.lt_size e)) e
    have was : Was C k sc σ1 om1 [.Name xi pi, .Name xv pv] [.dat (.int i), a] (fun σ' om' => (σ1.set xi (.dat (.int i))).set xv a = σ' ∧ om1 = om') := Wa.name (Wa.name ⟨rfl, rfl⟩ hkv) hki
    refine was.run (s := { s with heap := h4, toks := tk2 }) hA (S3.ext ex4) (.cons (Den.int _ _) (.cons (ex4.step.avr hr) .nil)) fun σ5 om5 h5 tk5 ⟨q1, q2⟩ ef5 S5 => ?_
    subst q1; subst q2
    refine turn i a σ1 om1 ha hJ A env _ _ _ hA S5 fun fl f σ' om6 h6 tk6 pr ef6 S6 r => ?_
    refine FI.turn hQ st hnew hlt pr (((ef3.trans (ex4.step (om := om1)).weak).trans (ef5.weak fun b q => .inl q)).trans (ef6.weak fun b q => .inl q)) S6 r (W.frame _ _ _ hst3 fun b hb o e => ?_)
    have hb1 : om1 b = none := by
      obtain ⟨o', e'⟩ := it.obj _ _ hst b hb
      exact Ef.still ef3 (hfo b hb) e'
    exact ef6.keep b o (hfw b hb) hb1 (ef5.keep b o (hfw b hb) hb1 (ex4 b o e))
  · cases Nat.le_antisymm hi (Nat.le_of_not_lt hlt)
    exact W.done { s with heap := h1, toks := tk1 } _ _ hst1 fun h2 tk2 hk2 => wpAny_execs_nil (FI.done hQ st hnew (done σ1 om1 hJ) ef1 S1 hk2 (it.fld _ _ hst1) hn0)
end
section
variable {C : Cx} {k : Nat} {sc : Scope} {σ : Sto} {om : Om}
theorem Sto.set2_set2 {σ : Sto} {x y : Str} {a b c d : AV} : (((σ.set x a).set y b).set x c).set y d = (σ.set x c).set y d := by
  funext z; simp only [Sto.set]
  by_cases h1 : z = y
  · simp [h1]
  · by_cases h2 : z = x
    · simp [h1, h2]
    · simp [h1, h2]
noncomputable def CompJ2 (C : Cx) (k : Nat) (sc : Scope) (σ : Sto) (xi xv : Str) (items : List AV) (J : Nat → List AV → Om → Prop) (elt : PySem.Expr) : Prop :=
  ∀ (i : Nat) a acc om2 D, items[i]? = some a → om2 D = none → J i acc om2 →
    We C k sc ((σ.set xi (.dat (.int i))).set xv a) (om2.set D acc) elt (fun b om3 => ∃ om4, om3 = om4.set D acc ∧ om4 D = none ∧ J (i + 1) (acc ++ [b]) om4)
theorem comp_coreT {elt iter : PySem.Expr} {xi xv : Str} {pi pv pt pos cpos : Pos} {tk0 : Nat} {scope : Scope} {use : Option (Value → Sem Unit)} {Fin : List AV → Om → Prop} {A : Around} {env : Env} {s : Shared} {E : Value → Shared → Prop} {Q : Value → Shared → Prop}
    (bk : BlockOk sc scope) (hxi : scope.names.lookup xi = some .local ∨ scope.names.lookup xi = some .cell) (hxv : scope.names.lookup xv = some .local ∨ scope.names.lookup xv = some .cell)
    (y : Wi2 C k sc σ om iter (fun items om1 => ∃ J : Nat → List AV → Om → Prop, J 0 [] om1 ∧ (∀ i acc om2, J i acc om2 → acc.length ≤ i) ∧ CompJ2 C k (rl sc scope) (sigC scope σ) xi xv items J elt ∧ (∀ acc om2, J items.length acc om2 → Fin acc om2)))
    (hs : ∀ x, foldedSetIterable iter env x = pure x) (hA : AOk k A) (S : St C sc σ om env s.heap)
    (hQ : ∀ D acc om' h' tk C0 m, Fin acc om' → om' D = none → Step om s.heap (om'.set D acc) h' → OwnOk C.h0 (om'.set D acc) h' → s.heap.get? C0 = none → h'.Ns C0 m →
      compPost (MM C) A E use Q (.ref D) C0 (.ok .next) { s with heap := h', toks := tk }) :
    wpAny (MM C) A (comprehension (.ListComp elt [⟨.Tuple [.Name xi pi, .Name xv pv] tk0 pt, iter, [], 0⟩] scope pos) scope env cpos (newList []) false (eval iter env) use) Q E s := by
  have F := S.fro
  refine wpAny_comprehension_free rfl hs (closureFor_eq (comp_hf S bk)) bk.kind (fun z hz e => by have := bk.uniq z hz; rw [e] at this; exact this)
    (y A env s E _ hA S fun I fp wr Pt Stt Mid items om1 h2 tk ⟨J, hJ0, hJl, turn, done⟩ W it hst hlen hitem st O2 hnew hfo hfw hfs => comp_pre (S.step st O2) bk fun D cenv h4 hD1 S4 st4 ex24 hC0n hU3 => ?_)
  have hV : ∀ b, (CP cenv xi b ∨ CP cenv xv b) → h2.get? b = none := fun b q => q.elim (hU3 xi hxi b) (hU3 xv hxv b)
  have hU0 : ∀ b, CU (fun b => CP cenv xi b ∨ CP cenv xv b) wr b → s.heap.get? b = none := fun b q => q.elim (fun q => st.stay b (hV b q)) (hnew b)
  have nsU2 := CU.noSeq hV (it.fld 0 h2 hst)
  have hn0 := new0 S hnew
  have wsub : ∀ b ∈ wr, b ∈ fp := W.sub
  have ob := it.obj _ _ hst
  have hst4 : Stt 0 h4 := W.frame 0 _ _ hst fun b hb o e => ex24 b o e
  have loop : codeAny (MM C) A (.compLoop (.ListComp elt [⟨.Tuple [.Name xi pi, .Name xv pv] tk0 pt, iter, [], 0⟩] scope pos) 0 (.ref I) (.ref D) cenv) (compPost (MM C) A E use Q (.ref D) cenv.locals) { s with heap := h4, toks := tk } := by
    refine LCp.codeAny_compLoop_pair (CI C (rl sc scope) (fun τ => ∀ j a, (τ.set xi j).set xv a = ((sigC scope σ).set xi j).set xv a) items.length J (CU (fun b => CP cenv xi b ∨ CP cenv xv b) wr) om1 h2 D cenv Stt s) ?_ (items.length + 1)
      ⟨om1, h4, tk, [], 0, _, rfl, hJ0, hD1, Step.weak st4, S4, fun _ _ => rfl, hst4, Nat.zero_le _, rfl⟩
    rintro m s' ⟨om2, h5, tk5, acc, i, τ, rfl, hJ, hDn2, ef5, S5, hτ, hst5, hi, rfl⟩
    by_cases hlt : i < items.length
    · refine W.item i { s with heap := h5, toks := tk5 } _ _ hlt hst5 fun T vals h6 tk6 hP _ hT hMid hk6 => ?_
      refine W.go _ _ pt i T { s with heap := h6, toks := tk6 } _ _ hMid fun h6' hst6 hk6' => ?_
      replace hk6' : ∀ b o, b ∉ wr → h6.get? b = some o → h6'.get? b = some o := hk6'
      have hk66 : ∀ b o, b ∉ wr → h5.get? b = some o → h6'.get? b = some o := fun b o hb e => hk6' b o hb (hk6 b o hb e)
      have hT6 : h6'.IsTuple T vals := hT.at fun o e => hk6' T o (W.apart i T h6 hMid) e
      have e6 := but_ef (W := NoW) (om := om2.set D acc) hk66 (some_ne (it.obj _ _ hst6) wsub)
      have ef6 : Ef (CU (fun b => CP cenv xi b ∨ CP cenv xv b) wr) om1 h2 (om2.set D acc) h6' := ef5.trans (e6.weak fun b q => .inr q)
      have S6 := S5.but hk66 (it.fld _ _ hst5) hn0
      obtain ⟨a, t, v, ha, rfl, hr⟩ := hitem i vals _ _ h6' hP ef6 nsU2
      refine wpAny_assign_Tuple (s := { s with heap := h6', toks := tk6 }) hA.hd hT6 rfl rfl fun ha4 hx4 => ?_
      have ex4a : Ext h6' ha4 := fun b o e => hx4 b o (Nat.ne_of_lt (Heap.lt_size e)) e
      show wpAny _ A (do holding [v] (PySem.assign (.Name xi pi) cenv (.int i t)); do holding [] (PySem.assign (.Name xv pv) cenv v); pure ()) _ _ _
      refine wpAny_bind (wpAny_holding (wpAny_assign_Name (store_ok (a := .dat (.int i)) (s := { s with heap := ha4, toks := tk6 }) (S6.ext ex4a) (Kd_comp F.kind hxi) (Den.int _ _) fun pl hb5 tkb hp hs7a ef7a S7a => ?_)))
      replace hs7a : Heap.SameBut pl ha4 hb5 := hs7a
      replace ef7a : Ef (fun b => b = pl) (om2.set D acc) ha4 (om2.set D acc) hb5 := ef7a
      have nsP : NoSeq (fun b => b = pl) ha4 := by
        rintro b o rfl e vs n q
        exact (S6.ext ex4a).fro.noSeq b o (Wr_sub hp b rfl) e vs n q
      refine wpAny_bind (wpAny_holding (wpAny_assign_Name (store_ok (s := { s with heap := hb5, toks := tkb }) S7a (Kd_comp F.kind hxv) (ef7a.avr nsP (ex4a.step.avr hr)) fun pl2 h7 tk7 hp2 hs7 ef7 S7 => wpAny_pure ?_)))
      replace hs7 : Heap.SameBut pl2 hb5 h7 := hs7
      rw [hτ (.dat (.int i)) a] at S7
      have ef7' : Ef (CU (fun b => CP cenv xi b ∨ CP cenv xv b) wr) om1 h2 (om2.set D acc) h7 := ((ef6.trans (ex4a.step (om := om2.set D acc)).weak).trans (ef7a.weak fun b q => .inl (.inl (by subst q; exact hp)))).trans (ef7.weak fun b q => .inl (.inr (by subst q; exact hp2)))
      have hst7 : Stt (i + 1) h7 := W.frame _ _ _ hst6 fun b hb o e => hs7.extBut b o (fp_ne ob (hV _ (.inr hp2)) b hb) (hs7a.extBut b o (fp_ne ob (hV _ (.inl hp)) b hb) (ex4a b o e))
      have fr : ∀ om3 h8, Ef NoW (om2.set D acc) h7 om3 h8 → Stt (i + 1) h8 := fun om3 h8 ef8 => W.frame _ _ _ hst7 fun b hb o e => ef8.keep b o id (by
        obtain ⟨o', e'⟩ := ob b hb
        exact Ef.still ef7' (hfo b hb) e') e
      exact CI.elt hA fr ef7' S7 (fun j b => Sto.set2_set2) hlt (hJl _ _ _ hJ) hlen Ef.refl S7.own (turn i a acc om2 D ha hDn2 hJ) _
    · cases Nat.le_antisymm hi (Nat.le_of_not_lt hlt)
      refine W.done { s with heap := h5, toks := tk5 } _ _ hst5 fun h6 tk6 hk6 => ?_
      obtain ⟨d1, d2, m, d3⟩ := comp_done S5 ((Step.weak st).trans ef5) hk6 (it.fld _ _ hst5) hU0 (fun b q => .inr q) fun q => fp_ne ob hC0n _ (wsub _ q) rfl
      exact hQ D acc om2 h6 tk6 cenv.locals m (done acc om2 hJ) hDn2 d1 d2 (st.stay _ hC0n) d3
  exact codeAny_compStart_list loop (W.self 0 _ _ _ hst4 loop)
theorem We.compT {elt iter : PySem.Expr} {xi xv : Str} {pi pv pt pos : Pos} {tk0 : Nat} {scope : Scope} {Φ : AV → Om → Prop}
    (y : Wi2 C k sc σ om iter (fun items om1 => ∃ J : Nat → List AV → Om → Prop, J 0 [] om1 ∧ (∀ i acc om2, J i acc om2 → acc.length ≤ i) ∧ CompJ2 C k (rl sc scope) (sigC scope σ) xi xv items J elt ∧ (∀ acc om2, J items.length acc om2 → NewL om2 acc Φ)))
    (bk : blockOk sc scope = true) (hxi : scope.names.lookup xi = some .local ∨ scope.names.lookup xi = some .cell) (hxv : scope.names.lookup xv = some .local ∨ scope.names.lookup xv = some .cell)
    (hs : ∀ env x, foldedSetIterable iter env x = pure x := by intros; rfl) : We C k sc σ om (.ListComp elt [⟨.Tuple [.Name xi pi, .Name xv pv] tk0 pt, iter, [], 0⟩] scope pos) Φ := by
  intro A env s E Q hA S hQ
  rw [eval_ListComp]
  refine comp_coreT (use := none) (blockOk_ok bk) hxi hxv y (hs env) hA S fun D acc om' h' tk C0 m fin hD st O hC0 hm => ?_
  refine ⟨m, hm, fun h'' hs'' => ?_⟩
  have ns : NoSeq (fun b => b = C0) h' := by
    rintro b o rfl e vs n q
    obtain ⟨o', _, _, e1, e2, _⟩ := hm
    rw [e1] at e; cases e; rw [e2] at q; cases q
  have hk : ∀ b o, ¬ (b = C0) → h'.get? b = some o → h''.get? b = some o := fun b o hb e => hs''.extBut b o hb e
  refine fin_list (s := s) (tk1 := tk) fin hQ hD ⟨fun b o _ q1 q2 => ?_, fun b q => ?_, st.fresh⟩ (chg_own O hk ns)
  · exact hk b o (fun q => by subst q; rw [hC0] at q2; cases q2) (st.keep b o id q1 q2)
  · by_cases hb : b = C0
    · subst hb; exact hC0
    · exact st.stay b (by rwa [← hs''.2 b hb])
end
section
variable {C : Cx} {k : Nat} {om : Om} {Φ : AV → Om → Prop}
theorem shp_list {ds : List PyData} {n : Nat} (h : ∀ d ∈ ds, d.canLay0 = true ∧ d.depth ≤ n) : (PyData.list ds).canLay0 = true ∧ (PyData.list ds).depth ≤ n + 1 := by
  have key : ∀ ds : List PyData, (∀ d ∈ ds, d.canLay0 = true ∧ d.depth ≤ n) → PyData.canLayAll0 ds = true ∧ PyData.depthAll ds ≤ n := by
    intro ds
    induction ds with
    | nil => intro _; exact ⟨by rw [PyData.canLayAll0], by rw [PyData.depthAll]; (exact Nat.zero_le _)⟩
    | cons x r ih =>
      intro h
      obtain ⟨h1, h2⟩ := ih fun d hd => h d (.tail _ hd)
      obtain ⟨h3, h4⟩ := h x (.head _)
      exact ⟨by rw [PyData.canLayAll0, h1, h3]; rfl, by rw [PyData.depthAll]; lia⟩
  obtain ⟨h1, h2⟩ := key ds h
  exact ⟨by rw [PyData.canLay0]; exact h1, by rw [PyData.depth]; (exact Nat.lt_succ_of_le (by assumption))⟩
theorem shp_tuple {ds : List PyData} {n : Nat} (h : ∀ d ∈ ds, d.canLay0 = true ∧ d.depth ≤ n) : (PyData.tuple ds).canLay0 = true ∧ (PyData.tuple ds).depth ≤ n + 1 := by
  obtain ⟨h1, h2⟩ := shp_list h
  rw [PyData.canLay0] at h1
  rw [PyData.depth] at h2
  exact ⟨by rw [PyData.canLay0]; exact h1, by rw [PyData.depth]; exact h2⟩
theorem shp_int {i : Int} {n : Nat} : (PyData.int i).canLay0 = true ∧ (PyData.int i).depth ≤ n := ⟨by rw [PyData.canLay0], by rw [PyData.depth]; (exact Nat.zero_le _)⟩
theorem shaped_of {d : PyData} (h : d.canLay0 = true ∧ d.depth ≤ 64) : SeqAt.shaped d = true := by
  unfold SeqAt.shaped; rw [h.1, decide_eq_true h.2]; rfl
theorem shp_encZ {l : List Int} : (encZ l).canLay0 = true ∧ (encZ l).depth ≤ 1 := shp_list fun d hd => by
  obtain ⟨i, _, rfl⟩ := List.mem_map.mp hd; exact shp_int
theorem shaped_encZ {l : List Int} : SeqAt.shaped (encZ l) = true := shaped_of ⟨shp_encZ.1, Nat.le_trans shp_encZ.2 (by decide)⟩
theorem cmp_nil {l : List Int} : cmpV .Eq (.dat (encZ l)) (.dat (.list [])) = some (decide (l = [])) := by
  have h1 := shaped_encZ (l := l)
  have h2 := shaped_encZ (l := [])
  unfold encZ at *
  simp only [List.map_nil] at h2
  simp only [cmpV, cmpD, cmpS, h1, h2, Bool.and_true, if_true]
  cases l <;> simp [PyData.eqvAll]
noncomputable def rsSg (a b : List Int) : Int := if (a.length - 1) % 2 = 1 ∧ (b.length - 1) % 2 = 1 then -1 else 1
noncomputable def resq (n : Nat) (a b : List Int) (sg : Int) : Int := zcont a ^ (b.length - 1) * zcont b ^ (a.length - 1) * rr n (a.map fun x => x.fdiv (zcont a)) (b.map fun x => x.fdiv (zcont b)) 1 1 sg
noncomputable def resP (n : Nat) (a b : List Int) : Int := if a = [] ∨ b = [] then 0 else if a.length < b.length then resq n b a (rsSg b a) else resq n a b 1
noncomputable def rqOk (n : Nat) (a b : List Int) (sg : Int) : Prop := zcont a ≠ 0 ∧ zcont b ≠ 0 ∧ Sz 64 (zcont a) ∧ Sz 64 (zcont b) ∧ rrOk n (a.map fun x => x.fdiv (zcont a)) (b.map fun x => x.fdiv (zcont b)) 1 1 sg ∧ Sz 1000 (rr n (a.map fun x => x.fdiv (zcont a)) (b.map fun x => x.fdiv (zcont b)) 1 1 sg)
noncomputable def rsOk (n : Nat) (a b : List Int) : Prop := a.length ≤ 10 ∧ b.length ≤ 10 ∧ (a ≠ [] → b ≠ [] → if a.length < b.length then rqOk n b a (rsSg b a) else rqOk n a b 1)
structure rsPS (n : Nat) (om : Om) (Φ : AV → Om → Prop)  (σ1 : Sto) (om1 : Om) (a b : List Int) (sg : Int) : Prop where
  c0 : σ1 "a" = some (.dat (encZ a))
  c1 : σ1 "b" = some (.dat (encZ b))
  c2 : σ1 "sign" = some (.dat (.int sg))
  c3 : rqOk n a b sg
  c4 : om1 = om
  c5 : Φ (.dat (.int (resq n a b sg))) om
  c6 : a.length ≤ 10
  c7 : b.length ≤ 10
  c8 : 0 < a.length
  c9 : 0 < b.length
@[reducible] noncomputable def rsP (n : Nat) (om : Om) (Φ : AV → Om → Prop)  (σ1 : Sto) (om1 : Om) : Prop := ∃ a b sg, rsPS n om Φ σ1 om1 a b sg
set_option maxHeartbeats 2000000 in
theorem resultant_spec {n : Nat} {a b : List Int} (ok : rsOk n a b) (hΦ : Φ (.dat (.int (resP n a b))) om) : Wf C (k + 7) "resultant" om [.dat (encZ a), .dat (encZ b)] Φ := by
  refine Wf.intro (d := fnAt 22) (List.mem_of_getElem? (i := 16) (by kernel_rfl)) (names := ["a", "b"]) (by rintro pm code doc (_ | ⟨v1, _ | ⟨v2, _ | ⟨v3, r⟩⟩⟩) h <;> first | rfl | simp at h; done) rfl (by decide) (kd_of (by rfl)) ?_
  obtain ⟨ha10, hb10, ok⟩ := ok
  refine Wx.cons (Ws.ite (Wt.or (Wt.cmp (We.name (by rfl) (We.lst (Wl.nil ⟨by decide, .inl ⟨[], rfl, _, cmp_nil, ?_⟩⟩))))))
  by_cases ha : a = []
  · rw [decide_eq_true ha, if_pos rfl, if_pos rfl]
    refine Wx.cons (Ws.ret (We.cInt ?_))
    rw [resP, if_pos (.inl ha)] at hΦ
    exact hΦ
  rw [decide_eq_false ha, if_neg (by decide)]
  refine Wt.cmp (We.name (by rfl) (We.lst (Wl.nil ⟨by decide, .inl ⟨[], rfl, _, cmp_nil, ?_⟩⟩)))
  by_cases hb : b = []
  · rw [decide_eq_true hb, if_pos rfl]
    refine Wx.cons (Ws.ret (We.cInt ?_))
    rw [resP, if_pos (.inr hb)] at hΦ
    exact hΦ
  rw [decide_eq_false hb, if_neg (by decide)]
  have ok := ok ha hb
  have hap : 0 < a.length := List.length_pos_iff.mpr ha
  have hbp : 0 < b.length := List.length_pos_iff.mpr hb
  rw [resP, if_neg (fun q => q.elim ha hb)] at hΦ
  refine Wx.nil (Wx.cons (Ws.assign (We.cInt ?_) (.inl rfl)))
  refine Wx.consP ((rsP n om Φ)) ?_ ?_
  · refine Ws.ite (Wt.cmp (We.call (Wl.cons (We.name (by rfl) (Wl.nil (zdegree_spec (by simp; (exact Nat.le_trans (by assumption) (Nat.le_of_ble_eq_true rfl))) ?_)))) (by rfl) (has_of 3 (by kernel_rfl))))
    refine We.call (Wl.cons (We.name (by rfl) (Wl.nil (zdegree_spec (by simp; (exact Nat.le_trans (by assumption) (Nat.le_of_ble_eq_true rfl))) ⟨_, rfl, ?_⟩)))) (by rfl) (has_of 3 (by kernel_rfl))
    by_cases hlt : a.length < b.length
    · have : decide (((a.map PyData.int).length : Int) - 1 < ((b.map PyData.int).length : Int) - 1) = true := decide_eq_true (by simp; omega)
      rw [this, if_pos rfl]
      rw [if_pos hlt] at ok hΦ
      refine Wx.cons (Ws.swap (names := ["a", "b"]) (Wl.cons (We.name (by rfl) (Wl.cons (We.name (by rfl) (Wl.nil ⟨rfl, by decide, ?_⟩))))) (kd_of (by rfl)) (by intro env he; cases env; cases he; rfl))
      refine Wx.cons (Ws.assign (We.ifexp (Wt.and (Wt.cmp (We.mod (We.call (Wl.cons (We.name (by rfl) (Wl.nil (zdegree_spec (by simp; (exact Nat.le_trans (by assumption) (Nat.le_of_ble_eq_true rfl))) ?_)))) (by rfl) (has_of 3 (by kernel_rfl))))))) (.inl rfl))
      refine We.cInt ⟨_, _, rfl, rfl, by decide, We.cInt ⟨_, rfl, ?_⟩⟩
      rw [deg_odd hb]
      by_cases q1 : (b.length - 1) % 2 = 1
      · rw [decide_eq_true q1, if_pos rfl]
        refine Wt.cmp (We.mod (We.call (Wl.cons (We.name (by rfl) (Wl.nil (zdegree_spec (by simp; (exact Nat.le_trans (by assumption) (Nat.le_of_ble_eq_true rfl))) (We.cInt ⟨_, _, rfl, rfl, by decide, We.cInt ⟨_, rfl, ?_⟩⟩))))) (by rfl) (has_of 3 (by kernel_rfl))))
        rw [deg_odd ha]
        by_cases q2 : (a.length - 1) % 2 = 1
        · rw [decide_eq_true q2, if_pos rfl]
          refine We.neg (We.cInt ⟨_, rfl, Wx.nil ⟨rfl, b, a, _, by rfl, by rfl, by rfl, ?_, rfl, ?_, hb10, ha10, hbp, hap⟩⟩)
          · have := ok; rw [rsSg, if_pos ⟨q1, q2⟩] at this; exact this
          · have := hΦ; rw [rsSg, if_pos ⟨q1, q2⟩] at this; exact this
        · rw [decide_eq_false q2, if_neg (by decide)]
          refine We.cInt (Wx.nil ⟨rfl, b, a, _, by rfl, by rfl, by rfl, ?_, rfl, ?_, hb10, ha10, hbp, hap⟩)
          · have := ok; rw [rsSg, if_neg (fun q => q2 q.2)] at this; exact this
          · have := hΦ; rw [rsSg, if_neg (fun q => q2 q.2)] at this; exact this
      · rw [decide_eq_false q1, if_neg (by decide), if_neg (by decide)]
        refine We.cInt (Wx.nil ⟨rfl, b, a, _, by rfl, by rfl, by rfl, ?_, rfl, ?_, hb10, ha10, hbp, hap⟩)
        · have := ok; rw [rsSg, if_neg (fun q => q1 q.1)] at this; exact this
        · have := hΦ; rw [rsSg, if_neg (fun q => q1 q.1)] at this; exact this
    · have : decide (((a.map PyData.int).length : Int) - 1 < ((b.map PyData.int).length : Int) - 1) = false := decide_eq_false (by simp; (exact Nat.le_of_not_lt (by assumption)))
      rw [this, if_neg (by decide)]
      rw [if_neg hlt] at ok hΦ
      exact Wx.nil ⟨rfl, a, b, _, by rfl, by rfl, by rfl, ok, rfl, hΦ, ha10, hb10, hap, hbp⟩
  · rintro σ1 om1 ⟨a, b, sg, h1, h2, h3, ⟨hca, hcb, sca, scb, okr, sr⟩, rfl, hΦ, ha10, hb10, hap, hbp⟩
    have ea : ((a.map PyData.int).length : Int) - 1 = ((a.length - 1 : Nat) : Int) := by simp; lia
    have eb : ((b.map PyData.int).length : Int) - 1 = ((b.length - 1 : Nat) : Int) := by simp; lia
    refine Wx.cons (Ws.swap (names := ["one", "other"]) (Wl.cons (We.call (Wl.cons (We.name h1 (Wl.nil (zcontent_spec (by (exact Nat.le_trans (by assumption) (Nat.le_of_ble_eq_true rfl))) ?_)))) (by rfl) (has_of 10 (by kernel_rfl)))) (kd_of (by rfl)) (by intro env he; cases env; cases he; rfl))
    refine Wl.cons (We.call (Wl.cons (We.name h2 (Wl.nil (zcontent_spec (by (exact Nat.le_trans (by assumption) (Nat.le_of_ble_eq_true rfl))) (Wl.nil ⟨rfl, by decide, ?_⟩))))) (by rfl) (has_of 10 (by kernel_rfl)))
    refine Wx.cons (Ws.assign (We.mul (We.pow (We.name (by rfl) ?_))) (.inl rfl))
    refine We.call (Wl.cons (We.name h2 (Wl.nil (zdegree_spec (by simp; (exact Nat.le_trans (by assumption) (Nat.le_of_ble_eq_true rfl))) ⟨_, _, rfl, rfl, by simp; lia, ?_, ?_⟩)))) (by rfl) (has_of 3 (by kernel_rfl))
    · rw [eb]; exact bits_pow sca (by (clear ha10 hap hca hcb ea eb; lia))
    rw [eb, Int.toNat_natCast]
    refine We.pow (We.name (by rfl) ?_)
    refine We.call (Wl.cons (We.name h1 (Wl.nil (zdegree_spec (by simp; (exact Nat.le_trans (by assumption) (Nat.le_of_ble_eq_true rfl))) ⟨_, _, rfl, rfl, by simp; lia, ?_, ?_⟩)))) (by rfl) (has_of 3 (by kernel_rfl))
    · rw [ea]; exact bits_pow scb (by (clear hca hcb ea eb; lia))
    rw [ea, Int.toNat_natCast]
    have z1 : Sz 700 (zcont a ^ (b.length - 1)) := (sca.pow _).mono (by (clear ha10 hap hca hcb ea eb; lia))
    have z2 : Sz 700 (zcont b ^ (a.length - 1)) := (scb.pow _).mono (by (clear hca hcb ea eb; lia))
    refine ⟨_, _, rfl, rfl, mulOk_sz z1 z2 (by (exact Nat.le_add_left _ _)), ?_⟩
    refine Wx.cons (Ws.ret (We.mul (We.name (by rfl) ?_)))
    refine We.call (Wl.cons ?_) (by rfl) (has_of 15 (by kernel_rfl))
    refine We.call (Wl.cons (We.name h1 (Wl.cons (We.name (by rfl) (Wl.nil (divided_spec (by (exact Nat.le_trans (by assumption) (Nat.le_of_ble_eq_true rfl))) hca ?_)))))) (by rfl) (has_of 13 (by kernel_rfl))
    refine Wl.cons (We.call (Wl.cons (We.name h2 (Wl.cons (We.name (by rfl) (Wl.nil (divided_spec (by (exact Nat.le_trans (by assumption) (Nat.le_of_ble_eq_true rfl))) hcb ?_)))))) (by rfl) (has_of 13 (by kernel_rfl)))
    refine Wl.cons (We.name h3 (Wl.nil (row_resultant_spec (n := n) okr ⟨_, _, rfl, rfl, mulOk_sz (z1.mul z2) sr (by (exact Nat.le_add_left _ _)), hΦ⟩)))
end
section
variable {C : Cx} {k : Nat} {om : Om} {Φ : AV → Om → Prop}
noncomputable def rowL (n : Nat) (f : Nat → Int) : List AV := (List.range n).map fun j => .dat (.int (f j))
theorem rowL_len {n f} : (rowL n f).length = n := by simp [rowL]
theorem rowL_get {n f j} (h : j < n) : (rowL n f)[j]? = some (.dat (.int (f j))) := by simp [rowL, h]
theorem rowL_set {n f j x} : (rowL n f).set j (.dat (.int x)) = rowL n (fun i => if i = j then x else f i) := by
  apply List.ext_getElem?
  intro i
  rw [List.getElem?_set]
  by_cases hj : j = i
  · subst hj
    by_cases hl : j < n <;> simp [rowL, hl]
  · have : ¬ i = j := fun e => hj e.symm
    by_cases hl : i < n <;> simp [rowL, hl, hj, this]
structure MatAt (om : Om) (D : Addr) (n : Nat) (r : Nat → Addr) (M : Nat → Nat → Int) : Prop where
  top : om D = some ((List.range n).map fun i => .own (r i))
  row : ∀ i, i < n → om (r i) = some (rowL n (M i))
  inj : ∀ i j, i < n → j < n → r i = r j → i = j
  ne : ∀ i, i < n → r i ≠ D
theorem pyIx_nat {n i : Nat} (h : i < n) : pyIx n (i : Int) = some i := by unfold pyIx; rw [if_pos ⟨by lia, by lia⟩]; simp
theorem We.cell {sc : Scope} {σ : Sto} {x : Str} {D : Addr} {n : Nat} {r M} {e1 e2 : PySem.Expr} {p q1 q2 : Pos} (hx : σ x = some (.own D)) (m : MatAt om D n r M) (hn : n ≤ 1000)
    (y1 : We C k sc σ om e1 (fun b om1 => om1 = om ∧ ∃ i : Nat, b = .dat (.int i) ∧ i < n ∧ We C k sc σ om e2 (fun c om2 => om2 = om ∧ ∃ j : Nat, c = .dat (.int j) ∧ j < n ∧ Φ (.dat (.int (M i j))) om)))
    (hs : ∀ o v, subscripted e1 false o v = operate [o, v] (getItem o v) := by intros; rfl) (hs2 : ∀ o v, subscripted e2 false o v = operate [o, v] (getItem o v) := by intros; rfl)
    (hd : (x == ("__debug__" : Str)) = false := by decide) (hc : (x == ("__classdict__" : Str)) = false := by decide) : We C k sc σ om (.Subscript (.Subscript (.Name x p) e1 q1) e2 q2) Φ := by
  refine We.sub1 (We.sub1 (We.name hx (y1.mono ?_) hd hc) hs) hs2
  rintro b om1 ⟨rfl, i, rfl, hi, y2⟩
  refine ⟨_, (List.range n).map fun i => .own (r i), i, .own (r i), rfl, m.top, by simp; (exact Nat.le_trans (by assumption) (Nat.le_of_ble_eq_true rfl)), by rw [List.length_map, List.length_range]; exact pyIx_nat hi, by simp [hi], y2.mono ?_⟩
  rintro c om2 ⟨rfl, j, rfl, hj, h⟩
  exact ⟨_, rowL n (M i), j, _, rfl, m.row i hi, by rw [rowL_len]; (exact Nat.le_trans (by assumption) (Nat.le_of_ble_eq_true rfl)), by rw [rowL_len]; exact pyIx_nat hj, rowL_get hj, h⟩
theorem We.lenOwn {sc : Scope} {σ : Sto} {x : Str} {D : Addr} {l : List AV} {p fp pos : Pos} (hx : σ x = some (.own D)) (hl : om D = some l) (hn : l.length ≤ 2 ^ 20) (h : Φ (.dat (.int l.length)) om) (hf : sc.names.lookup (Str.ofString "len") = some .globalImplicit)
    (hd : (x == ("__debug__" : Str)) = false := by decide) (hc : (x == ("__classdict__" : Str)) = false := by decide) : We C k sc σ om (.Call (.Name (Str.ofString "len") fp) [.Name x p] [] pos) Φ :=
  We.bltB (Wl.cons (We.name hx (Wl.nil (Wc.len hl (by (exact Nat.le_trans (by assumption) (Nat.le_of_ble_eq_true rfl))) h)) hd hc)) hf (by decide) (by decide +kernel)
theorem pivot_spec {D : Addr} {n s : Nat} {r M} (m : MatAt om D n r M) (hn : n ≤ 100) (hs : s < n)
    (h1 : ∀ i, s ≤ i → i < n → M i s ≠ 0 → (∀ j, s ≤ j → j < i → M j s = 0) → Φ (.dat (.int i)) om) (h2 : (∀ i, s ≤ i → i < n → M i s = 0) → Φ (.dat .none) om) :
    Wf C (k + 1) "pivot_row" om [.own D, .dat (.int s)] Φ := by
  refine Wf.intro (d := fnAt 24) (List.mem_of_getElem? (i := 17) (by kernel_rfl)) (names := ["a", "step"]) (by rintro pm code doc (_ | ⟨v1, _ | ⟨v2, _ | ⟨v3, r⟩⟩⟩) h <;> first | rfl | simp at h; done) rfl (by decide) (kd_of (by rfl)) ?_
  refine Wx.cons (Ws.for (Wi.range2 (We.name (by rfl) (We.lenOwn (by rfl) m.top (by simp; (exact Nat.le_trans (by assumption) (Nat.le_of_ble_eq_true rfl))) ⟨s, n, rfl, by simp, by lia, by (exact Nat.le_trans (by assumption) (Nat.le_of_ble_eq_true rfl)), ?_⟩ (by rfl))) (by rfl)) (.inl rfl))
  refine ⟨fun i σ1 om1 => σ1 "a" = some (.own D) ∧ σ1 "step" = some (.dat (.int s)) ∧ om1 = om ∧ (∀ j, s ≤ j → j < s + i → M j s = 0), ⟨rfl, rfl, rfl, fun j q1 q2 => by lia⟩, ?_, ?_⟩
  · rintro i a σ1 om1 hi ⟨g1, g2, rfl, g4⟩
    have hlt : i < n - s := by
      have := (List.getElem?_eq_some_iff.mp hi).1
      simpa using this
    have ha : a = .dat (.int ((s + i : Nat) : Int)) := by
      rw [List.getElem?_map, List.getElem?_range hlt] at hi
      simpa using hi.symm
    subst ha
    refine Wx.cons (Ws.ite (Wt.cmp (We.cell (r := r) (M := M) (n := n) (D := D) g1 m (by (exact Nat.le_trans (by assumption) (Nat.le_of_ble_eq_true rfl))) (We.name (by rfl) ⟨rfl, s + i, rfl, by (clear hn; lia), We.name g2 ⟨rfl, s, rfl, hs, ?_⟩⟩))))
    refine We.cInt ⟨_, rfl, ?_⟩
    by_cases hz : M (s + i) s = 0
    · rw [hz]
      refine Wx.nil (Wx.nil ⟨g1, g2, rfl, fun j q1 q2 => ?_⟩)
      by_cases hj : j = s + i
      · rw [hj]; exact hz
      · exact g4 j q1 (by lia)
    · have : (M (s + i) s != 0) = true := by simpa using hz
      rw [this, if_pos rfl]
      exact Wx.cons (Ws.ret (We.name (by rfl) (h1 (s + i) (by (exact Nat.le_add_right _ _)) (by (clear hn; lia)) hz g4)))
  · rintro σ1 om1 ⟨g1, g2, rfl, g4⟩
    refine Wx.cons (Ws.ret (We.cNone (h2 fun i q1 q2 => g4 i q1 ?_)))
    simp; (clear hn q1; lia)
end
section
variable {C : Cx} {k : Nat} {om : Om} {Φ : AV → Om → Prop}
theorem MatAt.congr {D n r M M'} (m : MatAt om D n r M) (h : ∀ i j, i < n → j < n → M i j = M' i j) : MatAt om D n r M' :=
  ⟨m.top, fun i hi => by
    rw [m.row i hi]
    unfold rowL
    congr 1
    exact List.map_congr_left fun j hj => by rw [h i j hi (List.mem_range.mp hj)], m.inj, m.ne⟩
theorem MatAt.put {D n r M} (m : MatAt om D n r M) {i j : Nat} {x : Int} (hi : i < n) (hj : j < n) : MatAt (om.set (r i) ((rowL n (M i)).set j (.dat (.int x)))) D n r (fun i' j' => if i' = i ∧ j' = j then x else M i' j') := by
  refine ⟨?_, fun i' h' => ?_, m.inj, m.ne⟩
  · have := m.ne i hi
    simp only [Om.set, if_neg (fun e => this e.symm : ¬ D = r i)]
    exact m.top
  · by_cases e : i' = i
    · subst e
      simp only [Om.set, if_true, rowL_set, true_and]
    · have : ¬ r i' = r i := fun q => e (m.inj _ _ h' hi q)
      simp only [Om.set, if_neg this, e, false_and, if_false]
      exact m.row i' h'
noncomputable def bNew (s : Nat) (ah : Int) (M : Nat → Nat → Int) (i j : Nat) : Int := (M i j * M s s - M i s * M s j).fdiv ah
noncomputable def bSt (s : Nat) (ah : Int) (M : Nat → Nat → Int) (i j : Nat) : Int := if s < i then (if s < j then bNew s ah M i j else if j = s then 0 else M i j) else M i j
theorem Om.set_other {D b : Addr} {l} (h : b ≠ D) : om.set D l b = om b := by simp [Om.set, h]
structure stJ1 (om : Om) (D : Addr) (n s : Nat) (r : Nat → Addr) (M : Nat → Nat → Int) (ah : Int) (t : Nat) (σ1 : Sto) (om1 : Om) : Prop where
  c0 : σ1 "a" = some (.own D)
  c1 : σ1 "step" = some (.dat (.int s))
  c2 : σ1 "ahead" = some (.dat (.int ah))
  c3 : σ1 "lead" = some (.dat (.int (M s s)))
  c4 : MatAt om1 D n r (fun i j => if i < s + 1 + t then bSt s ah M i j else M i j)
  c5 : (∀ b, (∀ i, i < n → b ≠ r i) → om1 b = om b)
structure stJ2 (om : Om) (D : Addr) (n s : Nat) (r : Nat → Addr) (M : Nat → Nat → Int) (ah : Int) (i0 : Nat) (u : Nat) (σ2 : Sto) (om2 : Om) : Prop where
  c0 : σ2 "a" = some (.own D)
  c1 : σ2 "step" = some (.dat (.int s))
  c2 : σ2 "ahead" = some (.dat (.int ah))
  c3 : σ2 "lead" = some (.dat (.int (M s s)))
  c4 : σ2 "row" = some (.dat (.int i0))
  c5 : σ2 "first" = some (.dat (.int (M i0 s)))
  c6 : MatAt om2 D n r (fun i j => if i < i0 then bSt s ah M i j else if i = i0 ∧ s < j ∧ j < s + 1 + u then bNew s ah M i j else M i j)
  c7 : (∀ b, (∀ i, i < n → b ≠ r i) → om2 b = om b)
set_option maxHeartbeats 2000000 in
theorem step_spec {D : Addr} {n s : Nat} {r M} {ah : Int} (m : MatAt om D n r M) (hn : n ≤ 100) (hs : s < n) (hah : ah ≠ 0) (hz : ∀ i j, i < n → j < n → Sz 64 (M i j))
    (h : ∀ om', MatAt om' D n r (bSt s ah M) → (∀ b, (∀ i, i < n → b ≠ r i) → om' b = om b) → Φ (.dat .none) om') : Wf C (k + 1) "bareiss_step" om [.own D, .dat (.int s), .dat (.int ah)] Φ := by
  refine Wf.intro (d := fnAt 25) (List.mem_of_getElem? (i := 18) (by kernel_rfl)) (names := ["a", "step", "ahead"]) (by rintro pm code doc (_ | ⟨v1, _ | ⟨v2, _ | ⟨v3, _ | ⟨v4, r⟩⟩⟩⟩) h <;> first | rfl | simp at h; done) rfl (by decide) (kd_of (by rfl)) ?_
  refine Wx.cons (Ws.assign (We.cell (r := r) (M := M) (n := n) (D := D) (by rfl) m (by (exact Nat.le_trans (by assumption) (Nat.le_of_ble_eq_true rfl))) (We.name (by rfl) ⟨rfl, s, rfl, hs, We.name (by rfl) ⟨rfl, s, rfl, hs, ?_⟩⟩)) (.inl rfl))
  refine Wx.cons (Ws.for (Wi.range2 (We.add (We.name (by rfl) (We.cInt ⟨_, _, rfl, rfl, ?_⟩))) (by rfl)) (.inl rfl))
  refine We.lenOwn (by rfl) m.top (by simp; (exact Nat.le_trans (by assumption) (Nat.le_of_ble_eq_true rfl))) ⟨s + 1, n, rfl, by simp, by lia, by (exact Nat.le_trans (by assumption) (Nat.le_of_ble_eq_true rfl)), ?_⟩ (by rfl)
  refine ⟨(stJ1 om D n s r M ah), ⟨rfl, rfl, rfl, rfl, ?_, fun _ _ => rfl⟩, ?_, ?_⟩
  · refine m.congr fun i j hin hjn => ?_
    split
    · unfold bSt; rw [if_neg (by (exact Nat.not_le_of_lt (by assumption)))]
    · rfl
  · rintro t a σ1 om1 hi ⟨g1, g2, g3, g4, g5, g6⟩
    have hlt : t < n - (s + 1) := by
      have := (List.getElem?_eq_some_iff.mp hi).1
      simpa using this
    have ha : a = .dat (.int ((s + 1 + t : Nat) : Int)) := by
      rw [List.getElem?_map, List.getElem?_range hlt] at hi
      simpa using hi.symm
    subst ha
    have hi0 : s + 1 + t < n := by (clear hn hs hah; omega)
    generalize hi0e : s + 1 + t = i0 at *
    have hs0 : s < i0 := by lia
    refine Wx.cons (Ws.assign (We.cell (r := r) (n := n) (D := D) g1 g5 (by (exact Nat.le_trans (by assumption) (Nat.le_of_ble_eq_true rfl))) (We.name (by rfl) ⟨rfl, i0, rfl, hi0, We.name g2 ⟨rfl, s, rfl, hs, ?_⟩⟩)) (.inl rfl))
    rw [if_neg (by (exact Nat.lt_irrefl _))]
    refine Wx.cons ?_
    refine Ws.for (Wi.range2 (We.add (We.name g2 (We.cInt ⟨_, _, rfl, rfl, ?_⟩))) (by rfl)) (.inl rfl)
    refine We.lenOwn g1 g5.top (by simp; (exact Nat.le_trans (by assumption) (Nat.le_of_ble_eq_true rfl))) ⟨s + 1, n, rfl, by simp, by lia, by (exact Nat.le_trans (by assumption) (Nat.le_of_ble_eq_true rfl)), ?_⟩ (by rfl)
    refine ⟨(stJ2 om D n s r M ah i0), ⟨g1, g2, g3, g4, by rfl, by rfl, ?_, g6⟩, ?_, ?_⟩
    · refine g5.congr fun i j hin hjn => ?_
      by_cases q : i < i0
      · rw [if_pos q, if_pos q]
      · rw [if_neg q, if_neg q, if_neg (by lia)]
    · rintro u a σ2 om2 hj ⟨f1, f2, f3, f4, f5, f6, f7, f8⟩
      have hlt : u < n - (s + 1) := by
        have := (List.getElem?_eq_some_iff.mp hj).1
        simpa using this
      have ha : a = .dat (.int ((s + 1 + u : Nat) : Int)) := by
        rw [List.getElem?_map, List.getElem?_range hlt] at hj
        simpa using hj.symm
      subst ha
      have hj0 : s + 1 + u < n := by (clear hn hs hah hi0e hi0 hs0; omega)
      generalize hj0e : s + 1 + u = j0 at *
      have hsj : s < j0 := by lia
      refine Wx.cons (Ws.assignSub (We.fdiv (We.sub (We.mul (We.cell (r := r) (n := n) (D := D) f1 f7 (by (exact Nat.le_trans (by assumption) (Nat.le_of_ble_eq_true rfl))) (We.name f5 ⟨rfl, i0, rfl, hi0, We.name (by rfl) ⟨rfl, j0, rfl, hj0, ?_⟩⟩))))))
      rw [if_neg (by (exact Nat.lt_irrefl _)), if_neg (by lia)]
      refine We.name f4 ⟨_, _, rfl, rfl, mulOk_l (hz _ _ hi0 hj0), ?_⟩
      refine We.mul (We.name f6 (We.cell (r := r) (n := n) (D := D) f1 f7 (by (exact Nat.le_trans (by assumption) (Nat.le_of_ble_eq_true rfl))) (We.name f2 ⟨rfl, s, rfl, hs, We.name (by rfl) ⟨rfl, j0, rfl, hj0, ?_⟩⟩)))
      rw [if_pos hs0]
      have e1 : bSt s ah M s j0 = M s j0 := by unfold bSt; rw [if_neg (by (exact Nat.lt_irrefl _))]
      rw [e1]
      refine ⟨_, _, rfl, rfl, mulOk_l (hz _ _ hi0 hs), _, _, rfl, rfl, We.name f3 ⟨_, _, rfl, rfl, hah, ?_⟩⟩
      refine We.sub1 (We.name f1 (We.name f5 ⟨_, _, i0, .own (r i0), rfl, f7.top, by simp; (exact Nat.le_trans (by assumption) (Nat.le_of_ble_eq_true rfl)), by rw [List.length_map, List.length_range]; exact pyIx_nat hi0, by simp [hi0], ?_⟩))
      refine We.name (by rfl) ⟨r i0, _, _, rfl, rfl, f7.row i0 hi0, by (clear hn hs hah hi0e hi0 hs0 hlt hj0e hj0 hsj e1; lia), by rw [rowL_len]; (clear hn hs hah hi0e hi0 hs0 hlt hj0e hsj e1; lia), by rw [rowL_len]; (exact Nat.le_trans (by assumption) (Nat.le_of_ble_eq_true rfl)), ?_⟩
      rw [Int.toNat_natCast]
      refine Wx.nil ⟨f1, f2, f3, f4, f5, f6, ?_, fun b hb => ?_⟩
      · refine (f7.put hi0 hj0).congr fun i j hin hjn => ?_
        by_cases q : i = i0 ∧ j = j0
        · obtain ⟨rfl, rfl⟩ := q
          rw [if_pos ⟨rfl, rfl⟩, if_neg (by (exact Nat.lt_irrefl _)), if_pos ⟨rfl, hsj, by lia⟩]; rfl
        · rw [if_neg q]
          by_cases q1 : i < i0
          · rw [if_pos q1, if_pos q1]
          · rw [if_neg q1, if_neg q1]
            by_cases q2 : i = i0 ∧ s < j ∧ j < j0
            · rw [if_pos q2, if_pos ⟨q2.1, q2.2.1, by lia⟩]
            · rw [if_neg q2, if_neg (by lia)]
      · rw [Om.set_other (hb i0 hi0)]; exact f8 b hb
    · rintro σ2 om2 ⟨f1, f2, f3, f4, f5, f6, f7, f8⟩
      have hlen : ((List.range (n - (s + 1))).map fun i : Nat => AV.dat (.int ((s + 1 + i : Nat) : Int))).length = n - (s + 1) := by simp
      rw [hlen] at f7
      refine Wx.cons (Ws.assignSub (We.cInt ?_))
      refine We.sub1 (We.name f1 (We.name f5 ⟨_, _, i0, .own (r i0), rfl, f7.top, by simp; (exact Nat.le_trans (by assumption) (Nat.le_of_ble_eq_true rfl)), by rw [List.length_map, List.length_range]; exact pyIx_nat hi0, by simp [hi0], ?_⟩))
      refine We.name f2 ⟨r i0, _, _, rfl, rfl, f7.row i0 hi0, by lia, by rw [rowL_len]; (clear hn hah hlt hi0 hs0 hlen; lia), by rw [rowL_len]; (exact Nat.le_trans (by assumption) (Nat.le_of_ble_eq_true rfl)), ?_⟩
      rw [Int.toNat_natCast]
      refine Wx.nil ⟨f1, f2, f3, f4, ?_, fun b hb => ?_⟩
      · refine (f7.put hi0 hs).congr fun i j hin hjn => ?_
        by_cases q : i = i0 ∧ j = s
        · obtain ⟨rfl, rfl⟩ := q
          rw [if_pos ⟨rfl, rfl⟩, if_pos (by lia)]
          unfold bSt
          rw [if_pos hs0, if_neg (by (exact Nat.lt_irrefl _)), if_pos rfl]
        · rw [if_neg q]
          by_cases q1 : i < i0
          · rw [if_pos q1, if_pos (by lia)]
          · rw [if_neg q1]
            by_cases q2 : i = i0
            · subst q2
              rw [if_pos (show i < s + 1 + (t + 1) by lia)]
              unfold bSt
              rw [if_pos hs0]
              by_cases q3 : s < j
              · rw [if_pos ⟨rfl, q3, by (clear hn hs hah hlen hin hi0e hi0 hs0 q q1 q3; omega)⟩, if_pos q3]
              · rw [if_neg (by (clear hn hs hah hlt hlen hin hjn hi0 hs0 q q1; lia)), if_neg q3, if_neg (by (clear hn hs hah hlt hlen hin hjn hi0 hs0 q1 q3; lia))]
            · rw [if_neg (by (clear hn hs hah hlt hi0e hi0 hs0 hlen hin hjn q q1; lia)), if_neg (by lia)]
      · rw [Om.set_other (hb i0 hi0)]; exact f8 b hb
  · rintro σ1 om1 ⟨g1, g2, g3, g4, g5, g6⟩
    have hlen : ((List.range (n - (s + 1))).map fun i : Nat => AV.dat (.int ((s + 1 + i : Nat) : Int))).length = n - (s + 1) := by simp
    rw [hlen] at g5
    refine Wx.nil (h om1 (g5.congr fun i j hin hjn => ?_) g6)
    rw [if_pos (by (clear hn hah hlen hjn; omega))]
end
section
variable {C : Cx} {k : Nat} {om : Om} {Φ : AV → Om → Prop}
noncomputable def swp (i j : Nat) (M : Nat → Nat → Int) : Nat → Nat → Int := fun a => if a = i then M j else if a = j then M i else M a
noncomputable def DetQ (n : Nat) : Nat → Nat → (Nat → Nat → Int) → Int → Int → (Int → Prop) → Prop
  | 0, _, _, sg, ah, R => R (sg * ah)
  | f + 1, s, M, sg, ah, R => (∀ i j, i < n → j < n → Sz 64 (M i j)) ∧ ((∀ i, s ≤ i → i < n → M i s = 0) → R 0) ∧
      (∀ i, s ≤ i → i < n → M i s ≠ 0 → (∀ j, s ≤ j → j < i → M j s = 0) →
        DetQ n f (s + 1) (bSt s ah (if i = s then M else swp i s M)) (if i = s then sg else -sg) ((if i = s then M else swp i s M) s s) R)
noncomputable def rowE (n : Nat) (f : Nat → Int) : PyData := encZ ((List.range n).map f)
noncomputable def matE (n : Nat) (M : Nat → Nat → Int) : PyData := .list ((List.range n).map fun i => rowE n (M i))
theorem rowE_L {n f} : (((List.range n).map f).map PyData.int).map AV.dat = rowL n f := by simp [rowL]
theorem MatAt.swap {D : Addr} {n : Nat} {r M} (m : MatAt om D n r M) {i t : Nat} (hi : i < n) (ht : t < n) (hne : ¬ i = t) :
    MatAt ((om.set D (((List.range n).map fun a => AV.own (r a)).set i (.own (r t)))).set D ((((List.range n).map fun a => AV.own (r a)).set i (.own (r t))).set t (.own (r i)))) D n (fun a => if a = i then r t else if a = t then r i else r a) (swp i t M) := by
  have hD : ∀ a, a < n → (if a = i then r t else if a = t then r i else r a) ≠ D := fun a ha => by
    split
    · exact m.ne t ht
    · split
      · exact m.ne i hi
      · exact m.ne a ha
  refine ⟨?_, fun a ha => ?_, fun a b ha hb e => ?_, hD⟩
  · rw [Om.set_at]
    congr 1
    apply List.ext_getElem?
    intro a
    rw [List.getElem?_set, List.getElem?_set]
    simp only [List.length_set, List.length_map, List.length_range]
    by_cases q1 : t = a
    · subst q1
      rw [if_pos rfl, if_pos ht]
      rw [List.getElem?_map, List.getElem?_range ht]
      show _ = some (AV.own (if t = i then r t else if t = t then r i else r t))
      rw [if_neg (fun e => hne e.symm), if_pos rfl]
    · rw [if_neg q1]
      by_cases q2 : i = a
      · subst q2
        rw [if_pos rfl, if_pos hi, List.getElem?_map, List.getElem?_range hi]
        show _ = some (AV.own (if i = i then r t else if i = t then r i else r i))
        rw [if_pos rfl]
      · rw [if_neg q2]
        rw [List.getElem?_map, List.getElem?_map]
        by_cases hl : a < n
        · rw [List.getElem?_range hl]
          show some (AV.own (r a)) = some (AV.own (if a = i then r t else if a = t then r i else r a))
          rw [if_neg (fun e => q2 e.symm), if_neg (fun e => q1 e.symm)]
        · rw [List.getElem?_eq_none (by simp; (exact Nat.le_of_not_lt (by assumption)))]; rfl
  · rw [Om.set_other (hD a ha), Om.set_other (hD a ha)]
    unfold swp
    by_cases q1 : a = i
    · simp only [q1, if_true]; exact m.row t ht
    · by_cases q2 : a = t
      · rw [if_neg q1, if_pos q2, if_neg q1, if_pos q2]; exact m.row i hi
      · simp only [q1, q2, if_false]; exact m.row a ha
  · have key : ∀ a, a < n → ∃ a', a' < n ∧ (if a = i then r t else if a = t then r i else r a) = r a' ∧ a' = (if a = i then t else if a = t then i else a) := fun a ha => by
      by_cases q1 : a = i
      · exact ⟨t, ht, by simp [q1], by simp [q1]⟩
      · by_cases q2 : a = t
        · exact ⟨i, hi, by simp only [if_neg q1, if_pos q2], by simp only [if_neg q1, if_pos q2]⟩
        · exact ⟨a, ha, by simp [q1, q2], by simp [q1, q2]⟩
    obtain ⟨a', ha', e1, e2⟩ := key a ha
    obtain ⟨b', hb', e3, e4⟩ := key b hb
    have : a' = b' := m.inj _ _ ha' hb' (by rw [← e1, ← e3]; exact e)
    rw [e2, e4] at this
    by_cases q1 : a = i <;> by_cases q2 : a = t <;> by_cases q3 : b = i <;> by_cases q4 : b = t <;> simp_all <;> lia
@[reducible] noncomputable def dcJ (n : Nat) (M : Nat → Nat → Int) (i : Nat) (acc : List AV) (om2 : Om) : Prop := i ≤ n ∧ ∃ r : Nat → Addr, acc = (List.range i).map (fun t => AV.own (r t)) ∧ (∀ t, t < i → om2 (r t) = some (rowL n (M t))) ∧ (∀ a b, a < i → b < i → r a = r b → a = b)
structure dtJS (D : Addr) (n : Nat) (R : Int → Prop) (t : Nat) (σ1 : Sto) (om1 : Om) (sg ah : Int) (r : Nat → Addr) (M : Nat → Nat → Int) : Prop where
  c0 : σ1 "sign" = some (.dat (.int sg))
  c1 : σ1 "ahead" = some (.dat (.int ah))
  c2 : MatAt om1 D n r M
  c3 : DetQ n (n - t) t M sg ah R
  c4 : Sz 64 sg
  c5 : ah ≠ 0
@[reducible] noncomputable def dtJ (D : Addr) (n : Nat) (R : Int → Prop) (t : Nat) (σ1 : Sto) (om1 : Om) : Prop := σ1 "found" = some (.own D) ∧ ∃ sg ah r M, dtJS D n R t σ1 om1 sg ah r M
structure dtPS (D : Addr) (n t f : Nat) (ah : Int) (R : Int → Prop)  (σ2 : Sto) (om2 : Om) (r' : Nat → Addr) (M' : Nat → Nat → Int) (sg' : Int) : Prop where
  c0 : σ2 "found" = some (.own D)
  c1 : σ2 "step" = some (.dat (.int t))
  c2 : σ2 "sign" = some (.dat (.int sg'))
  c3 : σ2 "ahead" = some (.dat (.int ah))
  c4 : MatAt om2 D n r' M'
  c5 : DetQ n f (t + 1) (bSt t ah M') sg' (M' t t) R
  c6 : Sz 64 sg'
  c7 : M' t t ≠ 0
  c8 : (∀ i j, i < n → j < n → Sz 64 (M' i j))
@[reducible] noncomputable def dtP (D : Addr) (n t f : Nat) (ah : Int) (R : Int → Prop)  (σ2 : Sto) (om2 : Om) : Prop := ∃ r' M' sg', dtPS D n t f ah R σ2 om2 r' M' sg'
set_option maxHeartbeats 2000000 in
theorem determinant_spec {n : Nat} {M : Nat → Nat → Int} {R : Int → Prop} (hn : n ≤ 100) (q : DetQ n n 0 M 1 1 R) (hR : ∀ v om', R v → Φ (.dat (.int v)) om') : Wf C (k + 2) "determinant" om [.dat (matE n M)] Φ := by
  refine Wf.intro (d := fnAt 26) (List.mem_of_getElem? (i := 19) (by kernel_rfl)) (names := ["a"]) (by rintro pm code doc (_ | ⟨v1, _ | ⟨v2, r⟩⟩) h <;> first | rfl | simp at h; done) rfl (by decide) (kd_of (by rfl)) ?_
  refine Wx.cons (Ws.ite (Wt.cmp ?_))
  have hrow : ∀ a ∈ ((List.range n).map fun i => rowE n (M i)).map AV.dat, ∃ i, i < n ∧ a = .dat (rowE n (M i)) := by
    intro a ha
    simp only [List.map_map, List.mem_map, List.mem_range, Function.comp] at ha
    obtain ⟨i, hi, rfl⟩ := ha
    exact ⟨i, hi, rfl⟩
  refine We.compF (g := fun x => x) (p := fun _ => false) (Wi.list (We.name (by rfl) ⟨_, rfl, by simp; (exact Nat.le_trans (by assumption) (Nat.le_of_ble_eq_true rfl)), ?_, ?_, ?_⟩)) (by rfl) (.inl (by rfl))
  · intro a ha om'
    obtain ⟨i, hi, rfl⟩ := hrow a ha
    refine Wt.cmp (We.bLenD (We.name Sto.set_eq ⟨_, rfl, by simp; (exact Nat.le_trans (by assumption) (Nat.le_of_ble_eq_true rfl)), We.bLenD (We.name (by rfl) ⟨_, rfl, by simp; (exact Nat.le_trans (by assumption) (Nat.le_of_ble_eq_true rfl)), false, ?_, rfl, rfl⟩) (by rfl)⟩) (by rfl))
    simp [cmpV, cmpD, cmpI]
  · intro a ha h; cases h
  have e0 : ((((List.range n).map fun i => rowE n (M i)).map AV.dat).filter fun _ => false).map (fun x : AV => x) = ([] : List PyData).map AV.dat := by simp
  rw [e0]
  refine NewL.dat (We.lst (Wl.nil ⟨by decide, .inl ⟨[], rfl, false, rfl, ?_⟩⟩))
  rw [if_neg (by decide)]
  refine Wx.nil (Wx.cons ?_)
  refine Ws.swap (names := ["found", "sign", "ahead"]) (Wl.cons ?_) (kd_of (by rfl)) (by intro env he; cases env; cases he; rfl)
  refine We.comp (Wi.list (We.name (by rfl) ⟨_, rfl, by simp; (exact Nat.le_trans (by assumption) (Nat.le_of_ble_eq_true rfl)), ?_⟩)) (by rfl) (.inl (by rfl))
  refine ⟨(dcJ n M),
    ⟨Nat.zero_le _, fun _ => 0, rfl, fun t ht => absurd ht (Nat.not_lt_zero _), fun a b ha => absurd ha (Nat.not_lt_zero _)⟩, ?_, ?_, ?_⟩
  · rintro i acc om2 ⟨_, r, rfl, _⟩; simp
  · rintro i a acc om2 D hi hD ⟨hin, r, rfl, h1, h2⟩
    obtain ⟨i', hi', rfl⟩ := hrow a (List.mem_of_getElem? hi)
    have hlt : i < n := by have := (List.getElem?_eq_some_iff.mp hi).1; simpa using this
    have : i' = i ∨ rowE n (M i') = rowE n (M i) := by
      rw [List.getElem?_map, List.getElem?_map, List.getElem?_range hlt] at hi
      right; simpa using hi.symm
    have he : rowE n (M i') = rowE n (M i) := by rcases this with rfl | h; rfl; exact h
    rw [he]
    refine We.bList (We.name Sto.set_eq ⟨_, rfl, by simp; (exact Nat.le_trans (by assumption) (Nat.le_of_ble_eq_true rfl)), ?_⟩) (by rfl)
    rw [rowE_L]
    refine NewL.own fun c hc => ?_
    have hcD : c ≠ D := by rintro rfl; rw [Om.set_at] at hc; cases hc
    have hc2 : om2 c = none := by simpa [Om.set, hcD] using hc
    refine ⟨om2.set c (rowL n (M i)), ?_, ?_, ?_⟩
    · funext z; simp only [Om.set]
      by_cases q1 : z = c
      · have : ¬ z = D := fun e => hcD (q1.symm.trans e)
        simp [q1, hcD]
      · simp [q1]
    · rw [Om.set_other (Ne.symm hcD)]; exact hD
    · have hne : ∀ t, t < i → r t ≠ c := fun t ht e => by have := h1 t ht; rw [e, hc2] at this; cases this
      refine ⟨hlt, fun t => if t = i then c else r t, ?_, fun t ht => ?_, fun a b ha hb e => ?_⟩
      · rw [List.range_succ, List.map_append]
        congr 1
        · refine List.map_congr_left fun t ht => ?_
          have := List.mem_range.mp ht
          show AV.own (r t) = AV.own (if t = i then c else r t)
          rw [if_neg (by (exact Nat.ne_of_lt (by assumption)))]
        · simp
      · by_cases q1 : t = i
        · subst q1; simp only [if_true]; exact Om.set_at
        · simp only [if_neg q1]
          rw [Om.set_other (hne t (by lia))]
          exact h1 t (by lia)
      · by_cases q1 : a = i <;> by_cases q2 : b = i
        · (clear hn hin hi' hlt this ha hb; lia)
        · simp only [q1, q2, if_true, if_false] at e; exact absurd e.symm (hne b (by lia))
        · simp only [q1, q2, if_true, if_false] at e; exact absurd e (hne a (by lia))
        · simp only [q1, q2, if_false] at e; exact h2 a b (by lia) (by lia) e
  · rintro acc om2 ⟨_, r, rfl, h1, h2⟩
    have hlen : (((List.range n).map fun i => rowE n (M i)).map AV.dat).length = n := by simp
    rw [hlen] at h1 h2 ⊢
    refine NewL.own fun D hD => ?_
    have m0 : MatAt (om2.set D ((List.range n).map fun t => AV.own (r t))) D n r M := by
      have hne : ∀ t, t < n → r t ≠ D := fun t ht e => by have := h1 t ht; rw [e, hD] at this; cases this
      exact ⟨Om.set_at, fun i hi => by rw [Om.set_other (hne i hi)]; exact h1 i hi, h2, hne⟩
    generalize om2.set D ((List.range n).map fun t => AV.own (r t)) = om3 at m0
    refine Wl.cons (We.cInt (Wl.cons (We.cInt (Wl.nil ⟨rfl, by decide, ?_⟩))))
    refine Wx.cons (Ws.for (Wi.range1 (We.bLenD (We.name (by rfl) ⟨_, rfl, by simp; (exact Nat.le_trans (by assumption) (Nat.le_of_ble_eq_true rfl)), n, by simp, by (exact Nat.le_trans (by assumption) (Nat.le_of_ble_eq_true rfl)), ?_⟩) (by rfl)) (by rfl)) (.inl rfl))
    refine ⟨(dtJ D n R),
      ⟨rfl, 1, 1, r, M, rfl, rfl, m0, q, by unfold Sz; decide, by decide⟩, ?_, ?_⟩
    · rintro t a σ1 om1 hi ⟨g1, sg, ah, r, M, g2, g3, m, q, ssg, hah⟩
      have hlt : t < n := by
        have := (List.getElem?_eq_some_iff.mp hi).1
        simpa using this
      have ha : a = .dat (.int (t : Int)) := by
        rw [List.getElem?_map, List.getElem?_range hlt] at hi
        simpa using hi.symm
      subst ha
      obtain ⟨f, hf⟩ : ∃ f, n - t = f + 1 := ⟨n - t - 1, by lia⟩
      rw [hf, DetQ] at q
      obtain ⟨hsz, q0, q1⟩ := q
      refine Wx.cons (Ws.assign (We.call (Wl.cons (We.name g1 (Wl.cons (We.name (by rfl) (Wl.nil (pivot_spec m hn hlt (fun i hi1 hi2 hne hz => ?_) (fun hz => ?_))))))) (by rfl) (has_of 17 (by kernel_rfl))) (.inl rfl))
      · have q2 := q1 i hi1 hi2 hne hz
        refine Wx.cons (Ws.ite (Wt.cmp (We.name (by rfl) (We.cNone ⟨false, rfl, ?_⟩))))
        rw [if_neg (by decide)]
        refine Wx.nil (Wx.consP ((dtP D n t f ah R)) ?_ ?_)
        · refine Ws.ite (Wt.cmp (We.name (by rfl) (We.name (by rfl) ⟨_, rfl, ?_⟩)))
          by_cases hit : i = t
          · subst hit
            rw [if_neg (by simp)]
            rw [if_pos rfl, if_pos rfl] at q2
            exact Wx.nil ⟨rfl, r, M, sg, g1, by rfl, g2, g3, m, q2, ssg, hne, hsz⟩
          · have : ((i : Int) != (t : Int)) = true := by simp; (clear hn hlen hah hlt hf hi1 hi2 hne; lia)
            rw [this, if_pos rfl]
            rw [if_neg hit, if_neg hit] at q2
            refine Wx.cons (Ws.assignTT (Wl.cons (We.sub1 (We.name g1 (We.name (by rfl) ⟨_, _, t, .own (r t), rfl, m.top, by simp; (exact Nat.le_trans (by assumption) (Nat.le_of_ble_eq_true rfl)), by rw [List.length_map, List.length_range]; exact pyIx_nat hlt, by simp [hlt], ?_⟩)))) (by rfl) (by intro env he; cases env; cases he; rfl))
            refine Wl.cons (We.sub1 (We.name g1 (We.name (by rfl) ⟨_, _, i, .own (r i), rfl, m.top, by simp; (exact Nat.le_trans (by assumption) (Nat.le_of_ble_eq_true rfl)), by rw [List.length_map, List.length_range]; exact pyIx_nat hi2, by simp [hi2], Wl.nil ⟨rfl, by decide, ?_⟩⟩)))
            refine Wa.sub (We.name g1 (We.name (by rfl) ⟨D, i, _, rfl, rfl, m.top, by (clear hn hlen hah hlt hf hi1 hi2 hne hit; lia), by simp; omega, by simp; (exact Nat.le_trans (by assumption) (Nat.le_of_ble_eq_true rfl)), ?_⟩))
            refine Wa.sub (We.name g1 (We.name (by rfl) ⟨D, t, _, rfl, rfl, Om.set_at, by lia, by simp; omega, by simp; (exact Nat.le_trans (by assumption) (Nat.le_of_ble_eq_true rfl)), ?_⟩))
            refine Wx.cons (Ws.assign (We.neg (We.name g2 ⟨_, rfl, Wx.nil ⟨rfl, fun a => if a = i then r t else if a = t then r i else r a, swp i t M, -sg, g1, by rfl, by rfl, g3, ?_, q2, ssg.neg, ?_, ?_⟩⟩)) (.inl rfl))
            · rw [Int.toNat_natCast, Int.toNat_natCast]
              exact m.swap hi2 hlt hit
            · unfold swp; rw [if_neg (by (exact Ne.symm (by assumption))), if_pos rfl]; exact hne
            · intro a b ha hb
              unfold swp
              by_cases z1 : a = i
              · rw [if_pos z1]; exact hsz _ _ hlt hb
              · rw [if_neg z1]
                by_cases z2 : a = t
                · rw [if_pos z2]; exact hsz _ _ hi2 hb
                · rw [if_neg z2]; exact hsz _ _ ha hb
        · rintro σ2 om2 ⟨r', M', sg', f1, f2, f3, f4, m', q', ssg', hne', hsz'⟩
          refine Wx.cons (Ws.expr (We.call (Wl.cons (We.name f1 (Wl.cons (We.name f2 (Wl.cons (We.name f4 (Wl.nil (step_spec m' hn hlt hah hsz' fun om3 m3 _ => ⟨rfl, ?_⟩)))))))) (by rfl) (has_of 18 (by kernel_rfl))))
          refine Wx.cons (Ws.assign (We.cell (r := r') (M := bSt t ah M') (n := n) (D := D) f1 m3 (by (exact Nat.le_trans (by assumption) (Nat.le_of_ble_eq_true rfl))) (We.name f2 ⟨rfl, t, rfl, hlt, We.name f2 ⟨rfl, t, rfl, hlt, ?_⟩⟩)) (.inl rfl))
          have e1 : bSt t ah M' t t = M' t t := by unfold bSt; rw [if_neg (by (exact Nat.lt_irrefl _))]
          rw [e1]
          have e2 : n - (t + 1) = f := by lia
          exact Wx.nil ⟨f1, sg', M' t t, r', bSt t ah M', f3, by rfl, m3, by rw [e2]; exact q', ssg', hne'⟩
      · refine Wx.cons (Ws.ite (Wt.cmp (We.name (by rfl) (We.cNone ⟨true, rfl, ?_⟩))))
        rw [if_pos rfl]
        exact Wx.cons (Ws.ret (We.cInt (hR _ _ (q0 hz))))
    · rintro σ1 om1 ⟨g1, sg, ah, r, M, g2, g3, m, q, ssg, hah⟩
      have hlen : ((List.range n).map fun i : Nat => AV.dat (.int (i : Int))).length = n := by simp
      rw [hlen, Nat.sub_self, DetQ] at q
      exact Wx.cons (Ws.ret (We.mul (We.name g2 (We.name g3 ⟨_, _, rfl, rfl, mulOk_l ssg, hR _ _ q⟩))))
end
section
variable {C : Cx} {k : Nat} {om : Om} {Φ : AV → Om → Prop}
noncomputable def encQ (x : Rat) : PyData := .tuple [.int x.num, .int x.den]
noncomputable def SzQ (n : Nat) (x : Rat) : Prop := Sz n x.num ∧ Sz n (x.den : Int)
theorem SzQ.mono {m n x} (h : SzQ m x) (hm : m ≤ n) : SzQ n x := ⟨h.1.mono hm, h.2.mono hm⟩
theorem fdiv_gcd_pos {a b : Int} (hb : 0 < b) : a.fdiv (Int.gcd a b) = (Rat.divInt a b).num ∧ b.fdiv (Int.gcd a b) = ((Rat.divInt a b).den : Int) := by
  rw [Rat.num_divInt, Rat.den_divInt, if_neg (by lia), Int.sign_eq_one_of_pos hb, Int.one_mul, Int.gcd_comm b a]
  refine ⟨Int.fdiv_eq_ediv_of_nonneg _ (by lia), ?_⟩
  rw [Int.fdiv_eq_ediv_of_nonneg _ (by lia), Int.natCast_ediv, Int.natAbs_of_nonneg (by lia)]
theorem fdiv_gcd_neg {a b : Int} (hb : b < 0) : a.fdiv (0 - (Int.gcd a b : Int)) = (Rat.divInt a b).num ∧ b.fdiv (0 - (Int.gcd a b : Int)) = ((Rat.divInt a b).den : Int) := by
  rw [Rat.num_divInt, Rat.den_divInt, if_neg (by lia), Int.sign_eq_neg_one_of_neg hb, Int.gcd_comm b a]
  have g0 : (Int.gcd a b : Int) ≠ 0 := by
    have := Int.gcd_eq_zero_iff (a := a) (b := b)
    intro e; have := this.mp (by lia); lia
  obtain ⟨c, hc⟩ : (Int.gcd a b : Int) ∣ a := Int.gcd_dvd_left ..
  obtain ⟨d, hd⟩ : (Int.gcd a b : Int) ∣ b := Int.gcd_dvd_right ..
  generalize Int.gcd a b = g at *
  have n0 : (0 - (g : Int)) ≠ 0 := by lia
  constructor
  · rw [show a = (0 - (g : Int)) * (-c) by rw [hc]; grind, Int.mul_fdiv_cancel_left _ n0]
    rw [show -1 * ((0 - (g : Int)) * -c) = (g : Int) * (-c) by grind, Int.mul_ediv_cancel_left _ g0]
  · rw [Int.natCast_ediv, show b = (0 - (g : Int)) * (-d) by rw [hd]; grind, Int.mul_fdiv_cancel_left _ n0]
    have hd0 : 0 ≤ -d := by
      rcases Int.le_total 0 (-d) with h | h
      · exact h
      · have h1 : 0 ≤ (g : Int) * d := Int.mul_nonneg (by (clear hb g0 hc hd n0 h; lia)) (by lia)
        lia
    rw [show (((0 - (g : Int)) * -d).natAbs : Int) = (g : Int) * (-d) by
      rw [show (0 - (g : Int)) * -d = -((g : Int) * (-d)) by grind, Int.natAbs_neg, Int.natAbs_of_nonneg (Int.mul_nonneg (by (clear hb g0 hc hd n0 hd0; lia)) hd0)]]
    rw [Int.mul_ediv_cancel_left _ g0]
theorem rat_spec {a b : Int} (hb : b ≠ 0) (h : Φ (.dat (encQ (Rat.divInt a b))) om) : Wf C (k + 2) "rat" om [.dat (.int a), .dat (.int b)] Φ := by
  refine Wf.intro (d := fnAt 30) (List.mem_of_getElem? (i := 20) (by kernel_rfl)) (names := ["top", "bottom"]) (by rintro pm code doc (_ | ⟨v1, _ | ⟨v2, _ | ⟨v3, r⟩⟩⟩) h <;> first | rfl | simp at h; done) rfl (by decide) (kd_of (by rfl)) ?_
  refine Wx.cons (Ws.ite (Wt.cmp (We.name (by rfl) (We.cInt ⟨_, rfl, ?_⟩))))
  have : (b == 0) = false := by simpa using hb
  rw [this, if_neg (by decide)]
  refine Wx.nil (Wx.cons (Ws.assign (We.ifexp (Wt.cmp (We.name (by rfl) (We.cInt ⟨_, rfl, ?_⟩)))) (.inl rfl)))
  by_cases hp : 0 < b
  · rw [decide_eq_true hp, if_pos rfl]
    refine We.call (Wl.cons (We.name (by rfl) (Wl.cons (We.name (by rfl) (Wl.nil (gcd_spec ?_)))))) (by rfl) (has_of 0 (by kernel_rfl))
    obtain ⟨e1, e2⟩ := fdiv_gcd_pos (a := a) hp
    have g0 : (Int.gcd a b : Int) ≠ 0 := by
      have := Int.gcd_eq_zero_iff (a := a) (b := b)
      intro e; have := this.mp (by (clear hb hp e1 e2 this; lia)); (clear hb e1 e2 e; lia)
    refine Wx.cons (Ws.ret (We.tup (Wl.cons (We.fdiv (We.name (by rfl) (We.name (by rfl) ⟨_, _, rfl, rfl, g0, ?_⟩))))))
    refine Wl.cons (We.fdiv (We.name (by rfl) (We.name (by rfl) ⟨_, _, rfl, rfl, g0, Wl.nil ⟨[_, _], rfl, by simp, ?_⟩⟩)))
    rw [e1, e2]; exact h
  · rw [decide_eq_false hp, if_neg (by decide)]
    refine We.sub (We.cInt (We.call (Wl.cons (We.name (by rfl) (Wl.cons (We.name (by rfl) (Wl.nil (gcd_spec ⟨_, _, rfl, rfl, ?_⟩)))))) (by rfl) (has_of 0 (by kernel_rfl))))
    obtain ⟨e1, e2⟩ := fdiv_gcd_neg (a := a) (b := b) (by lia)
    have g0 : 0 - (Int.gcd a b : Int) ≠ 0 := by
      have := Int.gcd_eq_zero_iff (a := a) (b := b)
      intro e; have := this.mp (by (clear hb hp e1 e2 this; lia)); (clear hp e1 e2 e; lia)
    refine Wx.cons (Ws.ret (We.tup (Wl.cons (We.fdiv (We.name (by rfl) (We.name (by rfl) ⟨_, _, rfl, rfl, g0, ?_⟩))))))
    refine Wl.cons (We.fdiv (We.name (by rfl) (We.name (by rfl) ⟨_, _, rfl, rfl, g0, Wl.nil ⟨[_, _], rfl, by simp, ?_⟩⟩)))
    rw [e1, e2]; exact h
theorem SzQ.muls {m n : Nat} {x y : Rat} (h : SzQ m x) (h' : SzQ n y) (hs : m + n ≤ 100000000) : IntMulOk x.num y.num ∧ IntMulOk x.num (y.den : Int) ∧ IntMulOk (x.den : Int) y.num ∧ IntMulOk (x.den : Int) (y.den : Int) :=
  ⟨mulOk_sz h.1 h'.1 hs, mulOk_sz h.1 h'.2 hs, mulOk_sz h.2 h'.1 hs, mulOk_sz h.2 h'.2 hs⟩
theorem We.num {sc : Scope} {σ : Sto} {x : Str} {r : Rat} {p p2 pos : Pos} {kd} (hx : σ x = some (.dat (encQ r))) (h : Φ (.dat (.int r.num)) om) (hd : (x == ("__debug__" : Str)) = false := by decide) (hc : (x == ("__classdict__" : Str)) = false := by decide) :
    We C k sc σ om (.Subscript (.Name x p) (.Constant (.int 0) kd p2) pos) Φ :=
  We.subN (We.name hx (We.cInt ⟨_, 0, _, .inr rfl, rfl, rfl, by simp, h⟩) hd hc)
theorem We.den {sc : Scope} {σ : Sto} {x : Str} {r : Rat} {p p2 pos : Pos} {kd} (hx : σ x = some (.dat (encQ r))) (h : Φ (.dat (.int (r.den : Int))) om) (hd : (x == ("__debug__" : Str)) = false := by decide) (hc : (x == ("__classdict__" : Str)) = false := by decide) :
    We C k sc σ om (.Subscript (.Name x p) (.Constant (.int 1) kd p2) pos) Φ :=
  We.subN (We.name hx (We.cInt ⟨_, 1, _, .inr rfl, rfl, rfl, by simp, h⟩) hd hc)
theorem den_ne (x : Rat) : (x.den : Int) ≠ 0 := by have := x.den_nz; lia
theorem radd_eq (a b : Rat) : Rat.divInt (a.num * b.den + b.num * a.den) (a.den * b.den) = a + b := by
  rw [Rat.add_def', ← Rat.divInt_ofNat, Int.natCast_mul]
theorem rsub_eq (a b : Rat) : Rat.divInt (a.num * b.den - b.num * a.den) (a.den * b.den) = a - b := by
  rw [Rat.sub_def', ← Rat.divInt_ofNat, Int.natCast_mul]
theorem rmul_eq (a b : Rat) : Rat.divInt (a.num * b.num) (a.den * b.den) = a * b := by
  rw [Rat.mul_def', ← Rat.divInt_ofNat, Int.natCast_mul]
theorem rdiv_eq (a b : Rat) : Rat.divInt (a.num * b.den) (a.den * b.num) = a / b := by
  rw [Rat.div_def, Rat.inv_def, ← Rat.divInt_mul_divInt, Rat.num_divInt_den]
theorem rinv_eq (a : Rat) : Rat.divInt (a.den : Int) a.num = a⁻¹ := (Rat.inv_def a).symm
theorem radd_spec {a b : Rat} {m n : Nat} (ha : SzQ m a) (hb : SzQ n b) (hs : m + n ≤ 100000000) (h : Φ (.dat (encQ (a + b))) om) : Wf C (k + 3) "radd" om [.dat (encQ a), .dat (encQ b)] Φ := by
  refine Wf.intro (d := fnAt 31) (List.mem_of_getElem? (i := 21) (by kernel_rfl)) (names := ["a", "b"]) (by rintro pm code doc (_ | ⟨v1, _ | ⟨v2, _ | ⟨v3, r⟩⟩⟩) h <;> first | rfl | simp at h; done) rfl (by decide) (kd_of (by rfl)) ?_
  obtain ⟨z1, z2, z3, z4⟩ := ha.muls hb hs
  obtain ⟨y1, y2, y3, y4⟩ := hb.muls ha (by lia)
  refine Wx.cons (Ws.ret (We.call (Wl.cons (We.add (We.mul (We.num (by rfl) (We.den (by rfl) ⟨_, _, rfl, rfl, z2, ?_⟩))))) (by rfl) (has_of 20 (by kernel_rfl))))
  refine We.mul (We.num (by rfl) (We.den (by rfl) ⟨_, _, rfl, rfl, y2, _, _, rfl, rfl, ?_⟩))
  refine Wl.cons (We.mul (We.den (by rfl) (We.den (by rfl) ⟨_, _, rfl, rfl, z4, Wl.nil (rat_spec (Int.mul_ne_zero (den_ne a) (den_ne b)) ?_)⟩)))
  rw [radd_eq]; exact h
theorem rsub_spec {a b : Rat} {m n : Nat} (ha : SzQ m a) (hb : SzQ n b) (hs : m + n ≤ 100000000) (h : Φ (.dat (encQ (a - b))) om) : Wf C (k + 3) "rsub" om [.dat (encQ a), .dat (encQ b)] Φ := by
  refine Wf.intro (d := fnAt 32) (List.mem_of_getElem? (i := 22) (by kernel_rfl)) (names := ["a", "b"]) (by rintro pm code doc (_ | ⟨v1, _ | ⟨v2, _ | ⟨v3, r⟩⟩⟩) h <;> first | rfl | simp at h; done) rfl (by decide) (kd_of (by rfl)) ?_
  obtain ⟨z1, z2, z3, z4⟩ := ha.muls hb hs
  obtain ⟨y1, y2, y3, y4⟩ := hb.muls ha (by lia)
  refine Wx.cons (Ws.ret (We.call (Wl.cons (We.sub (We.mul (We.num (by rfl) (We.den (by rfl) ⟨_, _, rfl, rfl, z2, ?_⟩))))) (by rfl) (has_of 20 (by kernel_rfl))))
  refine We.mul (We.num (by rfl) (We.den (by rfl) ⟨_, _, rfl, rfl, y2, _, _, rfl, rfl, ?_⟩))
  refine Wl.cons (We.mul (We.den (by rfl) (We.den (by rfl) ⟨_, _, rfl, rfl, z4, Wl.nil (rat_spec (Int.mul_ne_zero (den_ne a) (den_ne b)) ?_)⟩)))
  rw [rsub_eq]; exact h
theorem rmul_spec {a b : Rat} {m n : Nat} (ha : SzQ m a) (hb : SzQ n b) (hs : m + n ≤ 100000000) (h : Φ (.dat (encQ (a * b))) om) : Wf C (k + 3) "rmul" om [.dat (encQ a), .dat (encQ b)] Φ := by
  refine Wf.intro (d := fnAt 33) (List.mem_of_getElem? (i := 23) (by kernel_rfl)) (names := ["a", "b"]) (by rintro pm code doc (_ | ⟨v1, _ | ⟨v2, _ | ⟨v3, r⟩⟩⟩) h <;> first | rfl | simp at h; done) rfl (by decide) (kd_of (by rfl)) ?_
  obtain ⟨z1, z2, z3, z4⟩ := ha.muls hb hs
  refine Wx.cons (Ws.ret (We.call (Wl.cons (We.mul (We.num (by rfl) (We.num (by rfl) ⟨_, _, rfl, rfl, z1, ?_⟩)))) (by rfl) (has_of 20 (by kernel_rfl))))
  refine Wl.cons (We.mul (We.den (by rfl) (We.den (by rfl) ⟨_, _, rfl, rfl, z4, Wl.nil (rat_spec (Int.mul_ne_zero (den_ne a) (den_ne b)) ?_)⟩)))
  rw [rmul_eq]; exact h
theorem num_ne {x : Rat} (h : x ≠ 0) : x.num ≠ 0 := fun e => h (Rat.num_eq_zero.mp e)
theorem rdiv_spec {a b : Rat} {m n : Nat} (ha : SzQ m a) (hb : SzQ n b) (hs : m + n ≤ 100000000) (hb0 : b ≠ 0) (h : Φ (.dat (encQ (a / b))) om) : Wf C (k + 3) "rdiv" om [.dat (encQ a), .dat (encQ b)] Φ := by
  refine Wf.intro (d := fnAt 34) (List.mem_of_getElem? (i := 24) (by kernel_rfl)) (names := ["a", "b"]) (by rintro pm code doc (_ | ⟨v1, _ | ⟨v2, _ | ⟨v3, r⟩⟩⟩) h <;> first | rfl | simp at h; done) rfl (by decide) (kd_of (by rfl)) ?_
  obtain ⟨z1, z2, z3, z4⟩ := ha.muls hb hs
  refine Wx.cons (Ws.ret (We.call (Wl.cons (We.mul (We.num (by rfl) (We.den (by rfl) ⟨_, _, rfl, rfl, z2, ?_⟩)))) (by rfl) (has_of 20 (by kernel_rfl))))
  refine Wl.cons (We.mul (We.den (by rfl) (We.num (by rfl) ⟨_, _, rfl, rfl, z3, Wl.nil (rat_spec (Int.mul_ne_zero (den_ne a) (num_ne hb0)) ?_)⟩)))
  rw [rdiv_eq]; exact h
theorem rneg_spec {a : Rat} (h : Φ (.dat (encQ (-a))) om) : Wf C (k + 1) "rneg" om [.dat (encQ a)] Φ := by
  refine Wf.intro (d := fnAt 35) (List.mem_of_getElem? (i := 25) (by kernel_rfl)) (names := ["a"]) (by rintro pm code doc (_ | ⟨v1, _ | ⟨v2, r⟩⟩) h <;> first | rfl | simp at h; done) rfl (by decide) (kd_of (by rfl)) ?_
  refine Wx.cons (Ws.ret (We.tup (Wl.cons (We.sub (We.cInt (We.num (by rfl) ⟨_, _, rfl, rfl, Wl.cons (We.den (by rfl) (Wl.nil ⟨[_, _], rfl, by simp, ?_⟩))⟩))))))
  have : 0 - a.num = -a.num := by lia
  rw [this]; exact h
theorem rinv_spec {a : Rat} (ha : a ≠ 0) (h : Φ (.dat (encQ a⁻¹)) om) : Wf C (k + 3) "rinv" om [.dat (encQ a)] Φ := by
  refine Wf.intro (d := fnAt 36) (List.mem_of_getElem? (i := 26) (by kernel_rfl)) (names := ["a"]) (by rintro pm code doc (_ | ⟨v1, _ | ⟨v2, r⟩⟩) h <;> first | rfl | simp at h; done) rfl (by decide) (kd_of (by rfl)) ?_
  refine Wx.cons (Ws.ret (We.call (Wl.cons (We.den (by rfl) (Wl.cons (We.num (by rfl) (Wl.nil (rat_spec (num_ne ha) ?_)))))) (by rfl) (has_of 20 (by kernel_rfl))))
  rw [rinv_eq]; exact h
theorem We.gl {sc : Scope} {σ : Sto} {x : Str} {pos : Pos} {d : PyData} (hg : ∃ v, C.mg x = some v ∧ Den (fun _ => none) C.h0 v d) (hf : sc.names.lookup x = some .globalImplicit) (h : Φ (.dat d) om)
    (hd : (x == ("__debug__" : Str)) = false := by decide) : We C k sc σ om (.Name x pos) Φ := by
  intro A env s E Q hA S hQ
  obtain ⟨v, e1, e2⟩ := hg
  refine Name_function_global (by rw [S.fro.scope]; exact S.fro.kind) (by show env.scope.names.lookup x = _; rw [S.fro.scope]; exact hf) (loadGlobal_global (mg := C.mg) (by rw [S.fro.glob]; exact C.g.keeps S.fro.base) e1 ?_) hd
  exact hQ v (.dat d) om s.heap s.toks h (Ef.refl) S.own (Den.mono (fun b o _ _ e => ⟨S.own.base e, S.fro.base b o e⟩) e2)
theorem r0_enc : r0D = encQ 0 := rfl
theorem r1_enc : r1D = encQ 1 := rfl
theorem We.g0 {sc : Scope} {σ : Sto} {pos : Pos} (hf : sc.names.lookup (Str.ofString "R0") = some .globalImplicit) (h : Φ (.dat (encQ 0)) om) : We C k sc σ om (.Name "R0" pos) Φ := We.gl C.r0 hf (r0_enc ▸ h)
theorem We.g1 {sc : Scope} {σ : Sto} {pos : Pos} (hf : sc.names.lookup (Str.ofString "R1") = some .globalImplicit) (h : Φ (.dat (encQ 1)) om) : We C k sc σ om (.Name "R1" pos) Φ := We.gl C.r1 hf (r1_enc ▸ h)
end
section
variable {C : Cx} {k : Nat} {om : Om} {Φ : AV → Om → Prop}
theorem We.append {sc : Scope} {σ : Sto} {x : Str} {D : Addr} {l : List AV} {e : PySem.Expr} {p apos pos : Pos} (hx : σ x = some (.own D)) (hl : om D = some l)
    (y : We C k sc σ om e (fun a om1 => om1 D = some l ∧ l.length ≤ 2 ^ 20 ∧ Φ (.dat .none) (om1.set D (l ++ [a]))))
    (hline : (apos.endLine == pos.line) = true := by rfl) (hs : ∀ env, starEach [e] env = [(false, eval e env)] := by intros; rfl)
    (hd : (x == ("__debug__" : Str)) = false := by decide) (hc : (x == ("__classdict__" : Str)) = false := by decide) :
    We C k sc σ om (.Call (.Attribute (.Name x p) (Str.ofString "append") apos) [e] [] pos) Φ := by
  intro A env s E Q hA S hQ
  refine wpAny_Call_method (T := "list") (id := "list.append") rfl (by rw [hs]; rfl) hline F.plainAttrs_list slot_list_append type_list_append ?_
  refine (We.name (pos := p) hx (Φ := fun a om1 => a = .own D ∧ om1 = om) ⟨rfl, rfl⟩ hd hc).bind hA S fun v a om1 h1 tk1 ⟨e1, e2⟩ st1 S1 ra => ?_
  subst e1; subst e2
  have ra' : v = .ref D := ra
  subst ra'
  obtain ⟨vs, n, q1, q2⟩ := S1.own.at' D l hl
  refine ⟨⟨_, q1, rfl⟩, fun a e => by cases e; exact ⟨_, q1, rfl⟩, ?_⟩
  have WL : Wl C k sc σ om1 [e] (fun as om2 => ∃ a, as = [a] ∧ om2 D = some l ∧ l.length ≤ 2 ^ 20 ∧ Φ (.dat .none) (om2.set D (l ++ [a]))) := Wl.cons (y.mono fun a om2 h => Wl.nil ⟨a, rfl, h⟩) (fun env => by rw [hs]; rfl)
  refine callWith_method1 (WL A env pos { s with heap := h1, toks := tk1 } E _ hA S1 fun vs as om2 h2 tk2 ⟨a, hc, hl2, hn, y⟩ st2 O2 ra2 => ?_) (by rw [hs]; rfl) (by intros; rfl)
  subst hc
  cases ra2 with
  | cons r1 r2 =>
    cases r2
    refine append_own (s := { s with heap := h2, toks := tk2 }) O2 hl2 hn r1 fun h3 st3 O3 => ?_
    exact hQ .none (.dat .none) _ h3 tk2 y ((st1.trans st2).trans st3) O3 .none
theorem We.freeze {sc : Scope} {σ : Sto} {e : PySem.Expr} (x : We C k sc σ om e (fun a om1 => ∃ D ds, a = .own D ∧ om1 D = some (ds.map .dat) ∧ Φ (.dat (.list ds)) (om1.del D))) : We C k sc σ om e Φ :=
  fun A env s E Q hA S hQ => x A env s E Q hA S fun v a om' h' tk ⟨D, ds, e1, e2, hΦ⟩ st O r => hQ v _ _ h' tk hΦ (st.trans freeze_step) (freeze_own O) (by subst e1; have r' : v = .ref D := r; subst r'; exact freeze_den O e2)
end
section
variable {C : Cx} {k : Nat} {om : Om} {Φ : AV → Om → Prop}
noncomputable def rowQ (n : Nat) (f : Nat → Rat) : PyData := .list ((List.range n).map fun j => encQ (f j))
noncomputable def matQ (n : Nat) (F : Nat → Nat → Rat) : PyData := .list ((List.range n).map fun i => rowQ n (F i))
noncomputable def rowsQ (n : Nat) (F : Nat → Nat → Rat) : List AV := ((List.range n).map fun i => rowQ n (F i)).map .dat
theorem rowsQ_len {n F} : (rowsQ n F).length = n := by simp [rowsQ]
theorem rowsQ_get {n F i} (h : i < n) : (rowsQ n F)[i]? = some (.dat (rowQ n (F i))) := by simp [rowsQ, h]
theorem rowsQ_congr {n : Nat} {F G : Nat → Nat → Rat} (h : ∀ i j, i < n → j < n → F i j = G i j) : rowsQ n F = rowsQ n G := by
  unfold rowsQ; rw [List.map_map, List.map_map]
  refine List.map_congr_left fun i hi => ?_
  simp only [Function.comp, rowQ]
  congr 2
  exact List.map_congr_left fun j hj => by rw [h i j (List.mem_range.mp hi) (List.mem_range.mp hj)]
theorem rowsQ_set {n : Nat} {F : Nat → Nat → Rat} {i : Nat} {g : Nat → Rat} : (rowsQ n F).set i (.dat (rowQ n g)) = rowsQ n (fun a => if a = i then g else F a) := by
  apply List.ext_getElem?
  intro a
  rw [List.getElem?_set]
  by_cases q : i = a
  · subst q
    by_cases hl : i < n <;> simp [rowsQ, hl]
  · have : ¬ a = i := fun e => q e.symm
    by_cases hl : a < n <;> simp [rowsQ, hl, q, this]
theorem cast_enc (i : Int) : PyData.tuple [.int i, .int 1] = encQ (i : Rat) := rfl
theorem divInt_sz {n : Nat} {a b : Int} (hb : b ≠ 0) (ha : Sz n a) (h : Sz n b) : SzQ n (Rat.divInt a b) := by
  refine ⟨?_, ?_⟩
  · rw [Rat.num_divInt]
    unfold Sz at *
    refine Nat.lt_of_le_of_lt ?_ ha
    refine Nat.le_trans (Int.natAbs_ediv_le_natAbs _ _) ?_
    rw [Int.natAbs_mul]
    have : b.sign.natAbs = 1 := Int.natAbs_sign_of_ne_zero hb
    rw [this, Nat.one_mul]; exact Nat.le_refl _
  · rw [Rat.den_divInt, if_neg hb]
    unfold Sz at *
    rw [Int.natAbs_natCast]
    exact Nat.lt_of_le_of_lt (Nat.div_le_self _ _) h
theorem SzQ.mul {m n : Nat} {x y : Rat} (h : SzQ m x) (h' : SzQ n y) : SzQ (m + n) (x * y) := by
  rw [← rmul_eq]; exact divInt_sz (Int.mul_ne_zero (den_ne _) (den_ne _)) (h.1.mul h'.1) (h.2.mul h'.2)
theorem SzQ.div {m n : Nat} {x y : Rat} (h : SzQ m x) (h' : SzQ n y) (hy : y ≠ 0) : SzQ (m + n) (x / y) := by
  rw [← rdiv_eq]; exact divInt_sz (Int.mul_ne_zero (den_ne _) (num_ne hy)) (h.1.mul h'.2) (h.2.mul h'.1)
theorem SzQ.sub {m n : Nat} {x y : Rat} (h : SzQ m x) (h' : SzQ n y) : SzQ (m + n + 1) (x - y) := by
  rw [← rsub_eq]
  refine divInt_sz (Int.mul_ne_zero (den_ne _) (den_ne _)) ?_ ((h.2.mul h'.2).mono (by (exact Nat.le_succ _)))
  rw [Int.sub_eq_add_neg]
  exact (h.1.mul h'.2).add (((h'.1.mul h.2).mono (by lia)).neg)
theorem SzQ.add {m n : Nat} {x y : Rat} (h : SzQ m x) (h' : SzQ n y) : SzQ (m + n + 1) (x + y) := by
  rw [← radd_eq]
  exact divInt_sz (Int.mul_ne_zero (den_ne _) (den_ne _)) ((h.1.mul h'.2).add ((h'.1.mul h.2).mono (by lia))) ((h.2.mul h'.2).mono (by (exact Nat.le_succ _)))
theorem SzQ.neg {m : Nat} {x : Rat} (h : SzQ m x) : SzQ m (-x) := ⟨by rw [Rat.neg_num]; exact h.1.neg, by rw [Rat.neg_den]; exact h.2⟩
theorem SzQ.zero {m : Nat} (h : 0 < m) : SzQ m 0 := ⟨Sz.zero, by unfold Sz; exact Nat.one_lt_two_pow (by (exact Nat.ne_of_gt (by assumption)))⟩
theorem shp_encQ {x : Rat} : (encQ x).canLay0 = true ∧ (encQ x).depth ≤ 1 := shp_tuple fun d hd => by
  simp only [List.mem_cons, List.not_mem_nil, or_false] at hd
  rcases hd with rfl | rfl <;> exact shp_int
theorem shaped_encQ {x : Rat} : SeqAt.shaped (encQ x) = true := shaped_of ⟨shp_encQ.1, Nat.le_trans shp_encQ.2 (by decide)⟩
theorem cmp_q {x : Rat} : cmpV .NotEq (.dat (encQ x)) (.dat (encQ 0)) = some (decide (x ≠ 0)) := by
  have h1 := shaped_encQ (x := x)
  have h2 := shaped_encQ (x := 0)
  unfold encQ at *
  simp only [cmpV, cmpD, cmpS, h1, h2, Bool.and_true, if_true]
  simp only [PyData.eqvAll, PyData.eqv, Bool.and_true]
  congr 1
  by_cases hx : x = 0
  · subst hx; simp
  · have := num_ne hx
    simp [hx, this]
theorem mem_rows {n : Nat} {F : Nat → Nat → Rat} {a : AV} (h : a ∈ rowsQ n F) : ∃ i, i < n ∧ a = .dat (rowQ n (F i)) := by
  unfold rowsQ at h
  simp only [List.map_map, List.mem_map, List.mem_range, Function.comp] at h
  obtain ⟨i, hi, rfl⟩ := h
  exact ⟨i, hi, rfl⟩
theorem copied_spec {n : Nat} {F : Nat → Nat → Rat} (hn : n ≤ 100) (h : NewL om (rowsQ n F) Φ) : Wf C (k + 1) "copied" om [.dat (matQ n F)] Φ := by
  refine Wf.intro (d := fnAt 39) (List.mem_of_getElem? (i := 28) (by kernel_rfl)) (names := ["a"]) (by rintro pm code doc (_ | ⟨v1, _ | ⟨v2, r⟩⟩) h <;> first | rfl | simp at h; done) rfl (by decide) (kd_of (by rfl)) ?_
  refine Wx.cons (Ws.ret (We.compM (g := fun x => x) (Wi.list (We.name (by rfl) ⟨_, rfl, by simp; (exact Nat.le_trans (by assumption) (Nat.le_of_ble_eq_true rfl)), ?_, ?_⟩)) (by rfl) (.inl (by rfl))))
  · intro a ha om'
    obtain ⟨i, hi, rfl⟩ := mem_rows ha
    exact We.bListD (We.name Sto.set_eq ⟨_, rfl, by simp; (exact Nat.le_trans (by assumption) (Nat.le_of_ble_eq_true rfl)), rfl, rfl⟩) (by rfl)
  · rw [List.map_id']; exact h
theorem from_spec {n : Nat} {M : Nat → Nat → Int} (hn : n ≤ 100) (h : Φ (.dat (matQ n fun i j => (M i j : Rat))) om) : Wf C (k + 1) "from_whole" om [.dat (matE n M)] Φ := by
  refine Wf.intro (d := fnAt 40) (List.mem_of_getElem? (i := 29) (by kernel_rfl)) (names := ["a"]) (by rintro pm code doc (_ | ⟨v1, _ | ⟨v2, r⟩⟩) h <;> first | rfl | simp at h; done) rfl (by decide) (kd_of (by rfl)) ?_
  refine Wx.cons (Ws.ret (We.compM (g := fun x => match x with | .dat (.list l) => .dat (.list (l.map fun d => .tuple [d, .int 1])) | x => x) (Wi.list (We.name (by rfl) ⟨_, rfl, by simp; (exact Nat.le_trans (by assumption) (Nat.le_of_ble_eq_true rfl)), ?_, ?_⟩)) (by rfl) (.inl (by rfl))))
  · intro a ha om'
    simp only [List.map_map, List.mem_map, List.mem_range, Function.comp] at ha
    obtain ⟨i, hi, rfl⟩ := ha
    refine We.compM (g := fun x => match x with | .dat d => .dat (.tuple [d, .int 1]) | x => x) (Wi.list (We.name Sto.set_eq ⟨_, rfl, by simp; (exact Nat.le_trans (by assumption) (Nat.le_of_ble_eq_true rfl)), ?_, ?_⟩)) (by rfl) (.inl (by rfl))
    · intro b hb om2
      obtain ⟨d, hd, rfl⟩ := List.mem_map.mp hb
      exact We.tup (Wl.cons (We.name Sto.set_eq (Wl.cons (We.cInt (Wl.nil ⟨[_, _], rfl, by simp, rfl, rfl⟩)))))
    · have e : (((List.range n).map (M i)).map PyData.int |>.map AV.dat).map (fun x => match x with | .dat d => .dat (.tuple [d, .int 1]) | x => x) = ((((List.range n).map (M i)).map PyData.int).map fun d => PyData.tuple [d, .int 1]).map AV.dat := by simp
      rw [e]
      exact NewL.dat ⟨rfl, rfl⟩
  · have e : ((((List.range n).map fun i => rowE n (M i)).map AV.dat).map (fun x => match x with | .dat (.list l) => .dat (.list (l.map fun d => .tuple [d, .int 1])) | x => x)) = ((List.range n).map fun i => rowQ n fun j => (M i j : Rat)).map AV.dat := by
      simp only [List.map_map]
      refine List.map_congr_left fun i hi => ?_
      simp only [Function.comp, rowE, encZ, rowQ, List.map_map]
      rfl
    rw [e]
    exact NewL.dat h
theorem rowsQ_swap {n : Nat} {F : Nat → Nat → Rat} {i j : Nat} (hi : i < n) (hj : j < n) : ((rowsQ n F).set i (.dat (rowQ n (F j)))).set j (.dat (rowQ n (F i))) = rowsQ n (fun a => if a = j then F i else if a = i then F j else F a) := by
  rw [rowsQ_set, rowsQ_set]
theorem swap_spec {n : Nat} {F : Nat → Nat → Rat} {D : Addr} {i j : Nat} (hn : n ≤ 100) (hD : om D = some (rowsQ n F)) (hi : i < n) (hj : j < n)
    (h : Φ (.dat .none) (om.set D (rowsQ n fun a => if a = j then F i else if a = i then F j else F a))) : Wf C (k + 1) "swap_rows" om [.own D, .dat (.int i), .dat (.int j)] Φ := by
  refine Wf.intro (d := fnAt 41) (List.mem_of_getElem? (i := 30) (by kernel_rfl)) (names := ["a", "one", "other"]) (by rintro pm code doc (_ | ⟨v1, _ | ⟨v2, _ | ⟨v3, _ | ⟨v4, r⟩⟩⟩⟩) h <;> first | rfl | simp at h; done) rfl (by decide) (kd_of (by rfl)) ?_
  refine Wx.cons (Ws.assignTT (Wl.cons (We.sub1 (We.name (a := .own D) (by rfl) (We.name (by rfl) ⟨j, rowsQ n F, j, _, rfl, hD, by rw [rowsQ_len]; (exact Nat.le_trans (by assumption) (Nat.le_of_ble_eq_true rfl)), by rw [rowsQ_len]; exact pyIx_nat hj, rowsQ_get hj, ?_⟩)))) (by rfl) (by intro env he; cases env; cases he; rfl))
  refine Wl.cons (We.sub1 (We.name (a := .own D) (by rfl) (We.name (by rfl) ⟨i, rowsQ n F, i, _, rfl, hD, by rw [rowsQ_len]; (exact Nat.le_trans (by assumption) (Nat.le_of_ble_eq_true rfl)), by rw [rowsQ_len]; exact pyIx_nat hi, rowsQ_get hi, Wl.nil ⟨rfl, by decide, ?_⟩⟩)))
  refine Wa.sub (We.name (by rfl) (We.name (by rfl) ⟨D, i, _, rfl, rfl, hD, by lia, by rw [rowsQ_len]; (clear hn hj; lia), by rw [rowsQ_len]; (exact Nat.le_trans (by assumption) (Nat.le_of_ble_eq_true rfl)), ?_⟩))
  refine Wa.sub (We.name (by rfl) (We.name (by rfl) ⟨D, j, _, rfl, rfl, Om.set_at, by lia, by rw [List.length_set, rowsQ_len]; (clear hn hi; lia), by rw [List.length_set, rowsQ_len]; (exact Nat.le_trans (by assumption) (Nat.le_of_ble_eq_true rfl)), Wx.nil ?_⟩))
  rw [Int.toNat_natCast, Int.toNat_natCast, rowsQ_swap hi hj]
  have e : (om.set D ((rowsQ n F).set i (.dat (rowQ n (F j))))).set D (rowsQ n fun a => if a = j then F i else if a = i then F j else F a) = om.set D (rowsQ n fun a => if a = j then F i else if a = i then F j else F a) := by
    funext z; simp only [Om.set]; split <;> rfl
  rw [e]; exact h
end
section
variable {C : Cx} {k : Nat} {om : Om} {Φ : AV → Om → Prop}
theorem We.cellQ {sc : Scope} {σ : Sto} {x : Str} {D : Addr} {n : Nat} {F : Nat → Nat → Rat} {e1 e2 : PySem.Expr} {p q1 q2 : Pos} (hx : σ x = some (.own D)) (m : om D = some (rowsQ n F)) (hn : n ≤ 1000)
    (y1 : We C k sc σ om e1 (fun b om1 => om1 = om ∧ ∃ i : Nat, b = .dat (.int i) ∧ i < n ∧ We C k sc σ om e2 (fun c om2 => om2 = om ∧ ∃ j : Nat, c = .dat (.int j) ∧ j < n ∧ Φ (.dat (encQ (F i j))) om)))
    (hs : ∀ o v, subscripted e1 false o v = operate [o, v] (getItem o v) := by intros; rfl) (hs2 : ∀ o v, subscripted e2 false o v = operate [o, v] (getItem o v) := by intros; rfl)
    (hd : (x == ("__debug__" : Str)) = false := by decide) (hc : (x == ("__classdict__" : Str)) = false := by decide) : We C k sc σ om (.Subscript (.Subscript (.Name x p) e1 q1) e2 q2) Φ := by
  refine We.sub1 (We.sub1 (We.name hx (y1.mono ?_) hd hc) hs) hs2
  rintro b om1 ⟨rfl, i, rfl, hi, y2⟩
  refine ⟨_, rowsQ n F, i, _, rfl, m, by rw [rowsQ_len]; (exact Nat.le_trans (by assumption) (Nat.le_of_ble_eq_true rfl)), by rw [rowsQ_len]; exact pyIx_nat hi, rowsQ_get hi, y2.mono ?_⟩
  rintro c om2 ⟨rfl, j, rfl, hj, h⟩
  exact ⟨_, ((List.range n).map fun j => encQ (F i j)).map .dat, j, _, rfl, rfl, by simp; (exact Nat.le_trans (by assumption) (Nat.le_of_ble_eq_true rfl)), by simp only [List.length_map, List.length_range]; exact pyIx_nat hj, by simp [hj], h⟩
theorem We.rowQ {sc : Scope} {σ : Sto} {x : Str} {D : Addr} {n : Nat} {F : Nat → Nat → Rat} {e1 : PySem.Expr} {p q1 : Pos} (hx : σ x = some (.own D)) (m : om D = some (rowsQ n F)) (hn : n ≤ 1000)
    (y1 : We C k sc σ om e1 (fun b om1 => om1 = om ∧ ∃ i : Nat, b = .dat (.int i) ∧ i < n ∧ Φ (.dat (rowQ n (F i))) om))
    (hs : ∀ o v, subscripted e1 false o v = operate [o, v] (getItem o v) := by intros; rfl)
    (hd : (x == ("__debug__" : Str)) = false := by decide) (hc : (x == ("__classdict__" : Str)) = false := by decide) : We C k sc σ om (.Subscript (.Name x p) e1 q1) Φ := by
  refine We.sub1 (We.name hx (y1.mono ?_) hd hc) hs
  rintro b om1 ⟨rfl, i, rfl, hi, y2⟩
  exact ⟨_, rowsQ n F, i, _, rfl, m, by rw [rowsQ_len]; (exact Nat.le_trans (by assumption) (Nat.le_of_ble_eq_true rfl)), by rw [rowsQ_len]; exact pyIx_nat hi, rowsQ_get hi, y2⟩
set_option maxHeartbeats 1000000 in
theorem take_spec {n : Nat} {F : Nat → Nat → Rat} {D : Addr} {r s : Nat} {x : Rat} {b1 b2 b3 : Nat} (hn : n ≤ 100) (hD : om D = some (rowsQ n F)) (hr : r < n) (hs : s < n) (z1 : ∀ j, j < n → SzQ b1 (F r j)) (z2 : ∀ j, j < n → SzQ b2 (F s j)) (z3 : SzQ b3 x) (hb : b1 + b2 + b3 ≤ 100000000)
    (h : Φ (.dat .none) (om.set D (rowsQ n fun a => if a = r then (fun j => F r j - x * F s j) else F a))) : Wf C (k + 4) "take_off" om [.own D, .dat (.int r), .dat (.int s), .dat (encQ x)] Φ := by
  refine Wf.intro (d := fnAt 42) (List.mem_of_getElem? (i := 31) (by kernel_rfl)) (names := ["a", "row", "source", "number"]) (by rintro pm code doc (_ | ⟨v1, _ | ⟨v2, _ | ⟨v3, _ | ⟨v4, _ | ⟨v5, r⟩⟩⟩⟩⟩) h <;> first | rfl | simp at h; done) rfl (by decide) (kd_of (by rfl)) ?_
  refine Wx.cons (Ws.assignSub ?_)
  refine We.compT (Wi2.enum (We.rowQ (D := D) (by rfl) hD (by (exact Nat.le_trans (by assumption) (Nat.le_of_ble_eq_true rfl))) (We.name (by rfl) ⟨rfl, r, rfl, hr, _, rfl, by simp; (exact Nat.le_trans (by assumption) (Nat.le_of_ble_eq_true rfl)), ?_⟩)) (by rfl)) (by rfl) (.inl (by rfl)) (.inl (by rfl))
  refine ⟨fun i acc om2 => acc = ((List.range i).map fun j => AV.dat (encQ (F r j - x * F s j))) ∧ om2 = om, ⟨rfl, rfl⟩, ?_, ?_, ?_⟩
  · rintro i acc om2 ⟨rfl, _⟩; simp
  · rintro i a acc om2 D' hi hD' ⟨rfl, rfl⟩
    have hlt : i < n := by have := (List.getElem?_eq_some_iff.mp hi).1; simpa using this
    have ha : a = .dat (encQ (F r i)) := by
      rw [List.getElem?_map, List.getElem?_map, List.getElem?_range hlt] at hi
      simpa using hi.symm
    subst ha
    have hDD : D ≠ D' := fun e => by rw [e, hD'] at hD; cases hD
    have hD2 : (om2.set D' ((List.range i).map fun j => AV.dat (encQ (F r j - x * F s j)))) D = some (rowsQ n F) := by rw [Om.set_other hDD]; exact hD
    refine We.call (Wl.cons (We.name (by rfl) (Wl.cons ?_))) (by rfl) (has_of 22 (by kernel_rfl))
    refine We.call (Wl.cons (We.name (by rfl) (Wl.cons ?_))) (by rfl) (has_of 23 (by kernel_rfl))
    refine We.cellQ (D := D) (F := F) (n := n) (by rfl) hD2 (by (exact Nat.le_trans (by assumption) (Nat.le_of_ble_eq_true rfl))) (We.name (by rfl) ⟨rfl, s, rfl, hs, We.name (by rfl) ⟨rfl, i, rfl, hlt, ?_⟩⟩)
    refine Wl.nil (rmul_spec z3 (z2 i hlt) (by lia) (Wl.nil (rsub_spec (z1 i hlt) (z3.mul (z2 i hlt)) (by lia) ?_)))
    refine ⟨om2, rfl, hD', ?_, rfl⟩
    rw [List.range_succ, List.map_append]; rfl
  · rintro acc om2 ⟨rfl, rfl⟩
    have hlen : (((List.range n).map fun j => encQ (F r j)).map AV.dat).length = n := by simp
    rw [hlen]
    have e : ((List.range n).map fun j => AV.dat (encQ (F r j - x * F s j))) = ((List.range n).map fun j => encQ (F r j - x * F s j)).map AV.dat := by simp
    rw [e]
    refine NewL.dat (We.name (by rfl) (We.name (by rfl) ⟨D, r, _, rfl, rfl, hD, by lia, by rw [rowsQ_len]; (clear hn hs hb; lia), by rw [rowsQ_len]; (exact Nat.le_trans (by assumption) (Nat.le_of_ble_eq_true rfl)), Wx.nil ?_⟩))
    rw [Int.toNat_natCast]
    have e2 := rowsQ_set (n := n) (F := F) (i := r) (g := fun j => F r j - x * F s j)
    unfold rowQ at e2
    rw [e2]; exact h
theorem shape_spec {n : Nat} {F : Nat → Nat → Rat} (hn : n ≤ 100) (h0 : 0 < n) (h : Φ (.dat (.tuple [.int n, .int n])) om) : Wf C (k + 1) "shape" om [.dat (matQ n F)] Φ := by
  refine Wf.intro (d := fnAt 38) (List.mem_of_getElem? (i := 27) (by kernel_rfl)) (names := ["a"]) (by rintro pm code doc (_ | ⟨v1, _ | ⟨v2, r⟩⟩) h <;> first | rfl | simp at h; done) rfl (by decide) (kd_of (by rfl)) ?_
  refine Wx.cons (Ws.ret (We.tup (Wl.cons (We.bLenD (We.name (by rfl) ⟨_, rfl, by simp; (exact Nat.le_trans (by assumption) (Nat.le_of_ble_eq_true rfl)), ?_⟩) (by rfl)))))
  refine Wl.cons (We.ifexp (Wt.cmp (We.bLenD (We.name (by rfl) ⟨_, rfl, by simp; (exact Nat.le_trans (by assumption) (Nat.le_of_ble_eq_true rfl)), We.cInt ⟨_, rfl, ?_⟩⟩) (by rfl))))
  have : decide ((0 : Int) < ((((List.range n).map fun i => Mine.rowQ n (F i)).length : Nat) : Int)) = true := decide_eq_true (by simp; omega)
  rw [this, if_pos rfl]
  refine We.bLenD (We.subN (We.name (by rfl) (We.cInt ⟨(List.range n).map fun i => Mine.rowQ n (F i), 0, Mine.rowQ n (F 0), .inl rfl, rfl, by simp [h0], by simp; (exact Nat.le_trans (by assumption) (Nat.le_of_ble_eq_true rfl)), _, rfl, by simp; (exact Nat.le_trans (by assumption) (Nat.le_of_ble_eq_true rfl)), ?_⟩))) (by rfl)
  refine Wl.nil ⟨[_, _], rfl, by simp, ?_⟩
  show Φ _ om
  simpa using h
end
section
variable {C : Cx} {k : Nat} {om : Om} {Φ : AV → Om → Prop}
noncomputable def swpQ (i j : Nat) (F : Nat → Nat → Rat) : Nat → Nat → Rat := fun a => if a = j then F i else if a = i then F j else F a
noncomputable def nrmQ (r c : Nat) (F : Nat → Nat → Rat) : Nat → Nat → Rat := fun a j => if a = r then F r j / F r c else F a j
noncomputable def clrQ (r c : Nat) (F : Nat → Nat → Rat) : Nat → Nat → Rat := fun a j => if a = r then F a j else F a j - F a c * F r j
noncomputable def EchQ (n : Nat) : Nat → Nat → (Nat → Nat → Rat) → List Nat → (List Nat → Prop) → Prop
  | 0, _, _, pv, R => R pv
  | f + 1, c, F, pv, R => ((∀ i, pv.length ≤ i → i < n → F i c = 0) → EchQ n f (c + 1) F pv R) ∧
      (∀ i, pv.length ≤ i → i < n → F i c ≠ 0 → (∀ j, pv.length ≤ j → j < i → F j c = 0) → EchQ n f (c + 1) (clrQ pv.length c (nrmQ pv.length c (swpQ pv.length i F))) (pv ++ [c]) R)
noncomputable def onQ (f : Rat → Rat) : AV → AV
  | .dat (.tuple [.int a, .int b]) => .dat (encQ (f (Rat.divInt a b)))
  | x => x
theorem onQ_enc {f : Rat → Rat} {x : Rat} : onQ f (.dat (encQ x)) = .dat (encQ (f x)) := by
  show AV.dat (encQ (f (Rat.divInt x.num x.den))) = _
  rw [Rat.num_divInt_den]
theorem onQ_map {f : Rat → Rat} {n : Nat} {g : Nat → Rat} : ((((List.range n).map fun j => encQ (g j)).map AV.dat).map (onQ f)) = ((List.range n).map fun j => encQ (f (g j))).map AV.dat := by
  simp only [List.map_map]
  exact List.map_congr_left fun j _ => by simp only [Function.comp]; exact onQ_enc
theorem Ws.assignCompF {sc : Scope} {σ : Sto} {elt iter : PySem.Expr} {ifs : List PySem.Expr} {x z : Str} {px pz pos spos : Pos} {scope : Scope} {Φ : Fl → Sto → Om → Prop}
    (y : Wi C k sc σ om iter (fun items om1 => ∃ J : Nat → List AV → Om → Prop, J 0 [] om1 ∧ (∀ i acc om2, J i acc om2 → acc.length ≤ i) ∧ CompJ C k (rl sc scope) (sigC scope σ) x items J ifs elt ∧ (∀ acc om2, J items.length acc om2 → NewL om2 acc (fun a om3 => Φ .nx (σ.set z a) om3))))
    (bk : blockOk sc scope = true) (hx : scope.names.lookup x = some .local ∨ scope.names.lookup x = some .cell) (hz : sc.names.lookup z = some .local)
    (hsw : ∀ env, env.scope = sc → swapsWith (.ListComp elt [⟨.Name x px, iter, ifs, 0⟩] scope pos) (some (.Name z pz)) spos.line env = pure true)
    (hs : ∀ env x, foldedSetIterable iter env x = pure x := by intros; rfl) : Ws C k sc σ om (.Assign [.Name z pz] (.ListComp elt [⟨.Name x px, iter, ifs, 0⟩] scope pos) spos) Φ := Ws.assignComp y bk hx hz hsw hs
noncomputable def ebits (t : Nat) : Nat := 3 * 5 ^ t
theorem ebits_le {t : Nat} (h : t ≤ 6) : ebits t ≤ 46875 := by
  unfold ebits
  have : 5 ^ t ≤ 5 ^ 6 := Nat.pow_le_pow_right (by decide) h
  lia
theorem ebits_succ {t : Nat} : 5 * ebits t = ebits (t + 1) ∧ 3 ≤ ebits t := by
  unfold ebits
  have : 1 ≤ 5 ^ t := Nat.pow_pos (by decide)
  rw [Nat.pow_succ]; lia
@[reducible] noncomputable def ecJ (D Dp : Addr) (n : Nat) (R : List Nat → Prop) (t : Nat) (σ1 : Sto) (om1 : Om) : Prop := σ1 "found" = some (.own D) ∧ σ1 "pivots" = some (.own Dp) ∧ ∃ F pv, om1 D = some (rowsQ n F) ∧ om1 Dp = some ((pv : List Nat).map fun c : Nat => AV.dat (.int c)) ∧ EchQ n (n - t) t F pv R ∧ (∀ i j, i < n → j < n → SzQ (ebits t) (F i j)) ∧ pv.length ≤ t
@[reducible] noncomputable def ecC (om1 : Om) (F : Nat → Nat → Rat) (pv : List Nat) (t : Nat) (i : Nat) (acc : List AV) (om2 : Om) : Prop := om2 = om1 ∧ acc.length ≤ i ∧ ∃ ds, acc = ds.map AV.dat ∧ ((ds = [] ∧ ∀ j, pv.length ≤ j → j < pv.length + i → F j t = 0) ∨
      ∃ (i0 : Nat) (rest : List PyData), ds = .int i0 :: rest ∧ pv.length ≤ i0 ∧ i0 < pv.length + i ∧ F i0 t ≠ 0 ∧ ∀ j, pv.length ≤ j → j < i0 → F j t = 0)
@[reducible] noncomputable def ecP (D Dp : Addr) (n t : Nat) (pv : List Nat) (F2 : Nat → Nat → Rat)  (σ5 : Sto) (om5 : Om) : Prop := σ5 "found" = some (.own D) ∧ σ5 "pivots" = some (.own Dp) ∧ σ5 "column" = some (.dat (.int t)) ∧ om5 D = some (rowsQ n (clrQ pv.length t F2)) ∧ om5 Dp = some (pv.map fun c : Nat => AV.dat (.int c))
@[reducible] noncomputable def ecK (D Dp : Addr) (n t : Nat) (pv : List Nat) (F2 : Nat → Nat → Rat) (u : Nat) (σ5 : Sto) (om5 : Om) : Prop := σ5 "found" = some (.own D) ∧ σ5 "pivots" = some (.own Dp) ∧ σ5 "column" = some (.dat (.int t)) ∧ σ5 "row" = some (.dat (.int pv.length)) ∧ om5 D = some (rowsQ n fun a j => if a < u ∧ a ≠ pv.length then F2 a j - F2 a t * F2 pv.length j else F2 a j) ∧ om5 Dp = some (pv.map fun c : Nat => AV.dat (.int c))
set_option maxHeartbeats 4000000 in
theorem echelon_spec {n : Nat} {F : Nat → Nat → Rat} {R : List Nat → Prop} (hn : n ≤ 6) (h0 : 0 < n) (hz : ∀ i j, i < n → j < n → SzQ 3 (F i j)) (q : EchQ n n 0 F [] R)
    (hR : ∀ pv rows om', R pv → Φ (.dat (.tuple [.list rows, .list (pv.map fun c : Nat => .int c)])) om') : Wf C (k + 5) "echelon" om [.dat (matQ n F)] Φ := by
  refine Wf.intro (d := fnAt 43) (List.mem_of_getElem? (i := 32) (by kernel_rfl)) (names := ["a"]) (by rintro pm code doc (_ | ⟨v1, _ | ⟨v2, r⟩⟩) h <;> first | rfl | simp at h; done) rfl (by decide) (kd_of (by rfl)) ?_
  refine Wx.cons (Ws.assignTT (Wl.cons (We.call (Wl.cons (We.name (by rfl) (Wl.nil (copied_spec (by (exact Nat.le_trans (by assumption) (Nat.le_of_ble_eq_true rfl))) (NewL.own fun D hD => ?_))))) (by rfl) (has_of 28 (by kernel_rfl)))) (by rfl) (by intro env he; cases env; cases he; rfl))
  refine Wl.cons (We.lst (Wl.nil ⟨by decide, NewL.own fun Dp hDp => Wl.nil ⟨rfl, by decide, ?_⟩⟩))
  refine Wa.name (Wa.name ?_ (.inl rfl)) (.inr rfl)
  have hne : D ≠ Dp := fun e => by rw [e, Om.set_at] at hDp; cases hDp
  have hD1 : ((om.set D (rowsQ n F)).set Dp []) D = some (rowsQ n F) := by rw [Om.set_other hne, Om.set_at]
  have hP1 : ((om.set D (rowsQ n F)).set Dp []) Dp = some (([] : List Nat).map fun c : Nat => AV.dat (.int c)) := Om.set_at
  generalize ((om.set D (rowsQ n F)).set Dp []) = om1 at hD1 hP1
  refine Wx.cons (Ws.for (Wi.range1 (We.subN (We.call (Wl.cons (We.name (by rfl) (Wl.nil (shape_spec (by (exact Nat.le_trans (by assumption) (Nat.le_of_ble_eq_true rfl))) h0 ?_)))) (by rfl) (has_of 27 (by kernel_rfl)))) (by rfl)) (.inr rfl))
  refine We.cInt ⟨_, 1, .int n, .inr rfl, rfl, rfl, by simp, n, rfl, by (exact Nat.le_trans (by assumption) (Nat.le_of_ble_eq_true rfl)), ?_⟩
  refine ⟨(ecJ D Dp n R),
    ⟨rfl, rfl, F, [], hD1, hP1, q, hz, Nat.le_refl _⟩, ?_, ?_⟩
  · rintro t a σ1 om1 hi ⟨g1, g2, F, pv, hD, hP, q, hz, hpl⟩
    have hlt : t < n := by
      have := (List.getElem?_eq_some_iff.mp hi).1
      simpa using this
    have ha : a = .dat (.int (t : Int)) := by
      rw [List.getElem?_map, List.getElem?_range hlt] at hi
      simpa using hi.symm
    subst ha
    obtain ⟨f, hf⟩ : ∃ f, n - t = f + 1 := ⟨n - t - 1, by lia⟩
    have hf' : n - (t + 1) = f := by lia
    rw [hf, EchQ] at q
    obtain ⟨q0, q1⟩ := q
    obtain ⟨hb5, hb3⟩ := ebits_succ (t := t)
    have hbl : ebits t ≤ 46875 := ebits_le (by lia)
    refine Wx.cons (Ws.assign (We.lenOwn g2 hP (by simp; lia) ?_ (by rfl)) (.inl rfl))
    rw [List.length_map]
    refine Wx.cons (Ws.assignCompF (Wi.range2 (We.name (by rfl) (We.lenOwn g1 hD (by rw [rowsQ_len]; (exact Nat.le_trans (by assumption) (Nat.le_of_ble_eq_true rfl))) ⟨pv.length, n, rfl, by rw [rowsQ_len], by lia, by (exact Nat.le_trans (by assumption) (Nat.le_of_ble_eq_true rfl)), ?_⟩ (by rfl))) (by rfl)) (by rfl) (.inl (by rfl)) (by rfl) (by intro env he; cases env; cases he; rfl))
    refine ⟨(ecC om1 F pv t), ⟨rfl, Nat.le_refl _, [], rfl, .inl ⟨rfl, fun j h1 h2 => by lia⟩⟩, fun i acc om2 h => h.2.1, ?_, ?_⟩
    · rintro i a acc om2 D' hi hD' ⟨rfl, hal, ds, rfl, hc⟩
      have hlt2 : i < n - pv.length := by
        have := (List.getElem?_eq_some_iff.mp hi).1
        simpa using this
      have ha : a = .dat (.int ((pv.length + i : Nat) : Int)) := by
        rw [List.getElem?_map, List.getElem?_range hlt2] at hi
        simpa using hi.symm
      subst ha
      have hDD : D ≠ D' := fun e => by rw [e, hD'] at hD; cases hD
      have hD2 : (om2.set D' (ds.map AV.dat)) D = some (rowsQ n F) := by rw [Om.set_other hDD]; exact hD
      refine Wt.cmp (We.cellQ (D := D) (F := F) (n := n) g1 hD2 (by (exact Nat.le_trans (by assumption) (Nat.le_of_ble_eq_true rfl))) (We.name (by rfl) ⟨rfl, pv.length + i, rfl, by (clear hn h0 hf hf' hb5 hb3 hbl hal; omega), We.name (by rfl) ⟨rfl, t, rfl, hlt, We.g0 (by rfl) ⟨_, cmp_q, ?_⟩⟩⟩))
      by_cases hx : F (pv.length + i) t = 0
      · rw [decide_eq_false (fun q => q hx), if_neg (by decide)]
        refine ⟨om2, rfl, hD', rfl, by (exact Nat.le_succ_of_le (by assumption)), ds, rfl, ?_⟩
        rcases hc with ⟨e, hc⟩ | ⟨i0, rest, e, h1, h2, h3, h4⟩
        · refine .inl ⟨e, fun j h1 h2 => ?_⟩
          by_cases hj : j = pv.length + i
          · rw [hj]; exact hx
          · exact hc j h1 (by lia)
        · exact .inr ⟨i0, rest, e, h1, by (exact Nat.lt_succ_of_lt (by assumption)), h3, h4⟩
      · rw [decide_eq_true hx, if_pos rfl]
        refine We.name (by rfl) ⟨om2, rfl, hD', rfl, by simpa using hal, ds ++ [.int ((pv.length + i : Nat) : Int)], by simp, ?_⟩
        rcases hc with ⟨e, hc⟩ | ⟨i0, rest, e, h1, h2, h3, h4⟩
        · exact .inr ⟨pv.length + i, [], by rw [e]; rfl, by (exact Nat.le_add_right _ _), by (exact Nat.le_refl _), hx, hc⟩
        · exact .inr ⟨i0, rest ++ [_], by rw [e]; rfl, h1, by (exact Nat.lt_succ_of_lt (by assumption)), h3, h4⟩
    · rintro acc om2 ⟨rfl, hal, ds, rfl, hc⟩
      have hlen : ((List.range (n - pv.length)).map fun i : Nat => AV.dat (.int ((pv.length + i : Nat) : Int))).length = n - pv.length := by simp
      rw [hlen] at hal hc
      refine NewL.dat ?_
      refine Wx.cons (Ws.ite (Wt.cmp (We.bLenD (We.name (by rfl) ⟨_, rfl, by simp at hal; lia, We.cInt ⟨_, rfl, ?_⟩⟩) (by rfl))))
      rcases hc with ⟨rfl, hc⟩ | ⟨i0, rest, rfl, h1, h2, h3, h4⟩
      · have : ((([] : List PyData).length : Int) == 0) = true := rfl
        rw [this, if_pos rfl]
        refine Wx.cons (Ws.cont ⟨g1, g2, F, pv, hD, hP, ?_, fun i j hi hj => (hz i j hi hj).mono (by (clear hn h0 hpl hlt hf hf' hb3 hbl hlen hal hi hj; lia)), by (exact Nat.le_succ_of_le (by assumption))⟩)
        rw [hf']
        exact q0 fun i h1 h2 => hc i h1 (by (clear hn h0 hf hf' hb5 hb3 hbl hlen hal h1; lia))
      · have : (((PyData.int (i0 : Int) :: rest).length : Int) == 0) = false := by simp; lia
        rw [this, if_neg (by decide)]
        have hi0 : i0 < n := by (clear hn h0 hf hf' hb5 hb3 hbl hlen hal h1; lia)
        have hrn : pv.length < n := by (exact Nat.lt_of_le_of_lt (by assumption) (by assumption))
        have q2 := q1 i0 h1 hi0 h3 h4
        refine Wx.nil (Wx.cons (Ws.expr (We.call (Wl.cons (We.name g1 (Wl.cons (We.name (by rfl) (Wl.cons ?_))))) (by rfl) (has_of 30 (by kernel_rfl)))))
        refine We.subN (We.name (by rfl) (We.cInt ⟨_, 0, .int (i0 : Int), .inl rfl, rfl, rfl, by simp at hal ⊢; lia, Wl.nil ?_⟩))
        refine swap_spec (by (exact Nat.le_trans (by assumption) (Nat.le_of_ble_eq_true rfl))) hD hrn hi0 ⟨rfl, ?_⟩
        have hF1 : ∀ i j, i < n → j < n → SzQ (ebits t) (swpQ pv.length i0 F i j) := fun i j hi hj => by
          unfold swpQ
          by_cases e1 : i = i0
          · rw [if_pos e1]; exact hz _ _ hrn hj
          · rw [if_neg e1]
            by_cases e2 : i = pv.length
            · rw [if_pos e2]; exact hz _ _ hi0 hj
            · rw [if_neg e2]; exact hz _ _ hi hj
        have hpiv : swpQ pv.length i0 F pv.length t ≠ 0 := by
          unfold swpQ
          by_cases e1 : pv.length = i0
          · rw [if_pos e1, e1]; exact h3
          · rw [if_neg e1, if_pos rfl]; exact h3
        change Wx _ _ _ _ (om2.set D (rowsQ n (swpQ pv.length i0 F))) _ _
        generalize swpQ pv.length i0 F = F1 at hF1 hpiv q2
        have hD2 : (om2.set D (rowsQ n F1)) D = some (rowsQ n F1) := Om.set_at
        have hP2 : (om2.set D (rowsQ n F1)) Dp = some (pv.map fun c : Nat => AV.dat (.int c)) := by rw [Om.set_other (Ne.symm hne)]; exact hP
        generalize om2.set D (rowsQ n F1) = om3 at hD2 hP2
        refine Wx.cons (Ws.assign (We.cellQ (D := D) (F := F1) (n := n) g1 hD2 (by (exact Nat.le_trans (by assumption) (Nat.le_of_ble_eq_true rfl))) (We.name (by rfl) ⟨rfl, pv.length, rfl, hrn, We.name (by rfl) ⟨rfl, t, rfl, hlt, ?_⟩⟩)) (.inr rfl))
        refine Wx.cons (Ws.assignSub ?_)
        refine We.compM (g := onQ fun x => x / F1 pv.length t) (Wi.list (We.rowQ (D := D) g1 hD2 (by (exact Nat.le_trans (by assumption) (Nat.le_of_ble_eq_true rfl))) (We.name (by rfl) ⟨rfl, pv.length, rfl, hrn, _, rfl, by simp; (exact Nat.le_trans (by assumption) (Nat.le_of_ble_eq_true rfl)), ?_, ?_⟩))) (by rfl) (.inl (by rfl))
        · intro a ha om'
          simp only [List.map_map, List.mem_map, List.mem_range, Function.comp] at ha
          obtain ⟨j, hj, rfl⟩ := ha
          refine We.call (Wl.cons (We.name Sto.set_eq (Wl.cons (We.name (by rfl) (Wl.nil (rdiv_spec (hF1 _ _ hrn hj) (hF1 _ _ hrn hlt) (by lia) hpiv ?_)))))) (by rfl) (has_of 24 (by kernel_rfl))
          exact ⟨(onQ_enc (f := fun x => x / F1 pv.length t)).symm, rfl⟩
        rw [onQ_map]
        refine NewL.dat (We.name g1 (We.name (by rfl) ⟨D, pv.length, _, rfl, rfl, hD2, by lia, by rw [rowsQ_len]; (clear hn h0 hpl hlt hf hf' hb5 hb3 hbl hlen hal h1 h2 hi0; lia), by rw [rowsQ_len]; (exact Nat.le_trans (by assumption) (Nat.le_of_ble_eq_true rfl)), ?_⟩))
        rw [Int.toNat_natCast]
        have e2 := rowsQ_set (n := n) (F := F1) (i := pv.length) (g := fun j => F1 pv.length j / F1 pv.length t)
        have e3 : (rowsQ n fun a => if a = pv.length then (fun j => F1 pv.length j / F1 pv.length t) else F1 a) = rowsQ n (nrmQ pv.length t F1) := rowsQ_congr fun i j _ _ => by
          unfold nrmQ; split <;> rfl
        rw [e3] at e2
        unfold rowQ at e2
        rw [e2]
        have hF2 : ∀ i j, i < n → j < n → SzQ (2 * ebits t) (nrmQ pv.length t F1 i j) := fun i j hi hj => by
          unfold nrmQ
          by_cases e1 : i = pv.length
          · rw [if_pos e1]; exact ((hF1 _ _ hrn hj).div (hF1 _ _ hrn hlt) hpiv).mono (by lia)
          · rw [if_neg e1]; exact (hF1 _ _ hi hj).mono (by lia)
        have hF2' : ∀ i j, i < n → j < n → i ≠ pv.length → SzQ (ebits t) (nrmQ pv.length t F1 i j) := fun i j hi hj e1 => by
          unfold nrmQ
          rw [if_neg e1]; exact hF1 _ _ hi hj
        generalize nrmQ pv.length t F1 = F2 at hF2 hF2' q2
        have hD3 : (om3.set D (rowsQ n F2)) D = some (rowsQ n F2) := Om.set_at
        have hP3 : (om3.set D (rowsQ n F2)) Dp = some (pv.map fun c : Nat => AV.dat (.int c)) := by rw [Om.set_other (Ne.symm hne)]; exact hP2
        generalize om3.set D (rowsQ n F2) = om4 at hD3 hP3
        refine Wx.consP ((ecP D Dp n t pv F2))
          (Ws.for (Wi.range1 (We.lenOwn g1 hD3 (by rw [rowsQ_len]; (exact Nat.le_trans (by assumption) (Nat.le_of_ble_eq_true rfl))) ⟨n, by rw [rowsQ_len], by (exact Nat.le_trans (by assumption) (Nat.le_of_ble_eq_true rfl)), ?_⟩ (by rfl)) (by rfl)) (.inl rfl)) ?_
        · refine ⟨(ecK D Dp n t pv F2),
            ⟨g1, g2, by rfl, by rfl, by rw [hD3]; congr 1, hP3⟩, ?_, ?_⟩
          · rintro u a σ5 om5 hi ⟨f1, f2, f3, f4, f5, f6⟩
            have hu : u < n := by
              have := (List.getElem?_eq_some_iff.mp hi).1
              simpa using this
            have ha : a = .dat (.int (u : Int)) := by
              rw [List.getElem?_map, List.getElem?_range hu] at hi
              simpa using hi.symm
            subst ha
            have fin : ∀ (σ6 : Sto) (om6 : Om), σ6 "found" = some (.own D) → σ6 "pivots" = some (.own Dp) → σ6 "column" = some (.dat (.int t)) → σ6 "row" = some (.dat (.int pv.length)) → om6 Dp = some (pv.map fun c : Nat => AV.dat (.int c)) →
                om6 D = some (rowsQ n fun a j => if a < u + 1 ∧ a ≠ pv.length then F2 a j - F2 a t * F2 pv.length j else F2 a j) → (σ6 "found" = some (.own D) ∧ σ6 "pivots" = some (.own Dp) ∧ σ6 "column" = some (.dat (.int t)) ∧ σ6 "row" = some (.dat (.int pv.length)) ∧ om6 D = some (rowsQ n fun a j => if a < u + 1 ∧ a ≠ pv.length then F2 a j - F2 a t * F2 pv.length j else F2 a j) ∧ om6 Dp = some (pv.map fun c : Nat => AV.dat (.int c))) :=
              fun σ6 om6 a1 a2 a3 a4 a5 a6 => ⟨a1, a2, a3, a4, a6, a5⟩
            refine Wx.cons (Ws.ite (Wt.and (Wt.cmp (We.name (by rfl) (We.name f4 ⟨_, rfl, ?_⟩)))))
            by_cases hur : u = pv.length
            · rw [if_neg (by simp; lia), if_neg (by decide)]
              refine Wx.nil (Wx.nil (fin _ _ f1 f2 f3 f4 f6 ?_))
              rw [f5]; congr 1
              exact rowsQ_congr fun i j _ _ => by
                by_cases z1 : i < u ∧ i ≠ pv.length
                · rw [if_pos z1, if_pos ⟨by (clear hn h0 hpl hlt hf hf' hb5 hb3 hbl hlen hal h1 h2 hi0 hrn hu hur; lia), z1.2⟩]
                · rw [if_neg z1, if_neg (by lia)]
            · have : ((u : Int) != (pv.length : Int)) = true := by simp; lia
              rw [this, if_pos rfl]
              refine Wt.cmp (We.cellQ (D := D) (n := n) f1 f5 (by (exact Nat.le_trans (by assumption) (Nat.le_of_ble_eq_true rfl))) (We.name (by rfl) ⟨rfl, u, rfl, hu, We.name f3 ⟨rfl, t, rfl, hlt, We.g0 (by rfl) ⟨_, cmp_q, ?_⟩⟩⟩))
              simp only [if_neg (show ¬ (u < u ∧ u ≠ pv.length) by lia)]
              by_cases hx : F2 u t = 0
              · rw [decide_eq_false (fun q => q hx), if_neg (by decide)]
                refine Wx.nil (Wx.nil (fin _ _ f1 f2 f3 f4 f6 ?_))
                rw [f5]; congr 1
                exact rowsQ_congr fun i j _ _ => by
                  by_cases z1 : i < u ∧ i ≠ pv.length
                  · rw [if_pos z1, if_pos ⟨by lia, z1.2⟩]
                  · rw [if_neg z1]
                    by_cases z2 : i = u
                    · subst z2
                      rw [if_pos ⟨by (exact Nat.le_refl _), hur⟩, hx]; grind
                    · rw [if_neg (by lia)]
              · rw [decide_eq_true hx, if_pos rfl]
                refine Wx.cons (Ws.expr (We.call (Wl.cons (We.name f1 (Wl.cons (We.name (by rfl) (Wl.cons (We.name f4 (Wl.cons ?_))))))) (by rfl) (has_of 31 (by kernel_rfl))))
                refine We.cellQ (D := D) (n := n) f1 f5 (by (exact Nat.le_trans (by assumption) (Nat.le_of_ble_eq_true rfl))) (We.name (by rfl) ⟨rfl, u, rfl, hu, We.name f3 ⟨rfl, t, rfl, hlt, Wl.nil ?_⟩⟩)
                simp only [if_neg (show ¬ (u < u ∧ u ≠ pv.length) by lia)]
                refine take_spec (b1 := ebits t) (b2 := 2 * ebits t) (b3 := ebits t) (by (exact Nat.le_trans (by assumption) (Nat.le_of_ble_eq_true rfl))) f5 hu hrn (fun j hj => ?_) (fun j hj => ?_) (hF2' _ _ hu hlt hur) (by lia) ⟨rfl, Wx.nil (Wx.nil (fin _ _ f1 f2 f3 f4 ?_ ?_))⟩
                · simp only [if_neg (show ¬ (u < u ∧ u ≠ pv.length) by lia)]; exact hF2' _ _ hu hj hur
                · simp only [if_neg (show ¬ (pv.length < u ∧ pv.length ≠ pv.length) by lia)]; exact hF2 _ _ hrn hj
                · rw [Om.set_other (Ne.symm hne)]; exact f6
                · rw [Om.set_at]; congr 1
                  exact rowsQ_congr fun i j _ _ => by
                    by_cases z2 : i = u
                    · subst z2
                      simp only [if_true, if_neg (show ¬ (i < i ∧ i ≠ pv.length) by lia), if_neg (show ¬ (pv.length < i ∧ pv.length ≠ pv.length) by lia)]
                      rw [if_pos ⟨by (exact Nat.le_refl _), hur⟩]
                    · simp only [if_neg z2]
                      by_cases z1 : i < u ∧ i ≠ pv.length
                      · rw [if_pos z1, if_pos ⟨by lia, z1.2⟩]
                      · rw [if_neg z1, if_neg (by lia)]
          · rintro σ5 om5 ⟨f1, f2, f3, f4, f5, f6⟩
            refine ⟨rfl, f1, f2, f3, ?_, f6⟩
            rw [f5]; congr 1
            have hlen : ((List.range n).map fun i : Nat => AV.dat (.int (i : Int))).length = n := by simp
            rw [hlen]
            exact rowsQ_congr fun i j hi _ => by
              unfold clrQ
              by_cases z1 : i = pv.length
              · rw [if_neg (by lia), if_pos z1]
              · rw [if_pos ⟨hi, z1⟩, if_neg z1]
        · rintro σ5 om5 ⟨f1, f2, f3, f5, f6⟩
          refine Wx.cons (Ws.expr (We.append f2 f6 (We.name f3 ⟨f6, by simp; lia, rfl, ?_⟩)))
          refine Wx.nil ⟨f1, f2, clrQ pv.length t F2, pv ++ [t], ?_, ?_, ?_, fun i j hi hj => ?_, ?_⟩
          · rw [Om.set_other hne]; exact f5
          · rw [Om.set_at]; simp
          · rw [hf']; exact q2
          · unfold clrQ
            by_cases z1 : i = pv.length
            · rw [if_pos z1]; exact (hF2 _ _ hi hj).mono (by (clear hn h0 hpl hlt hf hf' hb3 hbl hlen hal h1 h2 hi0 hrn hi hj z1; lia))
            · rw [if_neg z1]
              exact ((hF2' _ _ hi hj z1).sub ((hF2' _ _ hi hlt z1).mul (hF2 _ _ hrn hj))).mono (by lia)
          · simp; omega
  · rintro σ1 om1 ⟨g1, g2, F, pv, hD, hP, q, hz, hpl⟩
    have hlen : ((List.range n).map fun i : Nat => AV.dat (.int (i : Int))).length = n := by simp
    rw [hlen, Nat.sub_self, EchQ] at q
    refine Wx.cons (Ws.ret (We.tup (Wl.cons (We.freeze (We.name g1 ⟨D, (List.range n).map fun i => rowQ n (F i), rfl, hD, ?_⟩)))))
    have hP' : (om1.del D) Dp = some ((pv.map fun c : Nat => PyData.int c).map AV.dat) := by
      simp only [Om.del, if_neg (fun e : Dp = D => hne e.symm)]
      rw [hP, List.map_map]; rfl
    refine Wl.cons (We.freeze (We.name g2 ⟨Dp, pv.map fun c : Nat => PyData.int c, rfl, hP', Wl.nil ⟨[_, _], rfl, by simp, hR pv _ _ q⟩⟩))
theorem rank_spec {n : Nat} {F : Nat → Nat → Rat} {R : List Nat → Prop} (hn : n ≤ 6) (h0 : 0 < n) (hz : ∀ i j, i < n → j < n → SzQ 3 (F i j)) (q : EchQ n n 0 F [] R) (hL : ∀ pv, R pv → pv.length ≤ 100)
    (hR : ∀ (pv : List Nat) om', R pv → Φ (.dat (.int pv.length)) om') : Wf C (k + 6) "rank" om [.dat (matQ n F)] Φ := by
  refine Wf.intro (d := fnAt 44) (List.mem_of_getElem? (i := 33) (by kernel_rfl)) (names := ["a"]) (by rintro pm code doc (_ | ⟨v1, _ | ⟨v2, r⟩⟩) h <;> first | rfl | simp at h; done) rfl (by decide) (kd_of (by rfl)) ?_
  refine Wx.cons (Ws.ret (We.bLenD (We.subN (We.call (Wl.cons (We.name (by rfl) (Wl.nil (echelon_spec hn h0 hz q fun pv rows om' h => ?_)))) (by rfl) (has_of 32 (by kernel_rfl)))) (by rfl)))
  refine We.cInt ⟨_, 1, _, .inr rfl, rfl, rfl, by simp, _, rfl, by have := hL pv h; simp; (exact Nat.le_trans (by assumption) (Nat.le_of_ble_eq_true rfl)), ?_⟩
  rw [List.length_map]
  exact hR pv om' h
end
section
variable {C : Cx} {k : Nat} {om : Om} {Φ : AV → Om → Prop}
theorem We.compI {sc : Scope} {σ : Sto} {elt iter : PySem.Expr} {x : Str} {px pos : Pos} {scope : Scope} {g : Nat → PyData} (y : Wi C k sc σ om iter (fun items om1 => (∀ i a, items[i]? = some a → ∀ om', We C k (rl sc scope) ((sigC scope σ).set x a) om' elt (fun b om3 => b = .dat (g i) ∧ om3 = om')) ∧ Φ (.dat (.list ((List.range items.length).map g))) om1))
    (bk : blockOk sc scope = true) (hx : scope.names.lookup x = some .local ∨ scope.names.lookup x = some .cell)
    (hs : ∀ env x, foldedSetIterable iter env x = pure x := by intros; rfl) : We C k sc σ om (.ListComp elt [⟨.Name x px, iter, [], 0⟩] scope pos) Φ := by
  refine We.comp (y.mono fun items om1 ⟨h1, h2⟩ => ⟨fun i acc om2 => acc = ((List.range i).map g).map AV.dat ∧ om2 = om1, ⟨rfl, rfl⟩, ?_, ?_, ?_⟩) bk hx hs
  · rintro i acc om2 ⟨rfl, _⟩; simp
  · rintro i a acc om2 D hi hD ⟨rfl, rfl⟩
    refine (h1 i a hi _).mono ?_
    rintro b om3 ⟨rfl, rfl⟩
    exact ⟨om2, rfl, hD, by rw [List.range_succ, List.map_append, List.map_append]; rfl, rfl⟩
  · rintro acc om2 ⟨rfl, rfl⟩
    exact NewL.dat h2
theorem Ws.assignCompI {sc : Scope} {σ : Sto} {elt iter : PySem.Expr} {x z : Str} {px pz pos spos : Pos} {scope : Scope} {g : Nat → PyData} {Φ : Fl → Sto → Om → Prop}
    (y : Wi C k sc σ om iter (fun items om1 => (∀ i a, items[i]? = some a → ∀ om', We C k (rl sc scope) ((sigC scope σ).set x a) om' elt (fun b om3 => b = .dat (g i) ∧ om3 = om')) ∧ Φ .nx (σ.set z (.dat (.list ((List.range items.length).map g)))) om1))
    (bk : blockOk sc scope = true) (hx : scope.names.lookup x = some .local ∨ scope.names.lookup x = some .cell) (hz : sc.names.lookup z = some .local)
    (hsw : ∀ env, env.scope = sc → swapsWith (.ListComp elt [⟨.Name x px, iter, [], 0⟩] scope pos) (some (.Name z pz)) spos.line env = pure true)
    (hs : ∀ env x, foldedSetIterable iter env x = pure x := by intros; rfl) : Ws C k sc σ om (.Assign [.Name z pz] (.ListComp elt [⟨.Name x px, iter, [], 0⟩] scope pos) spos) Φ := by
  refine Ws.assignComp (y.mono fun items om1 ⟨h1, h2⟩ => ⟨fun i acc om2 => acc = ((List.range i).map g).map AV.dat ∧ om2 = om1, ⟨rfl, rfl⟩, ?_, ?_, ?_⟩) bk hx hz hsw hs
  · rintro i acc om2 ⟨rfl, _⟩; simp
  · rintro i a acc om2 D hi hD ⟨rfl, rfl⟩
    refine (h1 i a hi _).mono ?_
    rintro b om3 ⟨rfl, rfl⟩
    exact ⟨om2, rfl, hD, by rw [List.range_succ, List.map_append, List.map_append]; rfl, rfl⟩
  · rintro acc om2 ⟨rfl, rfl⟩
    exact NewL.dat h2
theorem item_range {n i : Nat} {a : AV} (h : ((List.range n).map fun i : Nat => AV.dat (.int (i : Int)))[i]? = some a) : i < n ∧ a = .dat (.int (i : Int)) := by
  have hlt : i < n := by have := (List.getElem?_eq_some_iff.mp h).1; simpa using this
  refine ⟨hlt, ?_⟩
  rw [List.getElem?_map, List.getElem?_range hlt] at h
  simpa using h.symm
theorem item_map {n i : Nat} {a : AV} {g : Nat → PyData} (h : (((List.range n).map g).map AV.dat)[i]? = some a) : i < n ∧ a = .dat (g i) := by
  have hlt : i < n := by have := (List.getElem?_eq_some_iff.mp h).1; simpa using this
  refine ⟨hlt, ?_⟩
  rw [List.getElem?_map, List.getElem?_map, List.getElem?_range hlt] at h
  simpa using h.symm
noncomputable def mulF (n : Nat) (M N : Nat → Nat → Int) (i c : Nat) : Int := ((List.range n).map fun t => M i t * N t c).sum
theorem rowE_map {n f} : ((List.range n).map fun j => PyData.int (f j)) = (((List.range n).map f).map PyData.int) := by simp
theorem wmul_spec {n : Nat} {M N : Nat → Nat → Int} (hn : n ≤ 100) (h0 : 0 < n) (hz : ∀ i j, i < n → j < n → Sz 64 (M i j)) (h : Φ (.dat (matE n (mulF n M N))) om) : Wf C (k + 1) "whole_mul" om [.dat (matE n M), .dat (matE n N)] Φ := by
  refine Wf.intro (d := fnAt 46) (List.mem_of_getElem? (i := 34) (by kernel_rfl)) (names := ["a", "b"]) (by rintro pm code doc (_ | ⟨v1, _ | ⟨v2, _ | ⟨v3, r⟩⟩⟩) h <;> first | rfl | simp at h; done) rfl (by decide) (kd_of (by rfl)) ?_
  refine Wx.cons (Ws.assign (We.ifexp (Wt.cmp (We.bLenD (We.name (by rfl) ⟨_, rfl, by simp; (exact Nat.le_trans (by assumption) (Nat.le_of_ble_eq_true rfl)), We.cInt ⟨_, rfl, ?_⟩⟩) (by rfl)))) (.inr rfl))
  have : decide ((0 : Int) < ((((List.range n).map fun i => rowE n (N i)).length : Nat) : Int)) = true := decide_eq_true (by simp; omega)
  rw [this, if_pos rfl]
  refine We.bLenD (We.subN (We.name (by rfl) (We.cInt ⟨(List.range n).map fun i => rowE n (N i), 0, rowE n (N 0), .inl rfl, rfl, by simp [h0], by simp; (exact Nat.le_trans (by assumption) (Nat.le_of_ble_eq_true rfl)), _, rfl, by simp; (exact Nat.le_trans (by assumption) (Nat.le_of_ble_eq_true rfl)), ?_⟩))) (by rfl)
  refine Wx.cons (Ws.ret (We.compI (g := fun i => rowE n (mulF n M N i)) (Wi.list (We.name (by rfl) ⟨_, rfl, by simp; (exact Nat.le_trans (by assumption) (Nat.le_of_ble_eq_true rfl)), ?_, ?_⟩)) (by rfl) (.inr (by rfl))))
  · intro i a hi om'
    obtain ⟨hin, rfl⟩ := item_map hi
    refine We.compI (g := fun c => .int (mulF n M N i c)) (Wi.range1 (We.name (by rfl) ⟨n, by simp, by (exact Nat.le_trans (by assumption) (Nat.le_of_ble_eq_true rfl)), ?_, ?_⟩) (by rfl)) (by rfl) (.inr (by rfl))
    · intro c a hc om2
      obtain ⟨hcn, rfl⟩ := item_range hc
      refine We.bSum (We.compI (g := fun t => .int (M i t * N t c)) (Wi.range1 (We.bLenD (We.name (by rfl) ⟨_, rfl, by simp; (exact Nat.le_trans (by assumption) (Nat.le_of_ble_eq_true rfl)), n, by simp, by (exact Nat.le_trans (by assumption) (Nat.le_of_ble_eq_true rfl)), ?_, ?_⟩) (by rfl)) (by rfl)) (by rfl) (.inl (by rfl))) (by rfl)
      · intro t a ht om3
        obtain ⟨htn, rfl⟩ := item_range ht
        refine We.mul (We.subN (We.name (by rfl) (We.name Sto.set_eq ⟨((List.range n).map (M i)).map .int, t, .int (M i t), .inl rfl, rfl, by simp [htn], by simp; (exact Nat.le_trans (by assumption) (Nat.le_of_ble_eq_true rfl)), ?_⟩)))
        refine We.subN (We.subN (We.name (by rfl) (We.name Sto.set_eq ⟨(List.range n).map fun i => rowE n (N i), t, rowE n (N t), .inl rfl, rfl, by simp [htn], by simp; (exact Nat.le_trans (by assumption) (Nat.le_of_ble_eq_true rfl)), ?_⟩)))
        refine We.name (by rfl) ⟨((List.range n).map (N t)).map .int, c, .int (N t c), .inl rfl, rfl, by simp [hcn], by simp; (exact Nat.le_trans (by assumption) (Nat.le_of_ble_eq_true rfl)), _, _, rfl, rfl, mulOk_l (hz i t hin htn), rfl, rfl⟩
      · refine ⟨(List.range n).map fun t => M i t * N t c, ?_, rfl, rfl⟩
        simp
    · refine ⟨?_, rfl⟩
      simp [rowE, encZ]
  · show Φ _ om
    simpa [matE] using h
end
section
variable {C : Cx} {k : Nat} {om : Om} {Φ : AV → Om → Prop}
noncomputable def encP (l : List Rat) : PyData := .list (l.map encQ)
noncomputable def qtr : List Rat → List Rat
  | [] => []
  | x :: r => match qtr r with
    | [] => if x = 0 then [] else [x]
    | t => x :: t
theorem qtr_zero : ∀ {l : List Rat}, (∀ i, i < l.length → l.getD i 0 = 0) → qtr l = []
  | [], _ => rfl
  | x :: r, h => by
    have h0 := h 0 (by simp)
    simp at h0
    have hr : qtr r = [] := qtr_zero fun i hi => by simpa using h (i + 1) (by simp; lia)
    simp [qtr, hr, h0]
theorem qtr_char : ∀ {l : List Rat} {n : Nat}, n ≤ l.length → (∀ i, n ≤ i → i < l.length → l.getD i 0 = 0) → (n = 0 ∨ l.getD (n - 1) 0 ≠ 0) → l.take n = qtr l
  | [], n, _, _, _ => by simp [qtr]
  | x :: r, 0, _, h, _ => by rw [qtr_zero fun i hi => h i (Nat.zero_le _) hi]; rfl
  | x :: r, n + 1, hn, h, hc => by
    have ih := qtr_char (l := r) (n := n) (by simpa using hn) (fun i h1 h2 => by simpa using h (i + 1) (by lia) (by simpa using h2))
    rcases Nat.eq_zero_or_pos n with rfl | hp
    · have hx : x ≠ 0 := by simpa using hc
      have hr := ih (.inl rfl)
      simp only [List.take_zero] at hr
      simp [qtr, ← hr, hx]
    · have hl : r.getD (n - 1) 0 ≠ 0 := by
        obtain ⟨m, rfl⟩ : ∃ m, n = m + 1 := ⟨n - 1, by lia⟩
        simpa using hc
      have hr := ih (.inr hl)
      rw [List.take_succ_cons, qtr, ← hr]
      cases r with
      | nil => simp at hn; lia
      | cons y r =>
        obtain ⟨m, rfl⟩ : ∃ m, n = m + 1 := ⟨n - 1, by lia⟩
        simp
theorem qtr_len : ∀ l : List Rat, (qtr l).length ≤ l.length
  | [] => Nat.le_refl _
  | x :: r => by
    have := qtr_len r
    unfold qtr
    split
    · split <;> simp
    · rename_i h; simp; lia
theorem qtr_sub {l : List Rat} : ∀ x ∈ qtr l, x ∈ l := by
  induction l with
  | nil => intro x hx; cases hx
  | cons y r ih =>
    intro x hx
    unfold qtr at hx
    split at hx
    · split at hx
      · cases hx
      · simp at hx; simp [hx]
    · rcases List.mem_cons.mp hx with rfl | hx
      · exact .head _
      · exact .tail _ (ih x hx)
theorem encP_take {l : List Rat} {n : Nat} : PyData.list ((l.map encQ).take n) = encP (l.take n) := by simp [encP, List.map_take]
theorem qtrim_spec {l : List Rat} (hn : l.length ≤ 2 ^ 20) (h : Φ (.dat (encP (qtr l))) om) : Wf C (k + 1) "qtrim" om [.dat (encP l)] Φ := by
  refine Wf.intro (d := fnAt 48) (List.mem_of_getElem? (i := 35) (by kernel_rfl)) (names := ["row"]) (by rintro pm code doc (_ | ⟨v1, _ | ⟨v2, r⟩⟩) h <;> first | rfl | simp at h; done) rfl (by decide) (kd_of (by rfl)) ?_
  refine Wx.cons (Ws.assign (We.bLenD (We.name (by rfl) ⟨_, rfl, by simpa using hn, ?_⟩) (by rfl)) (.inl rfl))
  refine Wx.cons (Ws.while (fun n σ1 om1 => σ1 "row" = some (.dat (encP l)) ∧ σ1 "size" = some (.dat (.int n)) ∧ n ≤ l.length ∧ (∀ i, n ≤ i → i < l.length → l.getD i 0 = 0) ∧ om1 = om) l.length ⟨rfl, ?_, Nat.le_refl _, fun i h1 h2 => by lia, rfl⟩ ?_)
  · rw [Sto.set_eq]; simp
  rintro n σ1 om1 ⟨hr, hs, hnl, hz, rfl⟩
  have fin : (n = 0 ∨ l.getD (n - 1) 0 ≠ 0) → Φ (.dat (.list ((l.map encQ).take (if (n : Int) < 0 then (((l.map encQ).length : Int) + n).toNat else (n : Int).toNat)))) om1 := fun hc => by
    rw [if_neg (by lia), Int.toNat_natCast, encP_take, qtr_char hnl hz hc]; exact h
  refine Wt.and (Wt.cmp (We.name hs (We.cInt ⟨_, rfl, ?_⟩)))
  by_cases hn0 : n = 0
  · subst hn0
    have hd : decide ((0 : Int) < ((0 : Nat) : Int)) = false := by decide
    rw [hd, if_neg (by decide)]
    exact Wx.cons (Ws.ret (We.bListD (We.uptoD hr (We.name hs ⟨_, rfl, by simpa using hn, _, rfl, by simp, fin (.inl rfl)⟩)) (by rfl)))
  · have hd : decide ((0 : Int) < n) = true := decide_eq_true (by lia)
    rw [hd, if_pos rfl]
    obtain ⟨m, rfl⟩ : ∃ m, n = m + 1 := ⟨n - 1, by lia⟩
    have hm : m < l.length := by lia
    have hg : l[m]? = some (l.getD m 0) := by rw [List.getD_eq_getElem?_getD, List.getElem?_eq_getElem hm]; rfl
    refine Wt.cmp (We.subN (We.subN (We.name hr (We.sub (We.name hs (We.cInt ⟨_, _, rfl, rfl, l.map encQ, m, encQ (l.getD m 0), .inl rfl, ?_, by rw [List.getElem?_map, hg]; rfl, by simpa using hn, We.cInt ⟨_, 0, _, .inr rfl, rfl, rfl, by simp, We.cInt ⟨_, rfl, ?_⟩⟩⟩))))))
    · congr 2; lia
    by_cases hc : l.getD m 0 = 0
    · have : ((l.getD m 0).num == 0) = true := by rw [hc]; rfl
      rw [this, if_pos rfl]
      refine Wx.cons (Ws.augSub hs (We.cInt ⟨_, rfl, Wx.nil ⟨m, by lia, ?_, ?_, by lia, fun i h1 h2 => ?_, rfl⟩⟩) (.inl rfl))
      · rw [Sto.set_ne (by decide)]; exact hr
      · rw [Sto.set_eq]; congr 3; lia
      · by_cases hi : i = m
        · subst hi; exact hc
        · exact hz i (by lia) h2
    · have : ((l.getD m 0).num == 0) = false := by simpa using num_ne hc
      rw [this, if_neg (by decide)]
      exact Wx.cons (Ws.ret (We.bListD (We.uptoD hr (We.name hs ⟨_, rfl, by simpa using hn, _, rfl, by simp <;> lia, fin (.inr (by simpa using hc))⟩)) (by rfl)))
theorem qdegree_spec {l : List PyData} (hn : l.length ≤ 2 ^ 20) (h : Φ (.dat (.int ((l.length : Int) - 1))) om) : Wf C (k + 1) "qdegree" om [.dat (.list l)] Φ := by
  refine Wf.intro (d := fnAt 49) (List.mem_of_getElem? (i := 36) (by kernel_rfl)) (names := ["p"]) (by rintro pm code doc (_ | ⟨v1, _ | ⟨v2, r⟩⟩) h <;> first | rfl | simp at h; done) rfl (by decide) (kd_of (by rfl)) ?_
  exact Wx.cons (Ws.ret (We.sub (We.bLenD (We.name (by rfl) ⟨_, rfl, hn, We.cInt ⟨_, _, rfl, rfl, h⟩⟩) (by rfl))))
noncomputable def SzP (n : Nat) (l : List Rat) : Prop := ∀ i, SzQ n (l.getD i 0)
theorem SzP.mono {m n l} (h : SzP m l) (hm : m ≤ n) : SzP n l := fun i => (h i).mono hm
noncomputable def padQ (a b : List Rat) : List Rat := (List.range (max a.length b.length)).map fun i => a.getD i 0 + b.getD i 0
noncomputable def qadd (a b : List Rat) : List Rat := qtr (padQ a b)
noncomputable def qneg (a : List Rat) : List Rat := a.map fun x => -x
noncomputable def qsub (a b : List Rat) : List Rat := qadd a (qneg b)
noncomputable def qscale (p : List Rat) (r : Rat) : List Rat := if r = 0 then [] else p.map (· * r)
noncomputable def qraise (p : List Rat) (n : Nat) : List Rat := if p = [] then [] else List.replicate n 0 ++ p
theorem getD_map0 {f : Rat → Rat} (h0 : f 0 = 0) {l : List Rat} {i : Nat} : (l.map f).getD i 0 = f (l.getD i 0) := by
  rw [List.getD_eq_getElem?_getD, List.getD_eq_getElem?_getD, List.getElem?_map]
  cases l[i]? <;> simp [h0]
theorem SzP.mem {n : Nat} {l : List Rat} (h : SzP n l) {x : Rat} (hx : x ∈ l) : SzQ n x := by
  obtain ⟨i, hi, rfl⟩ := List.getElem_of_mem hx
  have := h i
  rw [List.getD_eq_getElem?_getD, List.getElem?_eq_getElem hi] at this
  exact this
theorem We.itemQ {sc : Scope} {σ : Sto} {at_ nm : Str} {p1 p2 p3 p4 p5 p6 p7 p8 p9 p0 : Pos} {l : List Rat} {i : Nat} (hx : σ at_ = some (.dat (.int i))) (hn : σ nm = some (.dat (encP l))) (hl : l.length ≤ 2 ^ 20) (hf : sc.names.lookup (Str.ofString "len") = some .globalImplicit) (hf0 : sc.names.lookup (Str.ofString "R0") = some .globalImplicit)
    (h : Φ (.dat (encQ (l.getD i 0))) om) (d1 : (at_ == ("__debug__" : Str)) = false := by decide) (d2 : (at_ == ("__classdict__" : Str)) = false := by decide) (d3 : (nm == ("__debug__" : Str)) = false := by decide) (d4 : (nm == ("__classdict__" : Str)) = false := by decide) :
    We C k sc σ om (.IfExp (.Compare (.Name at_ p1) [.Lt] [.Call (.Name (Str.ofString "len") p2) [.Name nm p3] [] p4] p5) (.Subscript (.Name nm p6) (.Name at_ p7) p8) (.Name (Str.ofString "R0") p9) p0) Φ := by
  refine We.ifexp (Wt.cmp (We.name hx (We.bLenD (We.name hn ⟨_, rfl, by simpa using hl, _, rfl, ?_⟩ d3 d4) hf) d1 d2))
  by_cases hlt : i < l.length
  · have : decide ((i : Int) < ((l.map encQ).length : Nat)) = true := decide_eq_true (by simpa using hlt)
    rw [this, if_pos rfl]
    have hg : l[i]? = some (l.getD i 0) := by rw [List.getD_eq_getElem?_getD, List.getElem?_eq_getElem hlt]; rfl
    exact We.subN (We.name hn (We.name hx ⟨_, _, _, .inl rfl, rfl, by rw [List.getElem?_map, hg]; rfl, by simpa using hl, h⟩ d1 d2) d3 d4)
  · have : decide ((i : Int) < ((l.map encQ).length : Nat)) = false := decide_eq_false (by simpa using hlt)
    rw [this, if_neg (by decide)]
    refine We.g0 hf0 ?_
    rwa [List.getD_eq_getElem?_getD, List.getElem?_eq_none (by lia)] at h
theorem qadd_spec {a b : List Rat} {m n : Nat} (ha : a.length ≤ 1000) (hb : b.length ≤ 1000) (sa : SzP m a) (sb : SzP n b) (hs : m + n ≤ 100000000) (h : Φ (.dat (encP (qadd a b))) om) : Wf C (k + 4) "qadd" om [.dat (encP a), .dat (encP b)] Φ := by
  refine Wf.intro (d := fnAt 50) (List.mem_of_getElem? (i := 37) (by kernel_rfl)) (names := ["a", "b"]) (by rintro pm code doc (_ | ⟨v1, _ | ⟨v2, _ | ⟨v3, r⟩⟩⟩) h <;> first | rfl | simp at h; done) rfl (by decide) (kd_of (by rfl)) ?_
  refine Wx.cons (Ws.assign (We.bMax (We.bLenD (We.name (by rfl) ⟨_, rfl, by simp; lia, We.bLenD (We.name (by rfl) ⟨_, rfl, by simp; lia, _, _, rfl, rfl, ?_⟩) (by rfl)⟩) (by rfl)) (by rfl)) (.inl rfl))
  have em : Max.max ((a.map encQ).length : Int) ((b.map encQ).length : Int) = ((max a.length b.length : Nat) : Int) := by simp; lia
  rw [em]
  refine Wx.cons (Ws.ret (We.call (Wl.cons (We.compI (g := fun i => encQ (a.getD i 0 + b.getD i 0)) (Wi.range1 (We.name (by rfl) ⟨_, rfl, by lia, ?_, ?_⟩) (by rfl)) (by rfl) (.inl (by rfl)))) (by rfl) (has_of 35 (by kernel_rfl))))
  · intro i x hx om'
    obtain ⟨hi, rfl⟩ := item_range hx
    refine We.call (Wl.cons (We.itemQ (at_ := "at") (nm := "a") Sto.set_eq (by rfl) (by lia) (by rfl) (by rfl) (Wl.cons (We.itemQ (at_ := "at") (nm := "b") Sto.set_eq (by rfl) (by lia) (by rfl) (by rfl) (Wl.nil (radd_spec (sa i) (sb i) hs ⟨rfl, rfl⟩)))))) (by rfl) (has_of 21 (by kernel_rfl))
  · rw [List.length_map, List.length_range]
    have e : PyData.list ((List.range (max a.length b.length)).map fun i => encQ (a.getD i 0 + b.getD i 0)) = encP (padQ a b) := by simp [encP, padQ, Function.comp_def]
    rw [e]
    exact Wl.nil (qtrim_spec (by simp [padQ]; lia) h)
theorem mem_encs {l : List Rat} {a : AV} (h : a ∈ (l.map encQ).map AV.dat) : ∃ i ∈ l, a = .dat (encQ i) := by
  simp only [List.map_map, List.mem_map] at h
  obtain ⟨i, hi, rfl⟩ := h
  exact ⟨i, hi, rfl⟩
theorem onQ_mapL {f : Rat → Rat} {l : List Rat} : ((l.map encQ).map AV.dat).map (onQ f) = ((l.map f).map encQ).map AV.dat := by
  simp only [List.map_map]
  exact List.map_congr_left fun j _ => by simp only [Function.comp]; exact onQ_enc
theorem qneg_spec {l : List Rat} (hn : l.length ≤ 2 ^ 20) (h : Φ (.dat (encP (qneg l))) om) : Wf C (k + 2) "qneg" om [.dat (encP l)] Φ := by
  refine Wf.intro (d := fnAt 51) (List.mem_of_getElem? (i := 38) (by kernel_rfl)) (names := ["p"]) (by rintro pm code doc (_ | ⟨v1, _ | ⟨v2, r⟩⟩) h <;> first | rfl | simp at h; done) rfl (by decide) (kd_of (by rfl)) ?_
  refine Wx.cons (Ws.ret (We.compM (g := onQ fun x => -x) (Wi.list (We.name (by rfl) ⟨_, rfl, by simpa using hn, ?_, ?_⟩)) (by rfl) (.inl (by rfl))))
  · intro a ha om'
    obtain ⟨i, _, rfl⟩ := mem_encs ha
    exact We.call (Wl.cons (We.name Sto.set_eq (Wl.nil (rneg_spec ⟨(onQ_enc (f := fun x => -x)).symm, rfl⟩)))) (by rfl) (has_of 25 (by kernel_rfl))
  · rw [onQ_mapL]; exact NewL.dat h
theorem qneg_sz {m : Nat} {l : List Rat} (h : SzP m l) : SzP m (qneg l) := fun i => by rw [qneg, getD_map0 (by rfl)]; exact (h i).neg
theorem qsub_spec {a b : List Rat} {m n : Nat} (ha : a.length ≤ 1000) (hb : b.length ≤ 1000) (sa : SzP m a) (sb : SzP n b) (hs : m + n ≤ 100000000) (h : Φ (.dat (encP (qsub a b))) om) : Wf C (k + 5) "qsub" om [.dat (encP a), .dat (encP b)] Φ := by
  refine Wf.intro (d := fnAt 52) (List.mem_of_getElem? (i := 39) (by kernel_rfl)) (names := ["a", "b"]) (by rintro pm code doc (_ | ⟨v1, _ | ⟨v2, _ | ⟨v3, r⟩⟩⟩) h <;> first | rfl | simp at h; done) rfl (by decide) (kd_of (by rfl)) ?_
  exact Wx.cons (Ws.ret (We.call (Wl.cons (We.name (by rfl) (Wl.cons (We.call (Wl.cons (We.name (by rfl) (Wl.nil (qneg_spec (by lia) (Wl.nil (qadd_spec ha (by simpa [qneg] using hb) sa (qneg_sz sb) hs h)))))) (by rfl) (has_of 38 (by kernel_rfl)))))) (by rfl) (has_of 37 (by kernel_rfl))))
theorem qscale_spec {p : List Rat} {x : Rat} {m n : Nat} (hp : p.length ≤ 1000) (sp : SzP m p) (sx : SzQ n x) (hs : m + n ≤ 100000000) (h : Φ (.dat (encP (qscale p x))) om) : Wf C (k + 4) "qscale" om [.dat (encP p), .dat (encQ x)] Φ := by
  refine Wf.intro (d := fnAt 53) (List.mem_of_getElem? (i := 40) (by kernel_rfl)) (names := ["p", "r"]) (by rintro pm code doc (_ | ⟨v1, _ | ⟨v2, _ | ⟨v3, r⟩⟩⟩) h <;> first | rfl | simp at h; done) rfl (by decide) (kd_of (by rfl)) ?_
  refine Wx.cons (Ws.ret (We.ifexp (Wt.cmp (We.num (by rfl) (We.cInt ⟨_, rfl, ?_⟩)))))
  by_cases hx : x = 0
  · subst hx
    exact We.lst (Wl.nil ⟨by decide, .inl ⟨[], rfl, h⟩⟩)
  · have : (x.num != 0) = true := by simpa using num_ne hx
    rw [this, if_pos rfl]
    refine We.compM (g := onQ fun i => i * x) (Wi.list (We.name (by rfl) ⟨_, rfl, by simp; lia, ?_, ?_⟩)) (by rfl) (.inl (by rfl))
    · intro a ha om'
      obtain ⟨i, hi, rfl⟩ := mem_encs ha
      exact We.call (Wl.cons (We.name Sto.set_eq (Wl.cons (We.name (by rfl) (Wl.nil (rmul_spec (sp.mem hi) sx hs ⟨(onQ_enc (f := fun i => i * x)).symm, rfl⟩)))))) (by rfl) (has_of 23 (by kernel_rfl))
    · rw [onQ_mapL]; refine NewL.dat ?_
      unfold qscale at h; rw [if_neg hx] at h; exact h
theorem qraise_spec {p : List Rat} {n : Nat} (hp : p.length ≤ 1000) (hn : n ≤ 1000) (h : Φ (.dat (encP (qraise p n))) om) : Wf C (k + 1) "qraise" om [.dat (encP p), .dat (.int n)] Φ := by
  refine Wf.intro (d := fnAt 54) (List.mem_of_getElem? (i := 41) (by kernel_rfl)) (names := ["p", "many"]) (by rintro pm code doc (_ | ⟨v1, _ | ⟨v2, _ | ⟨v3, r⟩⟩⟩) h <;> first | rfl | simp at h; done) rfl (by decide) (kd_of (by rfl)) ?_
  refine Wx.cons (Ws.ret (We.ifexp (Wt.cmp (We.bLenD (We.name (by rfl) ⟨_, rfl, by simp; lia, We.cInt ⟨_, rfl, ?_⟩⟩) (by rfl)))))
  rcases p with _ | ⟨x, r⟩
  · exact We.lst (Wl.nil ⟨by decide, .inl ⟨[], rfl, h⟩⟩)
  · have : decide ((0 : Int) < (List.map encQ (x :: r)).length) = true := decide_eq_true (by simp <;> lia)
    rw [this, if_pos rfl]
    refine We.addL (We.mulL (We.lst (Wl.cons (We.g0 (by rfl) (Wl.nil ⟨by decide, NewL.dat (ds := [encQ 0]) (We.name (by rfl) ⟨[.dat (encQ 0)], n, rfl, rfl, by lia, by lia, by simp; lia, .inl ⟨List.replicate n (encQ 0), by simp, We.bListD (We.name (by rfl) ⟨_, rfl, by simp at hp ⊢; lia, ?_⟩) (by rfl)⟩⟩)⟩)))))
    refine ⟨_, _, rfl, rfl, by simp at hp ⊢; lia, .inl ⟨(qraise (x :: r) n).map encQ, by simp [qraise], h⟩⟩
theorem from_z_spec {l : List Int} (hn : l.length ≤ 1000) (h : Φ (.dat (encP (l.map fun i : Int => (i : Rat)))) om) : Wf C (k + 1) "from_z" om [.dat (encZ l)] Φ := by
  refine Wf.intro (d := fnAt 58) (List.mem_of_getElem? (i := 45) (by kernel_rfl)) (names := ["z"]) (by rintro pm code doc (_ | ⟨v1, _ | ⟨v2, r⟩⟩) h <;> first | rfl | simp at h; done) rfl (by decide) (kd_of (by rfl)) ?_
  refine Wx.cons (Ws.ret (We.compM (g := fun x => match x with | .dat d => .dat (.tuple [d, .int 1]) | x => x) (Wi.list (We.name (by rfl) ⟨_, rfl, by simp; lia, ?_, ?_⟩)) (by rfl) (.inl (by rfl))))
  · intro a ha om'
    obtain ⟨d, hd, rfl⟩ := List.mem_map.mp ha
    exact We.tup (Wl.cons (We.name Sto.set_eq (Wl.cons (We.cInt (Wl.nil ⟨[_, _], rfl, by simp, rfl, rfl⟩)))))
  · have e : (((l.map PyData.int).map AV.dat).map (fun x => match x with | .dat d => .dat (.tuple [d, .int 1]) | x => x)) = ((l.map fun i : Int => (i : Rat)).map encQ).map AV.dat := by
      simp only [List.map_map]
      exact List.map_congr_left fun i _ => rfl
    rw [e]
    exact NewL.dat h
end
section
variable {C : Cx} {k : Nat} {om : Om} {Φ : AV → Om → Prop}
noncomputable def cq (l : List Rat) (i : Nat) : Rat := l.getD i 0
noncomputable def mulP (a b : List Rat) : Nat → Nat → Rat
  | 0, _ => 0
  | t + 1, s => mulP a b t s + (if t ≤ s then cq a t * cq b (s - t) else 0)
noncomputable def qmul (a b : List Rat) : List Rat := if a = [] ∨ b = [] then [] else (List.range (a.length + b.length - 1)).map (mulP a b a.length)
noncomputable def cfL (n : Nat) (f : Nat → Rat) : List AV := ((List.range n).map fun j => encQ (f j)).map .dat
theorem cfL_len {n f} : (cfL n f).length = n := by simp [cfL]
theorem cfL_get {n f j} (h : j < n) : (cfL n f)[j]? = some (.dat (encQ (f j))) := by simp [cfL, h]
theorem cfL_congr {n : Nat} {f g : Nat → Rat} (h : ∀ j, j < n → f j = g j) : cfL n f = cfL n g := by
  unfold cfL; congr 1; exact List.map_congr_left fun j hj => by rw [h j (List.mem_range.mp hj)]
theorem cfL_set {n f j x} : (cfL n f).set j (.dat (encQ x)) = cfL n (fun i => if i = j then x else f i) := by
  apply List.ext_getElem?
  intro i
  rw [List.getElem?_set]
  by_cases hj : j = i
  · subst hj
    by_cases hl : j < n <;> simp [cfL, hl]
  · have : ¬ i = j := fun e => hj e.symm
    by_cases hl : i < n <;> simp [cfL, hl, hj, this]
theorem Om.set_set {om : Om} {D l l'} : (om.set D l).set D l' = om.set D l' := by
  funext z; simp only [Om.set]; split <;> rfl
theorem items_enc {l : List Rat} {i : Nat} {a : AV} (h : ((l.map encQ).map AV.dat)[i]? = some a) : i < l.length ∧ a = .dat (encQ (cq l i)) := by
  have hlt : i < l.length := by have := (List.getElem?_eq_some_iff.mp h).1; simpa using this
  refine ⟨hlt, ?_⟩
  rw [List.getElem?_map, List.getElem?_map, List.getElem?_eq_getElem hlt] at h
  simp only [Option.map_some, Option.some.injEq] at h
  rw [cq, List.getD_eq_getElem?_getD, List.getElem?_eq_getElem hlt]
  exact h.symm
structure qmJ (a b : List Rat) (D : Addr) (N : Nat) (om : Om) (t : Nat) (σ1 : Sto) (om1 : Om) : Prop where
  c0 : σ1 "a" = some (.dat (encP a))
  c1 : σ1 "b" = some (.dat (encP b))
  c2 : σ1 "found" = some (.own D)
  c3 : om1 = om.set D (cfL N (mulP a b t))
structure qmK (a b : List Rat) (D : Addr) (N : Nat) (om : Om) (t : Nat) (u : Nat) (σ2 : Sto) (om2 : Om) : Prop where
  c0 : σ2 "a" = some (.dat (encP a))
  c1 : σ2 "b" = some (.dat (encP b))
  c2 : σ2 "found" = some (.own D)
  c3 : σ2 "one" = some (.dat (.int t))
  c4 : σ2 "left" = some (.dat (encQ (cq a t)))
  c5 : om2 = om.set D (cfL N fun s => mulP a b t s + (if t ≤ s ∧ s - t < u then cq a t * cq b (s - t) else 0))
set_option maxHeartbeats 2000000 in
theorem qmul_spec {a b : List Rat} {m n P : Nat} (ha : a.length ≤ 100) (hb : b.length ≤ 100) (sa : SzP m a) (sb : SzP n b) (sm : ∀ t s, SzQ P (mulP a b t s)) (hs : m + n + P ≤ 100000000)
    (h : Φ (.dat (encP (qmul a b))) om) : Wf C (k + 4) "qmul" om [.dat (encP a), .dat (encP b)] Φ := by
  refine Wf.intro (d := fnAt 55) (List.mem_of_getElem? (i := 42) (by kernel_rfl)) (names := ["a", "b"]) (by rintro pm code doc (_ | ⟨v1, _ | ⟨v2, _ | ⟨v3, r⟩⟩⟩) h <;> first | rfl | simp at h; done) rfl (by decide) (kd_of (by rfl)) ?_
  have lenz : ∀ l : List Rat, (((l.map encQ).length : Int) == 0) = decide (l = []) := fun l => by cases l <;> simp <;> lia
  refine Wx.cons (Ws.ite (Wt.or (Wt.cmp (We.bLenD (We.name (by rfl) ⟨_, rfl, by simp; lia, We.cInt ⟨_, rfl, ?_⟩⟩) (by rfl)))))
  rw [lenz]
  by_cases ha0 : a = []
  · rw [decide_eq_true ha0, if_pos rfl, if_pos rfl]
    refine Wx.cons (Ws.ret (We.lst (Wl.nil ⟨by decide, .inl ⟨[], rfl, ?_⟩⟩)))
    rw [qmul, if_pos (.inl ha0)] at h; exact h
  rw [decide_eq_false ha0, if_neg (by decide)]
  refine Wt.cmp (We.bLenD (We.name (by rfl) ⟨_, rfl, by simp; lia, We.cInt ⟨_, rfl, ?_⟩⟩) (by rfl))
  rw [lenz]
  by_cases hb0 : b = []
  · rw [decide_eq_true hb0, if_pos rfl]
    refine Wx.cons (Ws.ret (We.lst (Wl.nil ⟨by decide, .inl ⟨[], rfl, ?_⟩⟩)))
    rw [qmul, if_pos (.inr hb0)] at h; exact h
  rw [decide_eq_false hb0, if_neg (by decide)]
  rw [qmul, if_neg (fun q => q.elim ha0 hb0)] at h
  have hap : 0 < a.length := List.length_pos_iff.mpr ha0
  have hbp : 0 < b.length := List.length_pos_iff.mpr hb0
  refine Wx.nil (Wx.cons (Ws.assign (We.mulL (We.lst (Wl.cons (We.g0 (by rfl) (Wl.nil ⟨by decide, NewL.dat (ds := [encQ 0]) ?_⟩))))) (.inl rfl)))
  refine We.sub (We.add (We.bLenD (We.name (by rfl) ⟨_, rfl, by simp; lia, We.bLenD (We.name (by rfl) ⟨_, rfl, by simp; lia, _, _, rfl, rfl, We.cInt ⟨_, _, rfl, rfl, ?_⟩⟩) (by rfl)⟩) (by rfl)))
  have eN : ((a.map encQ).length : Int) + ((b.map encQ).length : Int) - 1 = ((a.length + b.length - 1 : Nat) : Int) := by simp; lia
  rw [eN]
  generalize hN : a.length + b.length - 1 = N at *
  refine ⟨[.dat (encQ 0)], N, rfl, rfl, by lia, by lia, by simp; lia, NewL.own fun D hD => ?_⟩
  have eL : (List.replicate (N : Int).toNat [AV.dat (encQ 0)]).flatten = cfL N (fun _ => 0) := by
    rw [Int.toNat_natCast]
    apply List.ext_getElem?
    intro i
    by_cases hi : i < N <;> simp [cfL, hi]
  rw [eL]
  refine Wx.cons (Ws.forT (Wi2.enum (We.name (by rfl) ⟨_, rfl, by simp; lia, ?_⟩) (by rfl)) (.inl rfl) (.inl rfl))
  refine ⟨(qmJ a b D N om), ⟨rfl, rfl, rfl, rfl⟩, ?_, ?_⟩
  · rintro t x σ1 om1 hi ⟨g1, g2, g3, rfl⟩
    obtain ⟨hta, rfl⟩ := items_enc hi
    refine Wx.cons (Ws.forT (Wi2.enum (We.name g2 ⟨_, rfl, by simp; lia, ?_⟩) (by rfl)) (.inl rfl) (.inl rfl))
    refine ⟨(qmK a b D N om t), ⟨g1, g2, g3, by rfl, by rfl, ?_⟩, ?_, ?_⟩
    · congr 1
      exact cfL_congr fun s _ => by rw [if_neg (by lia)]; grind
    · rintro u y σ2 om2 hj ⟨f1, f2, f3, f4, f5, rfl⟩
      obtain ⟨hub, rfl⟩ := items_enc hj
      have hs0 : t + u < N := by lia
      have hget := cfL_get (n := N) (f := fun s => mulP a b t s + (if t ≤ s ∧ s - t < u then cq a t * cq b (s - t) else 0)) hs0
      have hcur : mulP a b t (t + u) + (if t ≤ t + u ∧ t + u - t < u then cq a t * cq b (t + u - t) else 0) = mulP a b t (t + u) := by rw [if_neg (by lia)]; grind
      simp only [hcur] at hget
      have eix : (t : Int) + (u : Int) = ((t + u : Nat) : Int) := by lia
      refine Wx.cons (Ws.assignSub (We.call (Wl.cons (We.sub1 (We.name f3 (We.add (We.name f4 (We.name (by rfl) ⟨_, _, rfl, rfl, (t + u : Nat), cfL N _, t + u, _, ?_, Om.set_at, by rw [cfL_len]; lia, by rw [cfL_len]; exact pyIx_nat hs0, hget, ?_⟩)))))) (by rfl) (has_of 21 (by kernel_rfl))))
      · rw [eix]
      refine Wl.cons (We.call (Wl.cons (We.name f5 (Wl.cons (We.name (by rfl) (Wl.nil (rmul_spec (sa t) (sb u) (by lia) (Wl.nil (radd_spec (sm t (t + u)) ((sa t).mul (sb u)) (by lia) ?_)))))))) (by rfl) (has_of 23 (by kernel_rfl)))
      refine We.name f3 (We.add (We.name f4 (We.name (by rfl) ⟨_, _, rfl, rfl, D, ((t + u : Nat) : Int), _, rfl, ?_, Om.set_at, by lia, by rw [cfL_len]; lia, by rw [cfL_len]; lia, ?_⟩)))
      · rw [eix]
      rw [Int.toNat_natCast, Om.set_set]
      refine Wx.nil ⟨f1, f2, f3, f4, f5, ?_⟩
      congr 1
      have e2 := cfL_set (n := N) (f := fun s => mulP a b t s + (if t ≤ s ∧ s - t < u then cq a t * cq b (s - t) else 0)) (j := t + u) (x := mulP a b t (t + u) + cq a t * cq b u)
      refine e2.trans ?_
      refine cfL_congr fun s _ => ?_
      by_cases hsu : s = t + u
      · subst hsu
        rw [if_pos rfl, if_pos ⟨by lia, by lia⟩, show t + u - t = u by lia]
      · rw [if_neg hsu]
        by_cases h1 : t ≤ s ∧ s - t < u
        · rw [if_pos h1, if_pos ⟨h1.1, by lia⟩]
        · rw [if_neg h1, if_neg (by lia)]
    · rintro σ2 om2 ⟨f1, f2, f3, f4, f5, rfl⟩
      refine Wx.nil ⟨f1, f2, f3, ?_⟩
      congr 1
      refine cfL_congr fun s _ => ?_
      rw [mulP]
      have hlen : ((b.map encQ).map AV.dat).length = b.length := by simp
      rw [hlen]
      by_cases h1 : t ≤ s
      · rw [if_pos h1]
        by_cases h2 : s - t < b.length
        · rw [if_pos ⟨h1, h2⟩]
        · rw [if_neg (fun q => h2 q.2)]
          have : cq b (s - t) = 0 := by rw [cq, List.getD_eq_getElem?_getD, List.getElem?_eq_none (by lia)]; rfl
          rw [this]; grind
      · rw [if_neg h1, if_neg (fun q => h1 q.1)]
  · rintro σ1 om1 ⟨g1, g2, g3, rfl⟩
    have hlen : ((a.map encQ).map AV.dat).length = a.length := by simp
    rw [hlen]
    refine Wx.cons (Ws.ret (We.freeze (We.name g3 ⟨D, (List.range N).map fun j => encQ (mulP a b a.length j), rfl, Om.set_at, ?_⟩)))
    rw [Om.del_set hD]
    show Φ _ om
    simpa [encP, Function.comp_def] using h
end
section
variable {C : Cx} {k : Nat} {om : Om} {Φ : AV → Om → Prop}
noncomputable def lq (l : List Rat) : Rat := cq l (l.length - 1)
noncomputable def dvStep (b rest : List Rat) : List Rat := qsub rest.dropLast (qraise (qscale b.dropLast (lq rest / lq b)) (rest.length - b.length))
noncomputable def dv (b : List Rat) : Nat → List Rat → List Rat → List Rat × List Rat
  | 0, rest, fd => (qtr fd, rest)
  | f + 1, rest, fd => if b.length ≤ rest.length then dv b f (dvStep b rest) (fd.set (rest.length - b.length) (lq rest / lq b)) else (qtr fd, rest)
noncomputable def dvOk (P L : Nat) (b : List Rat) : Nat → List Rat → Prop
  | 0, rest => rest.length ≤ 100 ∧ rest.length < b.length
  | f + 1, rest => SzP P rest ∧ rest.length ≤ 100 ∧ (b.length ≤ rest.length → rest.length - b.length < L ∧ dvOk P L b f (dvStep b rest))
theorem encs_last {l : List Rat} (h : l ≠ []) : (l.map encQ).getLast? = some (encQ (lq l)) := by
  have hp : 0 < l.length := List.length_pos_iff.mpr h
  rw [List.getLast?_eq_getElem?, List.length_map, List.getElem?_map, List.getElem?_eq_getElem (show l.length - 1 < l.length by lia), lq, cq, List.getD_eq_getElem?_getD, List.getElem?_eq_getElem (show l.length - 1 < l.length by lia)]
  rfl
theorem SzP.drop {m : Nat} {l : List Rat} (h : SzP m l) (hm : 0 < m) : SzP m l.dropLast := fun i => by
  rw [List.getD_eq_getElem?_getD, List.getElem?_dropLast]
  split
  · have := h i; rwa [List.getD_eq_getElem?_getD] at this
  · exact SzQ.zero hm
theorem qscale_sz {m n : Nat} {l : List Rat} {x : Rat} (h : SzP m l) (hx : SzQ n x) (hm : 0 < m) : SzP (m + n) (qscale l x) := fun i => by
  unfold qscale
  split
  · rw [List.getD_nil]; exact SzQ.zero (by lia)
  · rw [getD_map0 (by grind)]; exact (h i).mul hx
theorem qraise_sz {m n : Nat} {l : List Rat} (h : SzP m l) (hm : 0 < m) : SzP m (qraise l n) := fun i => by
  unfold qraise
  split
  · rw [List.getD_nil]; exact SzQ.zero hm
  · rw [List.getD_eq_getElem?_getD]
    by_cases hi : i < n
    · rw [List.getElem?_append_left (by simpa using hi), List.getElem?_replicate, if_pos hi]; exact SzQ.zero hm
    · rw [List.getElem?_append_right (by simp; lia)]
      have := h (i - n)
      rw [List.getD_eq_getElem?_getD] at this
      simpa using this
theorem qscale_len {l : List Rat} {x : Rat} : (qscale l x).length ≤ l.length := by unfold qscale; split <;> simp
theorem qraise_len {l : List Rat} {n : Nat} : (qraise l n).length ≤ n + l.length := by unfold qraise; split <;> simp
theorem encP_drop {l : List Rat} : PyData.list ((l.map encQ).take (if (-1 : Int) < 0 then (((l.map encQ).length : Int) + -1).toNat else (-1 : Int).toNat)) = encP l.dropLast := by
  rw [if_pos (by decide), List.dropLast_eq_take]
  have : (((l.map encQ).length : Int) + -1).toNat = l.length - 1 := by simp; lia
  rw [this]; exact encP_take
structure qdJS (a b : List Rat) (D : Addr) (L P f : Nat) (fd0 : List Rat) (om : Om) (m : Nat) (σ1 : Sto) (om1 : Om) (rest fd : List Rat) : Prop where
  c0 : σ1 "rest" = some (.dat (encP rest))
  c1 : σ1 "b" = some (.dat (encP b))
  c2 : σ1 "found" = some (.own D)
  c3 : om1 = om.set D ((fd.map encQ).map AV.dat)
  c4 : fd.length = L
  c5 : dvOk P L b m rest
  c6 : dv b m rest fd = dv b f a fd0
@[reducible] noncomputable def qdJ (a b : List Rat) (D : Addr) (L P f : Nat) (fd0 : List Rat) (om : Om) (m : Nat) (σ1 : Sto) (om1 : Om) : Prop := ∃ rest fd, qdJS a b D L P f fd0 om m σ1 om1 rest fd
set_option maxHeartbeats 2000000 in
theorem qdivmod_spec {a b : List Rat} {P f : Nat} (ha : a.length ≤ 100) (hb : b.length ≤ 100) (hbne : b ≠ []) (hl : lq b ≠ 0) (sb : SzP P b) (ok : dvOk P (a.length + 1 - b.length) b f a) (hP0 : 0 < P) (hP : P ≤ 20000000)
    (h : Φ (.dat (.tuple [encP (dv b f a (List.replicate (a.length + 1 - b.length) 0)).1, encP (dv b f a (List.replicate (a.length + 1 - b.length) 0)).2])) om) : Wf C (k + 6) "qdivmod" om [.dat (encP a), .dat (encP b)] Φ := by
  refine Wf.intro (d := fnAt 56) (List.mem_of_getElem? (i := 43) (by kernel_rfl)) (names := ["a", "b"]) (by rintro pm code doc (_ | ⟨v1, _ | ⟨v2, _ | ⟨v3, r⟩⟩⟩) h <;> first | rfl | simp at h; done) rfl (by decide) (kd_of (by rfl)) ?_
  have hbp : 0 < b.length := List.length_pos_iff.mpr hbne
  generalize hL : a.length + 1 - b.length = L at *
  refine Wx.cons (Ws.ite (Wt.cmp (We.bLenD (We.name (by rfl) ⟨_, rfl, by simp; lia, We.cInt ⟨_, rfl, ?_⟩⟩) (by rfl))))
  have : (((b.map encQ).length : Int) == 0) = false := by simp; lia
  rw [this, if_neg (by decide)]
  refine Wx.nil (Wx.cons (Ws.swap (names := ["rest", "found"]) (Wl.cons (We.bListD (We.name (by rfl) ⟨_, rfl, by simp; lia, ?_⟩) (by rfl))) (kd_of (by rfl)) (by intro env he; cases env; cases he; rfl)))
  refine Wl.cons (We.mulL (We.lst (Wl.cons (We.g0 (by rfl) (Wl.nil ⟨by decide, NewL.dat (ds := [encQ 0]) ?_⟩)))))
  refine We.bMax (We.cInt (We.add (We.sub (We.bLenD (We.name (by rfl) ⟨_, rfl, by simp; lia, We.bLenD (We.name (by rfl) ⟨_, rfl, by simp; lia, _, _, rfl, rfl, We.cInt ⟨_, _, rfl, rfl, _, _, rfl, rfl, ?_⟩⟩) (by rfl)⟩) (by rfl))))) (by rfl)
  have em : Max.max (0 : Int) (((a.map encQ).length : Int) - ((b.map encQ).length : Int) + 1) = (L : Int) := by simp; lia
  rw [em]
  refine ⟨[.dat (encQ 0)], L, rfl, rfl, by lia, by lia, by simp; lia, NewL.own fun D hD => Wl.nil ⟨rfl, by decide, ?_⟩⟩
  have eL : (List.replicate (L : Int).toNat [AV.dat (encQ 0)]).flatten = ((List.replicate L (0 : Rat)).map encQ).map AV.dat := by
    rw [Int.toNat_natCast]; simp
  rw [eL]
  have sL : (List.replicate L (0 : Rat)).length = L := by simp
  generalize List.replicate L (0 : Rat) = fd0 at h sL
  refine Wx.cons (Ws.while ((qdJ a b D L P f fd0 om)) f
    ⟨a, fd0, rfl, rfl, rfl, rfl, sL, ok, rfl⟩ ?_)
  rintro m σ1 om1 ⟨rest, fd, g1, g2, g3, rfl, hfd, ok, hdv⟩
  have hr100 : rest.length ≤ 100 := by cases m with
    | zero => exact ok.1
    | succ m => exact ok.2.1
  refine Wt.cmp (We.bLenD (We.name g1 ⟨_, rfl, by simp; lia, We.bLenD (We.name g2 ⟨_, rfl, by simp; lia, _, rfl, ?_⟩) (by rfl)⟩) (by rfl))
  by_cases hge : b.length ≤ rest.length
  · have : decide (((b.map encQ).length : Int) ≤ ((rest.map encQ).length : Int)) = true := decide_eq_true (by simpa using hge)
    rw [this, if_pos rfl]
    obtain ⟨m, rfl⟩ : ∃ m', m = m' + 1 := by
      cases m with
      | zero => have := ok.2; lia
      | succ m => exact ⟨m, rfl⟩
    obtain ⟨sr, _, ok⟩ := ok
    obtain ⟨hix, ok⟩ := ok hge
    have hrne : rest ≠ [] := by rintro rfl; simp at hge; exact hbne hge
    have sl : SzQ P (lq rest) := sr _
    have sbl : SzQ P (lq b) := sb _
    rw [dv, if_pos hge] at hdv
    have hpw : ((rest.map encQ).length : Int) - ((b.map encQ).length : Int) = ((rest.length - b.length : Nat) : Int) := by simp; lia
    refine Wx.cons (Ws.swap (names := ["number", "power"]) (Wl.cons (We.call (Wl.cons (We.subL (We.name g1 (We.neg (We.cInt ⟨_, rfl, _, _, rfl, rfl, encs_last hrne, by simp; lia, ?_⟩))))) (by rfl) (has_of 24 (by kernel_rfl)))) (kd_of (by rfl)) (by intro env he; cases env; cases he; rfl))
    refine Wl.cons (We.subL (We.name g2 (We.neg (We.cInt ⟨_, rfl, _, _, rfl, rfl, encs_last hbne, by simp; lia, Wl.nil (rdiv_spec sl sbl (by lia) hl ?_)⟩))))
    refine Wl.cons (We.sub (We.bLenD (We.name g1 ⟨_, rfl, by simp; lia, We.bLenD (We.name g2 ⟨_, rfl, by simp; lia, _, _, rfl, rfl, Wl.nil ⟨rfl, by decide, ?_⟩⟩) (by rfl)⟩) (by rfl)))
    rw [hpw]
    have sn : SzQ (P + P) (lq rest / lq b) := sl.div sbl hl
    refine Wx.cons (Ws.assignSub (We.name (by rfl) (We.name g3 (We.name (by rfl) ⟨D, _, _, rfl, rfl, Om.set_at, by lia, by simp; lia, by simp; lia, ?_⟩))))
    rw [Int.toNat_natCast, Om.set_set]
    have eset : ((fd.map encQ).map AV.dat).set (rest.length - b.length) (.dat (encQ (lq rest / lq b))) = ((fd.set (rest.length - b.length) (lq rest / lq b)).map encQ).map AV.dat := by
      rw [List.map_set, List.map_set]
    rw [eset]
    refine Wx.cons (Ws.assign (We.call (Wl.cons (We.uptoD g1 (We.neg (We.cInt ⟨_, rfl, _, rfl, by simp; lia, ?_⟩)))) (by rfl) (has_of 39 (by kernel_rfl))) (.inl rfl))
    rw [encP_drop]
    refine Wl.cons (We.call (Wl.cons (We.call (Wl.cons (We.uptoD g2 (We.neg (We.cInt ⟨_, rfl, _, rfl, by simp; lia, ?_⟩)))) (by rfl) (has_of 40 (by kernel_rfl)))) (by rfl) (has_of 41 (by kernel_rfl)))
    rw [encP_drop]
    have l1 : b.dropLast.length ≤ 100 := by simp; lia
    refine Wl.cons (We.name (by rfl) (Wl.nil (qscale_spec (by lia) (sb.drop hP0) sn (by lia) ?_)))
    have l2 := qscale_len (l := b.dropLast) (x := lq rest / lq b)
    refine Wl.cons (We.name (by rfl) (Wl.nil (qraise_spec (by lia) (by lia) ?_)))
    have l3 := qraise_len (l := qscale b.dropLast (lq rest / lq b)) (n := rest.length - b.length)
    refine Wl.nil (qsub_spec (by simp; lia) (by lia) (sr.drop hP0) (qraise_sz (qscale_sz (sb.drop hP0) sn hP0) (by lia)) (by lia) ?_)
    refine Wx.cons (Ws.assign (We.name (by rfl) (Wx.nil ⟨m, by lia, _, _, by rfl, g2, g3, rfl, by simp [hfd], ok, hdv⟩)) (.inl rfl))
  · have : decide (((b.map encQ).length : Int) ≤ ((rest.map encQ).length : Int)) = false := decide_eq_false (by simpa using hge)
    rw [this, if_neg (by decide)]
    have hend : dv b m rest fd = (qtr fd, rest) := by
      cases m with
      | zero => rfl
      | succ m => rw [dv, if_neg hge]
    rw [hend] at hdv
    refine Wx.cons (Ws.ret (We.tup (Wl.cons (We.call (Wl.cons (We.freeze (We.name g3 ⟨D, fd.map encQ, rfl, Om.set_at, Wl.nil (qtrim_spec (by lia) ?_)⟩))) (by rfl) (has_of 35 (by kernel_rfl))))))
    rw [Om.del_set hD]
    refine Wl.cons (We.name g1 (Wl.nil ⟨[_, _], rfl, by simp, ?_⟩))
    rw [← hdv] at h
    exact h
end
section
variable {C : Cx} {k : Nat} {om : Om} {Φ : AV → Om → Prop}
abbrev T3 := List Rat × List Rat × List Rat
noncomputable def enc3 (x : T3) : PyData := .tuple [encP x.1, encP x.2.1, encP x.2.2]
noncomputable def dvQ (x y : T3) : List Rat × List Rat := dv y.1 (x.1.length + 1) x.1 (List.replicate (x.1.length + 1 - y.1.length) 0)
noncomputable def exNext (x y : T3) : T3 := ((dvQ x y).2, qsub x.2.1 (qmul (dvQ x y).1 y.2.1), qsub x.2.2 (qmul (dvQ x y).1 y.2.2))
noncomputable def exS : Nat → T3 → T3 → T3
  | 0, x, _ => x
  | f + 1, x, y => if y.1 = [] then x else exS f y (exNext x y)
structure OkT (P : Nat) (x : T3) : Prop where
  z0 : SzP P x.1
  z1 : SzP P x.2.1
  z2 : SzP P x.2.2
  l0 : x.1.length ≤ 100
  l1 : x.2.1.length ≤ 100
  l2 : x.2.2.length ≤ 100
  ld : x.1 ≠ [] → lq x.1 ≠ 0
noncomputable def exOk (P : Nat) : Nat → T3 → T3 → Prop
  | 0, x, y => OkT P x ∧ y.1 = []
  | f + 1, x, y => OkT P x ∧ OkT P y ∧ (y.1 ≠ [] → dvOk P (x.1.length + 1 - y.1.length) y.1 (x.1.length + 1) x.1 ∧ (dvQ x y).1.length ≤ 100 ∧ SzP P (dvQ x y).1 ∧
      (∀ t s, SzQ P (mulP (dvQ x y).1 y.2.1 t s)) ∧ (∀ t s, SzQ P (mulP (dvQ x y).1 y.2.2 t s)) ∧ exOk P f y (exNext x y))
theorem exOk.hd {P f x y} (h : exOk P f x y) : OkT P x := by cases f <;> exact h.1
noncomputable def exR (x : T3) : T3 := if x.1 = [] then ([], [], []) else (qscale x.1 (lq x.1)⁻¹, qscale x.2.1 (lq x.1)⁻¹, qscale x.2.2 (lq x.1)⁻¹)
theorem qmul_sz {P : Nat} {a b : List Rat} (hP : 0 < P) (h : ∀ t s, SzQ P (mulP a b t s)) : SzP P (qmul a b) := fun i => by
  unfold qmul
  split
  · rw [List.getD_nil]; exact SzQ.zero hP
  · rw [List.getD_eq_getElem?_getD]
    by_cases hi : i < a.length + b.length - 1
    · rw [List.getElem?_map, List.getElem?_range hi]; exact h _ _
    · rw [List.getElem?_eq_none (by simp; omega)]; exact SzQ.zero hP
theorem qmul_len {a b : List Rat} : (qmul a b).length ≤ a.length + b.length := by unfold qmul; split <;> simp <;> lia
theorem We.at3 {sc : Scope} {σ : Sto} {x : Str} {t : T3} {p p2 pos : Pos} {kd} {z : Int} (hx : σ x = some (.dat (enc3 t))) {d : PyData} (hi : [encP t.1, encP t.2.1, encP t.2.2][z.toNat]? = some d) (h : Φ (.dat d) om)
    (h0 : 0 ≤ z := by decide) (hd : (x == ("__debug__" : Str)) = false := by decide) (hc : (x == ("__classdict__" : Str)) = false := by decide) :
    We C k sc σ om (.Subscript (.Name x p) (.Constant (.int z) kd p2) pos) Φ :=
  We.subN (We.name hx (We.cInt ⟨_, z.toNat, _, .inr rfl, by rw [Int.toNat_of_nonneg h0], hi, by simp, h⟩) hd hc)
theorem SzQ.inv {m : Nat} {x : Rat} (h : SzQ m x) (hx : x ≠ 0) : SzQ m x⁻¹ := by
  rw [← rinv_eq]; exact divInt_sz (num_ne hx) h.2 h.1
structure qePS (P : Nat) (Φ : AV → Om → Prop) (om : Om)  (σ1 : Sto) (om1 : Om) (x : T3) : Prop where
  c0 : σ1 "one" = some (.dat (enc3 x))
  c1 : OkT P x
  c2 : Φ (.dat (enc3 (exR x))) om
  c3 : om1 = om
@[reducible] noncomputable def qeP (P : Nat) (Φ : AV → Om → Prop) (om : Om)  (σ1 : Sto) (om1 : Om) : Prop := ∃ x : T3, qePS P Φ om σ1 om1 x
structure qeJS (P f : Nat) (a b : List Rat) (om : Om) (m : Nat) (σ1 : Sto) (om1 : Om) (x y : T3) : Prop where
  c0 : σ1 "one" = some (.dat (enc3 x))
  c1 : σ1 "other" = some (.dat (enc3 y))
  c2 : om1 = om
  c3 : exOk P m x y
  c4 : exS m x y = exS f (a, [1], []) (b, [], [1])
@[reducible] noncomputable def qeJ (P f : Nat) (a b : List Rat) (om : Om) (m : Nat) (σ1 : Sto) (om1 : Om) : Prop := ∃ x y : T3, qeJS P f a b om m σ1 om1 x y
set_option maxHeartbeats 2000000 in
theorem qextended_spec {a b : List Rat} {P f : Nat} (ha : a.length ≤ 100) (hb : b.length ≤ 100) (ok : exOk P f (a, [1], []) (b, [], [1])) (hP0 : 0 < P) (hP : P ≤ 20000000)
    (h : Φ (.dat (enc3 (exR (exS f (a, [1], []) (b, [], [1]))))) om) : Wf C (k + 7) "qextended" om [.dat (encP a), .dat (encP b)] Φ := by
  refine Wf.intro (d := fnAt 57) (List.mem_of_getElem? (i := 44) (by kernel_rfl)) (names := ["a", "b"]) (by rintro pm code doc (_ | ⟨v1, _ | ⟨v2, _ | ⟨v3, r⟩⟩⟩) h <;> first | rfl | simp at h; done) rfl (by decide) (kd_of (by rfl)) ?_
  refine Wx.cons (Ws.swap (names := ["one", "other"]) (Wl.cons (We.tup (Wl.cons (We.bListD (We.name (by rfl) ⟨_, rfl, by simp; (exact Nat.le_trans (by assumption) (Nat.le_of_ble_eq_true rfl)), ?_⟩) (by rfl))))) (kd_of (by rfl)) (by intro env he; cases env; cases he; rfl))
  refine Wl.cons (We.lst (Wl.cons (We.g1 (by rfl) (Wl.nil ⟨by decide, NewL.dat (ds := [encQ 1]) (Wl.cons (We.lst (Wl.nil ⟨by decide, .inl ⟨[], rfl, Wl.nil ⟨[_, _, _], rfl, by simp, ?_⟩⟩⟩)))⟩))))
  refine Wl.cons (We.tup (Wl.cons (We.bListD (We.name (by rfl) ⟨_, rfl, by simp; (exact Nat.le_trans (by assumption) (Nat.le_of_ble_eq_true rfl)), ?_⟩) (by rfl))))
  refine Wl.cons (We.lst (Wl.nil ⟨by decide, .inl ⟨[], rfl, ?_⟩⟩))
  refine Wl.cons (We.lst (Wl.cons (We.g1 (by rfl) (Wl.nil ⟨by decide, NewL.dat (ds := [encQ 1]) (Wl.nil ⟨[_, _, _], rfl, by simp, Wl.nil ⟨rfl, by decide, ?_⟩⟩)⟩))))
  refine Wx.consP ((qeP P Φ om)) (Ws.while ((qeJ P f a b om)) f
    ⟨(a, [1], []), (b, [], [1]), rfl, rfl, rfl, ok, rfl⟩ ?_) ?_
  · rintro m σ1 OM ⟨x, y, g1, g2, rfl, ok, hx⟩
    have okx := ok.hd
    have hyl : y.1.length ≤ 100 := by cases m with
      | zero => rw [ok.2]; simp
      | succ m => exact ok.2.1.l0
    refine Wt.cmp (We.bLenD (We.at3 g2 rfl ⟨_, rfl, by simp; (exact Nat.le_trans (by assumption) (Nat.le_of_ble_eq_true rfl)), We.cInt ⟨_, rfl, ?_⟩⟩) (by rfl))
    by_cases hy : y.1 = []
    · have : decide ((0 : Int) < ((y.1.map encQ).length : Int)) = false := by rw [hy]; rfl
      rw [this, if_neg (by decide)]
      have hend : exS m x y = x := by cases m with
        | zero => rfl
        | succ m => rw [exS, if_pos hy]
      rw [hend] at hx
      exact ⟨rfl, x, g1, okx, hx ▸ h, rfl⟩
    · have hyp := List.length_pos_iff.mpr hy
      have : decide ((0 : Int) < ((y.1.map encQ).length : Int)) = true := decide_eq_true (by simp; omega)
      rw [this, if_pos rfl]
      obtain ⟨m, rfl⟩ : ∃ m', m = m' + 1 := by
        cases m with
        | zero => exact absurd ok.2 hy
        | succ m => exact ⟨m, rfl⟩
      obtain ⟨_, oky, ok⟩ := ok
      obtain ⟨okd, hql, sq, sm1, sm2, ok⟩ := ok hy
      rw [exS, if_neg hy] at hx
      refine Wx.cons (Ws.assignT (We.call (Wl.cons (We.at3 g1 rfl (Wl.cons (We.at3 g2 rfl (Wl.nil (qdivmod_spec (f := x.1.length + 1) okx.l0 hyl hy (oky.ld hy) oky.z0 okd hP0 hP ⟨_, rfl, rfl, ?_⟩)))))) (by rfl) (has_of 43 (by kernel_rfl))) (by rfl))
      refine Wa.name (Wa.name ?_ (.inl rfl)) (.inl rfl)
      have ql1 := qmul_len (a := (dvQ x y).1) (b := y.2.1)
      have ql2 := qmul_len (a := (dvQ x y).1) (b := y.2.2)
      have okx1 := okx.l1
      have okx2 := okx.l2
      have oky1 := oky.l1
      have oky2 := oky.l2
      refine Wx.cons (Ws.assign (We.call (Wl.cons (We.at3 g1 rfl (Wl.cons (We.call (Wl.cons (We.name (by rfl) (Wl.cons (We.at3 g2 rfl (Wl.nil (qmul_spec (a := (dvQ x y).1) hql oky.l1 sq oky.z1 sm1 (by lia) ?_)))))) (by rfl) (has_of 42 (by kernel_rfl)))))) (by rfl) (has_of 39 (by kernel_rfl))) (.inl rfl))
      refine Wl.nil (qsub_spec (by (exact Nat.le_trans (by assumption) (Nat.le_of_ble_eq_true rfl))) (by (clear ha hb hP0 hP hyl hyp ql2 okx1 okx2 oky2; omega)) okx.z1 (qmul_sz hP0 sm1) (by lia) ?_)
      refine Wx.cons (Ws.assign (We.call (Wl.cons (We.at3 g1 rfl (Wl.cons (We.call (Wl.cons (We.name (by rfl) (Wl.cons (We.at3 g2 rfl (Wl.nil (qmul_spec (a := (dvQ x y).1) hql oky.l2 sq oky.z2 sm2 (by lia) ?_)))))) (by rfl) (has_of 42 (by kernel_rfl)))))) (by rfl) (has_of 39 (by kernel_rfl))) (.inl rfl))
      refine Wl.nil (qsub_spec (by (exact Nat.le_trans (by assumption) (Nat.le_of_ble_eq_true rfl))) (by (clear ha hb hP0 hP hyl hyp ql1 okx1 okx2 oky1; omega)) okx.z2 (qmul_sz hP0 sm2) (by lia) ?_)
      refine Wx.cons (Ws.swap (names := ["one", "other"]) (Wl.cons (We.name g2 (Wl.cons (We.tup (Wl.cons (We.name (by rfl) ?_)))))) (kd_of (by rfl)) (by intro env he; cases env; cases he; rfl))
      refine Wl.cons (We.name (by rfl) (Wl.cons (We.name (by rfl) (Wl.nil ⟨[_, _, _], rfl, by simp, Wl.nil ⟨rfl, by decide, ?_⟩⟩))))
      exact Wx.nil ⟨m, by (exact Nat.le_refl _), y, exNext x y, by rfl, by rfl, rfl, ok, hx⟩
  · rintro σ1 OM ⟨x, g1, okx, hΦ, rfl⟩
    have hl0 := okx.l0
    have hl1 := okx.l1
    have hl2 := okx.l2
    refine Wx.cons (Ws.ite (Wt.cmp (We.bLenD (We.at3 g1 rfl ⟨_, rfl, by simp; (exact Nat.le_trans (by assumption) (Nat.le_of_ble_eq_true rfl)), We.cInt ⟨_, rfl, ?_⟩⟩) (by rfl))))
    by_cases hx : x.1 = []
    · have : (((x.1.map encQ).length : Int) == 0) = true := by rw [hx]; rfl
      rw [this, if_pos rfl]
      rw [exR, if_pos hx] at hΦ
      refine Wx.cons (Ws.ret (We.tup (Wl.cons (We.lst (Wl.nil ⟨by decide, .inl ⟨[], rfl, ?_⟩⟩)))))
      refine Wl.cons (We.lst (Wl.nil ⟨by decide, .inl ⟨[], rfl, ?_⟩⟩))
      refine Wl.cons (We.lst (Wl.nil ⟨by decide, .inl ⟨[], rfl, Wl.nil ⟨[_, _, _], rfl, by simp, hΦ⟩⟩⟩))
    · have hxp := List.length_pos_iff.mpr hx
      have : (((x.1.map encQ).length : Int) == 0) = false := by simp; omega
      rw [this, if_neg (by decide)]
      rw [exR, if_neg hx] at hΦ
      have hlq := okx.ld hx
      have sf : SzQ P (lq x.1)⁻¹ := SzQ.inv (okx.z0 _) hlq
      refine Wx.nil (Wx.cons (Ws.assign (We.call (Wl.cons (We.subL (We.at3 g1 rfl (We.neg (We.cInt ⟨_, rfl, _, _, rfl, rfl, encs_last hx, by simp; (exact Nat.le_trans (by assumption) (Nat.le_of_ble_eq_true rfl)), Wl.nil (rinv_spec hlq ?_)⟩))))) (by rfl) (has_of 26 (by kernel_rfl))) (.inl rfl)))
      refine Wx.cons (Ws.ret (We.tup (Wl.cons (We.call (Wl.cons (We.at3 g1 rfl (Wl.cons (We.name (by rfl) (Wl.nil (qscale_spec (by (exact Nat.le_trans (by assumption) (Nat.le_of_ble_eq_true rfl))) okx.z0 sf (by lia) ?_)))))) (by rfl) (has_of 40 (by kernel_rfl))))))
      refine Wl.cons (We.call (Wl.cons (We.at3 g1 rfl (Wl.cons (We.name (by rfl) (Wl.nil (qscale_spec (by (exact Nat.le_trans (by assumption) (Nat.le_of_ble_eq_true rfl))) okx.z1 sf (by lia) ?_)))))) (by rfl) (has_of 40 (by kernel_rfl)))
      refine Wl.cons (We.call (Wl.cons (We.at3 g1 rfl (Wl.cons (We.name (by rfl) (Wl.nil (qscale_spec (by (exact Nat.le_trans (by assumption) (Nat.le_of_ble_eq_true rfl))) okx.z2 sf (by lia) (Wl.nil ⟨[_, _, _], rfl, by simp, hΦ⟩))))))) (by rfl) (has_of 40 (by kernel_rfl)))
end
section
variable {C : Cx} {k : Nat} {sc : Scope} {σ : Sto} {om : Om}
inductive PairsOk (C : Cx) (k : Nat) (sc : Scope) (σ : Sto) (om : Om) : List (Option PySem.Expr) → List PySem.Expr → List (Int × PyData) → Prop
  | nil : PairsOk C k sc σ om [] [] []
  | cons {i kd p v d ks vs r} (x : We C k sc σ om v (fun a om' => a = .dat d ∧ om' = om)) (y : PairsOk C k sc σ om ks vs r) : PairsOk C k sc σ om (some (.Constant (.int i) kd p) :: ks) (v :: vs) ((i, d) :: r)
inductive KV (om : Om) (h : Heap) : List (Int × Value) → List (Int × PyData) → Prop
  | nil : KV om h [] []
  | cons {i v d xs ys} (r : Den om h v d) (t : KV om h xs ys) : KV om h ((i, v) :: xs) ((i, d) :: ys)
theorem KV.keys {om h} : ∀ {xs ys}, KV om h xs ys → xs.map (·.1) = ys.map (·.1)
  | _, _, .nil => rfl
  | _, _, .cons _ t => by simp [KV.keys t]
theorem KV.at' {om h} {i : Int} {d : PyData} : ∀ {xs : List (Int × Value)} {ys : List (Int × PyData)}, KV om h xs ys → (ys.find? fun kv => kv.1 = i).map (·.2) = some d → ∃ v, valueAt xs i = some v ∧ Den om h v d
  | _, _, .nil, e => by simp at e
  | _, _, .cons (i := j) (v := v) (d := d') r t, e => by
    unfold valueAt
    by_cases hj : j = i
    · simp [hj] at e ⊢
      subst e; exact r
    · simp only [List.find?_cons, hj, decide_false] at e ⊢
      exact KV.at' t e
theorem pairs_run {A : Around} {env : Env} {pos : Pos} {E : Value → Shared → Prop} : ∀ {keys values kds}, PairsOk C k sc σ om keys values kds → ∀ {s : Shared} {Q : List (Value × Value) → Shared → Prop}, AOk k A → St C sc σ om env s.heap →
    (∀ vs kvs h' tk, Carries (intKind P C.w) vs kvs → KV om h' kvs kds → Step om s.heap om h' → St C sc σ om env h' → Q vs { s with heap := h', toks := tk }) →
    wpAny (MM C) A (evalPairs (pairTrees keys values env pos)) Q E s := by
  intro keys values kds x
  induction x with
  | nil =>
    intro s Q hA S hQ
    exact pairTrees_nil_walk (hQ [] [] s.heap s.toks trivial .nil Ef.refl S)
  | cons x y ih =>
    intro s Q hA S hQ
    rename_i i kd p v d ks vs r
    refine pairTrees_cons_walk ?_
    refine (We.cInt (Φ := fun a om1 => a = .dat (.int i) ∧ om1 = om) ⟨rfl, rfl⟩).bind hA S fun va a om1 h1 tk1 ⟨e1, e2⟩ st1 S1 ra => ?_
    subst e1
    rw [e2] at st1 S1 ra
    refine x.bind hA S1 fun vb b om2 h2 tk2 ⟨e3, e4⟩ st2 S2 rb => ?_
    subst e3
    rw [e4] at st2 S2 rb
    refine ih (s := { s with heap := h2, toks := tk2 }) hA S2 fun ws kvs h3 tk3 hc hk st3 S3 => ?_
    cases ra
    rename_i t
    exact hQ _ ((i, vb) :: kvs) h3 tk3 ⟨by simp [intKind, Value.isInt], rfl, hc⟩ (.cons (st3.den rb) hk) ((st1.trans st2).trans st3) S3
theorem We.dictSub {keys values kds e p pos} {i : Int} {d : PyData} {Φ : AV → Om → Prop} (x : PairsOk C k sc σ om keys values kds) (hn : (kds.map (·.1)).Nodup) (hall : keys.all (·.isSome) = true) (hl : keys.length = values.length) (h0 : keys ≠ []) (hlen : keys.length ≤ 15)
    (y : We C k sc σ om e (fun b om1 => b = .dat (.int i) ∧ om1 = om)) (hg : (kds.find? fun kv => kv.1 = i).map (·.2) = some d) (h : Φ (.dat d) om)
    (hs : ∀ o v, subscripted e false o v = operate [o, v] (getItem o v) := by intros; rfl) : We C k sc σ om (.Subscript (.Dict keys values p) e pos) Φ := by
  intro A env s E Q hA S hQ
  have ex := Ext.push s.heap { cls := .type "dict", data := .dict #[] }
  have S0 := S.ext ex
  refine Subscript_ (wpAny_Dict_walk (knd := intKind P C.w) hall hl h0 hlen (pairs_run (s := { s with heap := s.heap.push { cls := .type "dict", data := .dict #[] } }) x hA S0 fun vs kvs h1 tk1 hc hk st1 S1 => ?_))
  replace st1 : Step om (s.heap.push { cls := .type "dict", data := .dict #[] }) om h1 := st1
  have hD0 : om s.heap.objs.size = none := S.own.free (size_new _)
  have hd0 : h1.DictOf (intKind P C.w) s.heap.objs.size [] := (Heap.DictOf.new s.heap).at fun o e => st1.keep _ o id hD0 e
  refine ⟨kvs, hc, hd0, fun h2 hd2 hs2 => ?_⟩
  replace hs2 : Heap.SameBut s.heap.objs.size h1 h2 := hs2
  have hkn : (kvs.map (·.1)).Nodup := by rw [hk.keys]; exact hn
  rw [merged_nil_of_nodup _ hkn] at hd2
  obtain ⟨o1, es1, ep1, g1, _, g2, _⟩ := hd0
  have ns : NoSeq (fun b => b = s.heap.objs.size) h1 := by
    rintro b o rfl e vs n q
    rw [g1] at e; cases e; rw [g2] at q; cases q
  have hk2 : ∀ b o, ¬ (b = s.heap.objs.size) → h1.get? b = some o → h2.get? b = some o := fun b o hb e => hs2.extBut b o hb e
  have stA : Step om s.heap om h1 := ex.step.trans st1
  have st2 : Step om s.heap om h2 := ⟨fun b o _ q1 q2 => hk2 b o (fun q => by subst q; rw [size_new] at q2; cases q2) (stA.keep b o id q1 q2), fun b q => by
    by_cases hb : b = s.heap.objs.size
    · subst hb; exact size_new _
    · exact stA.stay b (by rwa [← hs2.2 b hb]), fun b e => .inl e⟩
  have O2 : OwnOk C.h0 om h2 := chg_own S1.own hk2 ns
  have S2 : St C sc σ om env h2 := S.step st2 O2
  refine y.bind (s := { s with heap := h2, toks := _ }) hA S2 fun vb b om3 h3 tk3 ⟨e1, e2⟩ st3 S3 rb => ?_
  subst e1
  rw [e2] at st3 S3 rb
  replace st3 : Step om h2 om h3 := st3
  cases rb
  rename_i t
  have hd3 : h3.DictOf (intKind P C.w) s.heap.objs.size kvs := hd2.at fun o e => st3.keep _ o id hD0 e
  obtain ⟨v, hv, hr⟩ := hk.at' hg
  have hr2 : Den om h2 v d := Den.mono (fun b o e1 ec e2 => ⟨e1, hk2 b o (fun q => (by obtain ⟨vs, n, ed⟩ := ec; exact ns b o q e2 vs n ed)) e2⟩) hr
  refine tail_any (T := "dict") hd3.typeIs slot_dict_getitem.lookup ?_ (hs _ _)
  refine wpAny_getItem_of (knd := intKind P C.w) (k := i) (by simp [intKind, Value.isInt]) hd3.mapOf hv ?_
  exact hQ v (.dat d) om h3 _ h (st2.trans st3) S3.own (st3.den hr2)
end
section
variable {C : Cx} {k : Nat} {om : Om} {Φ : AV → Om → Prop}
noncomputable def poolL (cells : List Int) (spot : Nat) : List AV := [.dat (encZ cells), .dat (.int spot)]
noncomputable def tblL : List Nat := [0, 5, 4, 3, 2, 3, 4, 4, 1]
set_option maxHeartbeats 1000000 in
theorem draw_spec {Dp : Addr} {cells : List Int} {spot many : Nat} (hc : cells.length ≤ 1000) (hp : om Dp = some (poolL cells spot)) (hm : 0 < many) (h : ∀ v : Nat, v < many → Φ (.dat (.int v)) (om.set Dp (poolL cells (spot + 1)))) :
    Wf C (k + 1) "_law_draw" om [.own Dp, .dat (.int many)] Φ := by
  refine Wf.intro (d := fnAt 60) (List.mem_of_getElem? (i := 46) (by kernel_rfl)) (names := ["pool", "many"]) (by rintro pm code doc (_ | ⟨v1, _ | ⟨v2, _ | ⟨v3, r⟩⟩⟩) h <;> first | rfl | simp at h; done) rfl (by decide) (kd_of (by rfl)) ?_
  refine Wx.cons (Ws.assign (We.sub1 (We.name (a := .own Dp) (by rfl) (We.cInt ⟨1, poolL cells spot, 1, .dat (.int spot), rfl, hp, by simp [poolL], by rfl, rfl, ?_⟩))) (.inl rfl))
  refine Wx.cons (Ws.assignSub (We.add (We.name (by rfl) (We.cInt ⟨_, _, rfl, rfl, We.name (a := .own Dp) (by rfl) (We.cInt ⟨Dp, 1, _, rfl, rfl, hp, by decide, by simp [poolL], by simp [poolL], ?_⟩)⟩))))
  have e1 : (poolL cells spot).set (1 : Int).toNat (.dat (.int ((spot : Int) + 1))) = poolL cells (spot + 1) := rfl
  rw [e1]
  have hp1 : (om.set Dp (poolL cells (spot + 1))) Dp = some (poolL cells (spot + 1)) := Om.set_at
  generalize om.set Dp (poolL cells (spot + 1)) = om1 at hp1 h
  refine Wx.cons (Ws.ite (Wt.cmp (We.name (by rfl) (We.bLenD (We.sub1 (We.name (a := .own Dp) (by rfl) (We.cInt ⟨0, poolL cells (spot + 1), 0, .dat (encZ cells), rfl, hp1, by simp [poolL], by rfl, rfl, _, rfl, by simp; (exact Nat.le_trans (by assumption) (Nat.le_of_ble_eq_true rfl)), _, rfl, ?_⟩))) (by rfl)))))
  have fm : ∀ z : Nat, ((z : Int).fmod (many : Int)) = ((z % many : Nat) : Int) := fun z => by
    rw [Int.fmod_eq_emod_of_nonneg _ (by lia)]; (rfl)
  by_cases hlt : spot < cells.length
  · have : decide ((spot : Int) < ((cells.map PyData.int).length : Int)) = true := decide_eq_true (by simpa using hlt)
    rw [this, if_pos rfl]
    have hg : cells[spot]? = some (cells.getD spot 0) := by rw [List.getD_eq_getElem?_getD, List.getElem?_eq_getElem hlt]; rfl
    refine Wx.cons (Ws.ret (We.mod (We.bAbs (We.subN (We.sub1 (We.name (a := .own Dp) (by rfl) (We.cInt ⟨0, poolL cells (spot + 1), 0, .dat (encZ cells), rfl, hp1, by simp [poolL], by rfl, rfl, ?_⟩)))) (by rfl))))
    refine We.name (by rfl) ⟨_, spot, _, .inl rfl, rfl, by rw [List.getElem?_map, hg]; rfl, by simp; (exact Nat.le_trans (by assumption) (Nat.le_of_ble_eq_true rfl)), _, rfl, We.name (by rfl) ⟨_, _, rfl, rfl, by lia, ?_⟩⟩
    rw [fm]; exact h _ (Nat.mod_lt _ hm)
  · have : decide ((spot : Int) < ((cells.map PyData.int).length : Int)) = false := decide_eq_false (by simpa using hlt)
    rw [this, if_neg (by decide)]
    refine Wx.nil ?_
    refine Wx.cons ?_
    refine Ws.ret ?_
    refine We.mod ?_
    refine We.subN ?_
    refine We.tup ?_
    iterate 9 refine Wl.cons (We.cInt ?_)
    refine Wl.nil ⟨tblL.map fun z : Nat => PyData.int z, rfl, by decide, We.mod (We.name (by rfl) (We.cInt ⟨_, _, rfl, rfl, by decide, ?_⟩))⟩
    have hmod : (spot : Int).fmod 9 = ((spot % 9 : Nat) : Int) := by rw [Int.fmod_eq_emod_of_nonneg _ (by decide)]; (rfl)
    rw [hmod]
    have hlt9 : spot % 9 < 9 := Nat.mod_lt _ (by decide)
    have hz : (tblL.map fun z : Nat => PyData.int z)[spot % 9]? = some (.int ((tblL.getD (spot % 9) 0 : Nat) : Int)) := by
      have hl : spot % 9 < tblL.length := hlt9
      rw [List.getElem?_map, List.getElem?_eq_getElem hl, List.getD_eq_getElem?_getD, List.getElem?_eq_getElem hl]; rfl
    refine ⟨_, spot % 9, _, .inr rfl, rfl, hz, by decide, We.name (by rfl) ⟨_, _, rfl, rfl, by lia, ?_⟩⟩
    rw [fm]; exact h _ (Nat.mod_lt _ hm)
noncomputable def circ (n : Nat) (r : Nat → Int) (s : Int) (line at_ : Nat) : Int := if line ≤ at_ then r (at_ - line) else s * r (n + at_ - line)
theorem rowE_get {n : Nat} {r : Nat → Int} {j : Nat} (h : j < n) : (((List.range n).map r).map PyData.int)[j]? = some (.int (r j)) := by simp [h]
theorem We.rowI {sc : Scope} {σ : Sto} {x : Str} {n : Nat} {r : Nat → Int} {e : PySem.Expr} {p pos : Pos} (hx : σ x = some (.dat (rowE n r))) (hn : n ≤ 1000) (y : We C k sc σ om e (fun b om1 => ∃ j : Nat, b = .dat (.int j) ∧ j < n ∧ Φ (.dat (.int (r j))) om1))
    (hs : ∀ o v, subscripted e false o v = operate [o, v] (getItem o v) := by intros; rfl) (hd : (x == ("__debug__" : Str)) = false := by decide) (hc : (x == ("__classdict__" : Str)) = false := by decide) : We C k sc σ om (.Subscript (.Name x p) e pos) Φ :=
  We.subN (We.name hx (y.mono fun b om1 ⟨j, e1, hj, h⟩ => ⟨_, j, _, .inl rfl, e1, rowE_get hj, by simp; (exact Nat.le_trans (by assumption) (Nat.le_of_ble_eq_true rfl)), h⟩) hd hc) hs
theorem round_spec {n : Nat} {r : Nat → Int} {s : Int} (hn : n ≤ 100) (hs : Sz 64 s) (h : Φ (.dat (matE n (circ n r s))) om) : Wf C (k + 1) "_law_round" om [.dat (rowE n r), .dat (.int s)] Φ := by
  refine Wf.intro (d := fnAt 61) (List.mem_of_getElem? (i := 47) (by kernel_rfl)) (names := ["row", "sign"]) (by rintro pm code doc (_ | ⟨v1, _ | ⟨v2, _ | ⟨v3, r⟩⟩⟩) h <;> first | rfl | simp at h; done) rfl (by decide) (kd_of (by rfl)) ?_
  refine Wx.cons (Ws.assign (We.bLenD (We.name (by rfl) ⟨_, rfl, by simp; (exact Nat.le_trans (by assumption) (Nat.le_of_ble_eq_true rfl)), ?_⟩) (by rfl)) (by first | exact .inl rfl | exact .inr rfl))
  have en : ((((List.range n).map r).map PyData.int).length : Int) = n := by simp
  rw [en]
  refine Wx.cons (Ws.ret (We.compI (g := fun i => rowE n (circ n r s i)) (Wi.range1 (We.name (by rfl) ⟨n, rfl, by (exact Nat.le_trans (by assumption) (Nat.le_of_ble_eq_true rfl)), ?_, ?_⟩) (by rfl)) (by rfl) (by first | exact .inl rfl | exact .inr rfl)))
  · intro i a hi om'
    obtain ⟨hin, rfl⟩ := item_range hi
    refine We.compI (g := fun j => .int (circ n r s i j)) (Wi.range1 (We.name (by rfl) ⟨n, rfl, by (exact Nat.le_trans (by assumption) (Nat.le_of_ble_eq_true rfl)), ?_, ?_⟩) (by rfl)) (by rfl) (by first | exact .inl rfl | exact .inr rfl)
    · intro j a hj om2
      obtain ⟨hjn, rfl⟩ := item_range hj
      refine We.ifexp (Wt.cmp (We.name Sto.set_eq (We.name (by rfl) ⟨_, rfl, ?_⟩)))
      by_cases hle : i ≤ j
      · rw [decide_eq_true (show (i : Int) ≤ j by lia), if_pos rfl]
        refine We.rowI (by rfl) (by (exact Nat.le_trans (by assumption) (Nat.le_of_ble_eq_true rfl))) (We.sub (We.name Sto.set_eq (We.name (by rfl) ⟨_, _, rfl, rfl, j - i, by congr 2; lia, by (exact Nat.lt_of_le_of_lt (Nat.sub_le _ _) (by assumption)), ?_⟩)))
        exact ⟨by unfold circ; rw [if_pos hle], rfl⟩
      · rw [decide_eq_false (show ¬ (i : Int) ≤ j by lia), if_neg (by decide)]
        refine We.mul (We.name (by rfl) (We.rowI (r := r) (n := n) (by rfl) (by (exact Nat.le_trans (by assumption) (Nat.le_of_ble_eq_true rfl))) (We.sub (We.add (We.name (by rfl) (We.name Sto.set_eq ⟨_, _, rfl, rfl, We.name (by rfl) ⟨_, _, rfl, rfl, n + j - i, ?_, by (clear hn en hjn; omega), ?_⟩⟩))))))
        · simp; lia
        · exact ⟨_, _, rfl, rfl, mulOk_l hs, by unfold circ; rw [if_neg hle], rfl⟩
    · refine ⟨?_, rfl⟩
      simp [rowE, encZ]
  · show Φ _ om
    simpa [matE] using h
end
section
variable {C : Cx} {k : Nat} {om : Om} {Φ : AV → Om → Prop}
theorem nm62 : (fnAt 62).name = Str.ofString "_law_product" := by kernel_rfl
theorem nm63 : (fnAt 63).name = Str.ofString "_law_root_of_one" := by kernel_rfl
theorem mm62 : fnAt 62 ∈ recsOf P := by
  have : (recsOf P)[48]? = some (fnAt 62) := by kernel_rfl
  exact List.mem_of_getElem? this
theorem mm63 : fnAt 63 ∈ recsOf P := by
  have : (recsOf P)[49]? = some (fnAt 63) := by kernel_rfl
  exact List.mem_of_getElem? this
noncomputable def cycP (n : Nat) (r q : Nat → Int) : Nat → Nat → Int
  | 0, _ => 0
  | t + 1, s => cycP n r q t s + r t * q ((s + n - t) % n)
noncomputable def cyc (n : Nat) (r q : Nat → Int) (s : Nat) : Int := cycP n r q n s
theorem rowL_congr {n : Nat} {f g : Nat → Int} (h : ∀ j, j < n → f j = g j) : rowL n f = rowL n g := by
  unfold rowL; exact List.map_congr_left fun j hj => by rw [h j (List.mem_range.mp hj)]
theorem wrap_at {n t u : Nat} (ht : t < n) (hu : u < n) : ((t + u) % n + n - t) % n = u := by
  by_cases h : t + u < n
  · rw [Nat.mod_eq_of_lt h, show t + u + n - t = u + n by lia, Nat.add_mod_right, Nat.mod_eq_of_lt hu]
  · have e : (t + u) % n = t + u - n := by rw [Nat.mod_eq_sub_mod (by lia), Nat.mod_eq_of_lt (by lia)]
    rw [e, show t + u - n + n - t = u by lia, Nat.mod_eq_of_lt hu]
theorem wrap_inj {n t u s : Nat} (ht : t < n) (hu : u < n) (hs : s < n) (h : (s + n - t) % n = u) : s = (t + u) % n := by
  by_cases q : t ≤ s
  · have : (s + n - t) % n = s - t := by rw [show s + n - t = (s - t) + n by lia, Nat.add_mod_right, Nat.mod_eq_of_lt (by lia)]
    rw [this] at h
    rw [show t + u = s by lia, Nat.mod_eq_of_lt hs]
  · rw [Nat.mod_eq_of_lt (by lia)] at h
    rw [show t + u = s + n by lia, Nat.add_mod_right, Nat.mod_eq_of_lt hs]
theorem items_row {n : Nat} {r : Nat → Int} {i : Nat} {a : AV} (h : ((((List.range n).map r).map PyData.int).map AV.dat)[i]? = some a) : i < n ∧ a = .dat (.int (r i)) := by
  have hlt : i < n := by have := (List.getElem?_eq_some_iff.mp h).1; simpa using this
  refine ⟨hlt, ?_⟩
  rw [List.getElem?_map, rowE_get hlt] at h
  simpa using h.symm
structure prJ (n : Nat) (r q : Nat → Int) (D : Addr) (om : Om) (t : Nat) (σ1 : Sto) (om1 : Om) : Prop where
  c0 : σ1 "row" = some (.dat (rowE n r))
  c1 : σ1 "other" = some (.dat (rowE n q))
  c2 : σ1 "found" = some (.own D)
  c3 : om1 = om.set D (rowL n (cycP n r q t))
structure prK (n : Nat) (r q : Nat → Int) (D : Addr) (om : Om) (t : Nat) (u : Nat) (σ2 : Sto) (om2 : Om) : Prop where
  c0 : σ2 "row" = some (.dat (rowE n r))
  c1 : σ2 "other" = some (.dat (rowE n q))
  c2 : σ2 "found" = some (.own D)
  c3 : σ2 "at" = some (.dat (.int t))
  c4 : σ2 "left" = some (.dat (.int (r t)))
  c5 : om2 = om.set D (rowL n fun s => cycP n r q t s + (if (s + n - t) % n < u then r t * q ((s + n - t) % n) else 0))
set_option maxHeartbeats 2000000 in
theorem product_spec {n : Nat} {r q : Nat → Int} (hn : n ≤ 100) (h0 : 0 < n) (hz : ∀ i, i < n → Sz 64 (r i)) (h : Φ (.dat (rowE n (cyc n r q))) om) : Wf C (k + 1) "_law_product" om [.dat (rowE n r), .dat (rowE n q)] Φ := by
  rw [← nm62]
  refine Wf.intro (d := fnAt 62) mm62 (names := ["row", "other"]) ?_ ?_ ?_ ?_ ?_ ?_ ?_ ?_
  · rintro pm code doc (_ | ⟨v1, _ | ⟨v2, _ | ⟨v3, r⟩⟩⟩) h <;> first | rfl | simp at h; done
  · rfl
  · decide
  · exact kd_of (by rfl)
  rotate_left
  · rfl
  · rfl
  · rfl
  refine Wx.cons (Ws.assign (We.mulL (We.lst (Wl.cons (We.cInt (Wl.nil ⟨by decide, NewL.dat (ds := [.int 0]) ?_⟩))))) (.inl rfl))
  refine We.bLenD (We.name (by rfl) ⟨_, rfl, by simp; lia, ?_⟩) (by rfl)
  have en : ((((List.range n).map r).map PyData.int).length : Int) = n := by simp
  rw [en]
  refine ⟨[.dat (.int 0)], n, rfl, rfl, by lia, by lia, by simp; lia, NewL.own fun D hD => ?_⟩
  have eL : (List.replicate (n : Int).toNat [AV.dat (.int 0)]).flatten = rowL n (fun _ => 0) := by
    rw [Int.toNat_natCast]
    apply List.ext_getElem?
    intro i
    by_cases hi : i < n <;> simp [rowL, hi]
  rw [eL]
  refine Wx.cons (Ws.forT (Wi2.enum (We.name (by rfl) ⟨_, rfl, by simp; lia, ?_⟩) (by rfl)) (.inl rfl) (.inl rfl))
  refine ⟨(prJ n r q D om), ⟨rfl, rfl, rfl, rfl⟩, ?_, ?_⟩
  · rintro t x σ1 om1 hi ⟨g1, g2, g3, rfl⟩
    obtain ⟨hta, rfl⟩ := items_row hi
    refine Wx.cons (Ws.forT (Wi2.enum (We.name g2 ⟨_, rfl, by simp; lia, ?_⟩) (by rfl)) (.inl rfl) (.inl rfl))
    refine ⟨(prK n r q D om t), ⟨g1, g2, g3, by rfl, by rfl, ?_⟩, ?_, ?_⟩
    · congr 1
      exact rowL_congr fun s _ => by rw [if_neg (by lia)]; lia
    · rintro u y σ2 om2 hj ⟨f1, f2, f3, f4, f5, rfl⟩
      obtain ⟨hub, rfl⟩ := items_row hj
      have hw := wrap_at hta hub
      have hs0 : (t + u) % n < n := Nat.mod_lt _ h0
      have hget := rowL_get (n := n) (f := fun s => cycP n r q t s + (if (s + n - t) % n < u then r t * q ((s + n - t) % n) else 0)) hs0
      have hcur : cycP n r q t ((t + u) % n) + (if ((t + u) % n + n - t) % n < u then r t * q (((t + u) % n + n - t) % n) else 0) = cycP n r q t ((t + u) % n) := by rw [hw, if_neg (by lia)]; lia
      simp only [hcur] at hget
      have eix : ((t : Int) + (u : Int)).fmod (n : Int) = (((t + u) % n : Nat) : Int) := by
        rw [Int.fmod_eq_emod_of_nonneg _ (by lia)]; simp
      generalize hW : (t + u) % n = W at *
      refine Wx.cons (Ws.assignSub (We.add (We.sub1 (We.name f3 (We.mod (We.add (We.name f4 (We.name (by rfl) ⟨_, _, rfl, rfl, ?_⟩))))))))
      refine We.bLenD (We.name f1 ⟨_, rfl, by simp; lia, _, _, rfl, rfl, by simp; lia, (W : Int), rowL n _, W, _, ?_, Om.set_at, by rw [rowL_len]; lia, by rw [rowL_len]; exact pyIx_nat hs0, hget, ?_⟩) (by rfl)
      · rw [en, eix]
      refine We.mul (We.name f5 (We.name (by rfl) ⟨_, _, rfl, rfl, mulOk_l (hz t hta), _, _, rfl, rfl, ?_⟩))
      refine We.name f3 (We.mod (We.add (We.name f4 (We.name (by rfl) ⟨_, _, rfl, rfl, ?_⟩))))
      refine We.bLenD (We.name f1 ⟨_, rfl, by simp; lia, _, _, rfl, rfl, by simp; lia, D, (W : Int), _, rfl, ?_, Om.set_at, by lia, by rw [rowL_len]; lia, by rw [rowL_len]; lia, ?_⟩) (by rfl)
      · rw [en, eix]
      rw [Int.toNat_natCast, Om.set_set]
      refine Wx.nil ⟨f1, f2, f3, f4, f5, ?_⟩
      congr 1
      rw [rowL_set]
      refine rowL_congr fun s hs => ?_
      by_cases hsu : s = W
      · subst hsu
        rw [if_pos rfl, hw, if_pos (by lia)]
      · rw [if_neg hsu]
        have hne : (s + n - t) % n ≠ u := fun e => hsu (by rw [← hW]; exact wrap_inj hta hub hs e)
        by_cases h1 : (s + n - t) % n < u
        · rw [if_pos h1, if_pos (by lia)]
        · rw [if_neg h1, if_neg (by lia)]
    · rintro σ2 om2 ⟨f1, f2, f3, f4, f5, rfl⟩
      refine Wx.nil ⟨f1, f2, f3, ?_⟩
      congr 1
      refine rowL_congr fun s _ => ?_
      rw [cycP]
      have hlen : ((((List.range n).map q).map PyData.int).map AV.dat).length = n := by simp
      rw [hlen, if_pos (Nat.mod_lt _ h0)]
  · rintro σ1 om1 ⟨g1, g2, g3, rfl⟩
    have hlen : ((((List.range n).map r).map PyData.int).map AV.dat).length = n := by simp
    rw [hlen]
    refine Wx.cons (Ws.ret (We.freeze (We.name g3 ⟨D, (List.range n).map fun j => .int (cyc n r q j), rfl, by rw [Om.set_at]; simp [rowL, cyc], ?_⟩)))
    rw [Om.del_set hD]
    show Φ _ om
    simpa [rowE, encZ, Function.comp_def] using h
noncomputable def cycl : Nat → List Int
  | 1 => [-1, 1]
  | 2 => [1, 1]
  | 3 => [1, 1, 1]
  | 4 => [1, 0, 1]
  | _ => [1, -1, 1]
theorem lst2 {sc : Scope} {σ : Sto} {a b : PySem.Expr} {p : Pos} {x y : Int} (h1 : We C k sc σ om a (fun v om1 => v = .dat (.int x) ∧ om1 = om)) (h2 : We C k sc σ om b (fun v om1 => v = .dat (.int y) ∧ om1 = om))
    (he : ∀ env, starEach [a, b] env = (false, eval a env) :: starEach [b] env := by intros; rfl) (he2 : ∀ env, starEach [b] env = (false, eval b env) :: starEach [] env := by intros; rfl) :
    We C k sc σ om (.List [a, b] p) (fun v om1 => v = .dat (encZ [x, y]) ∧ om1 = om) := by
  refine We.lst (Wl.cons (h1.mono fun v om1 ⟨e1, e2⟩ => ?_) he)
  subst e1; rw [e2]
  refine Wl.cons (h2.mono fun w om2 ⟨e3, e4⟩ => ?_) he2
  subst e3; rw [e4]
  exact Wl.nil ⟨by simp, NewL.dat (ds := [.int x, .int y]) ⟨rfl, rfl⟩⟩
theorem lst3 {sc : Scope} {σ : Sto} {a b c : PySem.Expr} {p : Pos} {x y z : Int} (h1 : We C k sc σ om a (fun v om1 => v = .dat (.int x) ∧ om1 = om)) (h2 : We C k sc σ om b (fun v om1 => v = .dat (.int y) ∧ om1 = om)) (h3 : We C k sc σ om c (fun v om1 => v = .dat (.int z) ∧ om1 = om))
    (he : ∀ env, starEach [a, b, c] env = (false, eval a env) :: starEach [b, c] env := by intros; rfl) (he2 : ∀ env, starEach [b, c] env = (false, eval b env) :: starEach [c] env := by intros; rfl) (he3 : ∀ env, starEach [c] env = (false, eval c env) :: starEach [] env := by intros; rfl) :
    We C k sc σ om (.List [a, b, c] p) (fun v om1 => v = .dat (encZ [x, y, z]) ∧ om1 = om) := by
  refine We.lst (Wl.cons (h1.mono fun v om1 ⟨e1, e2⟩ => ?_) he)
  subst e1; rw [e2]
  refine Wl.cons (h2.mono fun w om2 ⟨e3, e4⟩ => ?_) he2
  subst e3; rw [e4]
  refine Wl.cons (h3.mono fun w om2 ⟨e5, e6⟩ => ?_) he3
  subst e5; rw [e6]
  exact Wl.nil ⟨by simp, NewL.dat (ds := [.int x, .int y, .int z]) ⟨rfl, rfl⟩⟩
set_option maxHeartbeats 4000000 in
theorem root_spec {o : Nat} (ho : o = 1 ∨ o = 2 ∨ o = 3 ∨ o = 4 ∨ o = 6) (h : Φ (.dat (encZ (cycl o))) om) : Wf C (k + 1) "_law_root_of_one" om [.dat (.int o)] Φ := by
  rw [← nm63]
  refine Wf.intro (d := fnAt 63) mm63 (names := ["order"]) ?_ ?_ ?_ ?_ ?_ ?_ ?_ ?_
  · rintro pm code doc (_ | ⟨v1, _ | ⟨v2, r⟩⟩) h <;> first | rfl | simp at h; done
  · rfl
  · decide
  · exact kd_of (by rfl)
  rotate_left
  · rfl
  · rfl
  · rfl
  refine Wx.cons ?_
  refine Ws.ret ?_
  refine We.dictSub (kds := [(1, encZ [-1, 1]), (2, encZ [1, 1]), (3, encZ [1, 1, 1]), (4, encZ [1, 0, 1]), (6, encZ [1, -1, 1])]) (i := o) (d := encZ (cycl o)) ?_ (by decide) (by rfl) (by rfl) (by simp) (by decide) (We.name (by rfl) ⟨rfl, rfl⟩) ?_ h
  · refine .cons (lst2 (We.neg (We.cInt ⟨_, rfl, rfl, rfl⟩)) (We.cInt ⟨rfl, rfl⟩)) ?_
    refine .cons (lst2 (We.cInt ⟨rfl, rfl⟩) (We.cInt ⟨rfl, rfl⟩)) ?_
    refine .cons (lst3 (We.cInt ⟨rfl, rfl⟩) (We.cInt ⟨rfl, rfl⟩) (We.cInt ⟨rfl, rfl⟩)) ?_
    refine .cons (lst3 (We.cInt ⟨rfl, rfl⟩) (We.cInt ⟨rfl, rfl⟩) (We.cInt ⟨rfl, rfl⟩)) ?_
    refine .cons (lst3 (We.cInt ⟨rfl, rfl⟩) (We.neg (We.cInt ⟨_, rfl, rfl, rfl⟩)) (We.cInt ⟨rfl, rfl⟩)) .nil
  · rcases ho with rfl | rfl | rfl | rfl | rfl <;> rfl
end
section
variable {C : Cx} {k : Nat} {om : Om} {Φ : AV → Om → Prop}
noncomputable def atv (n o : Nat) (r : Nat → Int) (s : Nat) : Int := ((List.range (n / o)).map fun j => r (s + j * o)).sum
noncomputable def form (n : Nat) (r : Nat → Int) (o : Nat) : Int :=
  let a := atv n o r
  if o = 1 then a 0 else if o = 2 then a 0 - a 1 else if o = 3 then (a 0 - a 2) * (a 0 - a 2) - (a 0 - a 2) * (a 1 - a 2) + (a 1 - a 2) * (a 1 - a 2)
  else if o = 4 then (a 0 - a 2) ^ 2 + (a 1 - a 3) ^ 2
  else (a 0 - a 3 - (a 2 - a 5)) ^ 2 + (a 0 - a 3 - (a 2 - a 5)) * (a 1 - a 4 + (a 2 - a 5)) + (a 1 - a 4 + (a 2 - a 5)) ^ 2
theorem Sz.sub {m x y} (h : Sz m x) (h' : Sz m y) : Sz (m + 1) (x - y) := by rw [Int.sub_eq_add_neg]; exact h.add h'.neg
theorem sq_ok {x : Int} (h : Sz 40 x) : (Builtin.Int.intBits x : Int) * 2 ≤ 2 ^ 27 := bits_pow (n := 2) (h.mono (by decide)) (by decide)
theorem rsize {n o s : Nat} (hmul : o * (n / o) = n) (h0 : 0 < n) (hs : s < o) : Builtin.Range.rangeSize s n o = ((n / o : Nat) : Int) := by
  generalize n / o = m at *
  subst hmul
  have hm : 0 < m := Nat.pos_of_mul_pos_left h0
  obtain ⟨q, rfl⟩ : ∃ q, m = q + 1 := ⟨m - 1, by (exact (Nat.sub_add_cancel (by assumption)).symm)⟩
  have hle : o * 1 ≤ o * (q + 1) := Nat.mul_le_mul_left _ (by (exact Nat.succ_pos _))
  unfold Builtin.Range.rangeSize
  rw [if_pos (by (clear h0 hm hle; lia)), if_pos (by lia)]
  have e : ((o * (q + 1) : Nat) : Int) - s - 1 = ((o - s - 1 : Nat) : Int) + (o : Int) * (q : Int) := by
    have : o * (q + 1) = o * q + o := by rw [Nat.mul_add, Nat.mul_one]
    rw [this]
    have e2 : ((o * q : Nat) : Int) = (o : Int) * (q : Int) := Int.natCast_mul _ _
    lia
  rw [e, Int.add_mul_ediv_left _ _ (by (clear h0 hm hle e; lia)), Int.ediv_eq_zero_of_lt (by (clear hs h0 hm hle e; lia)) (by (clear hs h0 hm hle; lia))]
  lia
set_option maxHeartbeats 4000000 in
theorem form_spec {n o : Nat} {r : Nat → Int} (hn : n ≤ 100) (ho : o = 1 ∨ o = 2 ∨ o = 3 ∨ o = 4 ∨ o = 6) (hd : n % o = 0) (h0 : 0 < n) (hz : ∀ s, s < o → Sz 30 (atv n o r s)) (h : Φ (.dat (.int (form n r o))) om) : Wf C (k + 1) "_law_form" om [.dat (rowE n r), .dat (.int o)] Φ := by
  refine Wf.intro (d := fnAt 64) (List.mem_of_getElem? (i := 50) (by kernel_rfl)) (names := ["row", "order"]) (by rintro pm code doc (_ | ⟨v1, _ | ⟨v2, _ | ⟨v3, r⟩⟩⟩) h <;> first | rfl | simp at h; done) rfl (by decide) (kd_of (by rfl)) ?_
  refine Wx.cons ?_
  have hop : 0 < o := by lia
  have ho6 : o ≤ 6 := by lia
  have hmul : o * (n / o) = n := by have := Nat.div_add_mod n o; lia
  refine Ws.assignCompI (g := fun s => .int (atv n o r s)) (Wi.range1 (We.name (by rfl) ⟨o, rfl, by (exact Nat.le_trans (by assumption) (Nat.le_of_ble_eq_true rfl)), ?_, ?_⟩) (by rfl)) (by rfl) (by first | exact .inl (by rfl) | exact .inr (by rfl)) (by rfl) (by intro env he; cases env; cases he; rfl)
  · intro s a hs om'
    obtain ⟨hso, rfl⟩ := item_range hs
    refine We.bSum (We.compI (g := fun j => .int (r (s + j * o))) (Wi.range (Wl.cons (We.name Sto.set_eq (Wl.cons (We.bLenD (We.name (by rfl) ⟨_, rfl, by simp; (exact Nat.le_trans (by assumption) (Nat.le_of_ble_eq_true rfl)), Wl.cons (We.name (by rfl) (Wl.nil ⟨s, n, o, n / o, .inr (.inr ⟨?_, by lia⟩), by lia, by lia, by lia, by lia, by lia, ?_, ?_, ?_, ?_⟩))⟩) (by rfl))))) (by rfl)) (by rfl) (by first | exact .inl (by rfl) | exact .inr (by rfl))) (by rfl)
    · simp
    · exact rsize hmul h0 hso
    · have := Nat.div_le_self n o; lia
    · intro j a hj om2
      have hjl : j < n / o := by have := (List.getElem?_eq_some_iff.mp hj).1; rwa [rgs_len] at this
      have ha : a = .dat (.int ((s + j * o : Nat) : Int)) := by
        unfold rgs at hj
        rw [List.getElem?_map, List.getElem?_range hjl] at hj
        simpa using hj.symm
      subst ha
      have hlt : s + j * o < n := by
        have : (j + 1) * o ≤ (n / o) * o := Nat.mul_le_mul_right _ (by (assumption))
        rw [Nat.mul_comm (n / o)] at this
        rw [Nat.add_mul] at this
        lia
      exact We.rowI (n := n) (r := r) (by rfl) (by (exact Nat.le_trans (by assumption) (Nat.le_of_ble_eq_true rfl))) (We.name Sto.set_eq ⟨s + j * o, rfl, hlt, rfl, rfl⟩)
    · rw [rgs_len]
      refine ⟨(List.range (n / o)).map fun j => r (s + j * o), ?_, rfl, rfl⟩
      simp
  · have hl : ((List.range o).map fun i : Nat => AV.dat (.int (i : Int))).length = o := by simp
    rw [hl]
    have er : PyData.list ((List.range o).map fun s => .int (atv n o r s)) = rowE o (atv n o r) := by simp [rowE, encZ]
    rw [er]
    have rd : ∀ (σ1 : Sto) (om1 : Om) (j : Nat) (Ψ : AV → Om → Prop) (p p2 pos : Pos) (kd : Nat) (z : Int), σ1 "at" = some (.dat (rowE o (atv n o r))) → z = (j : Int) → j < o → Ψ (.dat (.int (atv n o r j))) om1 → We C k (fnAt 64).scope σ1 om1 (.Subscript (.Name (Str.ofString "at") p) (.Constant (.int z) kd p2) pos) Ψ :=
      fun σ1 om1 j Ψ p p2 pos kd z e1 e2 hj hΨ => We.rowI e1 (by (exact Nat.le_trans (by assumption) (Nat.le_of_ble_eq_true rfl))) (We.cInt ⟨j, by rw [e2], hj, hΨ⟩)
    have cmpo : ∀ c : Int, cmpV .Eq (.dat (.int (o : Int))) (.dat (.int c)) = some ((o : Int) == c) := fun c => rfl
    refine Wx.cons ?_
    refine Ws.ite (Wt.cmp (We.name (by rfl) (We.cInt ⟨_, rfl, ?_⟩)))
    rcases ho with rfl | ho
    · rw [if_pos (by rfl)]
      refine Wx.cons (Ws.ret ?_)
      exact rd _ _ 0 _ _ _ _ _ _ (by rfl) rfl (by decide) h
    have h1 : ((o : Int) == 1) = false := by simp; lia
    rw [h1, if_neg (by decide)]
    refine Wx.nil ?_
    refine Wx.cons ?_
    refine Ws.ite (Wt.cmp (We.name (by rfl) (We.cInt ⟨_, rfl, ?_⟩)))
    rcases ho with rfl | ho
    · rw [if_pos (by rfl)]
      refine Wx.cons (Ws.ret (We.sub ?_))
      refine rd _ _ 0 _ _ _ _ _ _ (by rfl) rfl (by decide) ?_
      exact rd _ _ 1 _ _ _ _ _ _ (by rfl) rfl (by decide) ⟨_, _, rfl, rfl, h⟩
    have h1 : ((o : Int) == 2) = false := by simp; lia
    rw [h1, if_neg (by decide)]
    refine Wx.nil ?_
    refine Wx.cons ?_
    refine Ws.ite (Wt.cmp (We.name (by rfl) (We.cInt ⟨_, rfl, ?_⟩)))
    rcases ho with rfl | ho
    · rw [if_pos (by rfl)]
      refine Wx.cons ?_
      refine Ws.swap (names := ["one", "other"]) (Wl.cons (We.sub ?_)) (kd_of (by rfl)) (by intro env he; cases env; cases he; rfl)
      refine rd _ _ 0 _ _ _ _ _ _ (by rfl) rfl (by decide) ?_
      refine rd _ _ 2 _ _ _ _ _ _ (by rfl) rfl (by decide) ⟨_, _, rfl, rfl, ?_⟩
      refine Wl.cons (We.sub ?_)
      refine rd _ _ 1 _ _ _ _ _ _ (by rfl) rfl (by decide) ?_
      refine rd _ _ 2 _ _ _ _ _ _ (by rfl) rfl (by decide) ⟨_, _, rfl, rfl, Wl.nil ⟨rfl, by decide, ?_⟩⟩
      have z1 : Sz 64 (atv n 3 r 0 - atv n 3 r 2) := ((hz 0 (by decide)).sub (hz 2 (by decide))).mono (by decide)
      have z2 : Sz 64 (atv n 3 r 1 - atv n 3 r 2) := ((hz 1 (by decide)).sub (hz 2 (by decide))).mono (by decide)
      refine Wx.cons ?_
      refine Ws.ret (We.add (We.sub (We.mul ?_)))
      refine We.name (by rfl) (We.name (by rfl) ⟨_, _, rfl, rfl, mulOk_l z1, We.mul ?_⟩)
      refine We.name (by rfl) (We.name (by rfl) ⟨_, _, rfl, rfl, mulOk_l z1, _, _, rfl, rfl, We.mul ?_⟩)
      exact We.name (by rfl) (We.name (by rfl) ⟨_, _, rfl, rfl, mulOk_l z2, _, _, rfl, rfl, h⟩)
    have h1 : ((o : Int) == 3) = false := by simp; lia
    rw [h1, if_neg (by decide)]
    refine Wx.nil ?_
    refine Wx.cons ?_
    refine Ws.ite (Wt.cmp (We.name (by rfl) (We.cInt ⟨_, rfl, ?_⟩)))
    rcases ho with rfl | rfl
    · rw [if_pos (by rfl)]
      have z1 : Sz 40 (atv n 4 r 0 - atv n 4 r 2) := ((hz 0 (by decide)).sub (hz 2 (by decide))).mono (by decide)
      have z2 : Sz 40 (atv n 4 r 1 - atv n 4 r 3) := ((hz 1 (by decide)).sub (hz 3 (by decide))).mono (by decide)
      refine Wx.cons ?_
      refine Ws.ret (We.add (We.pow (We.sub ?_)))
      refine rd _ _ 0 _ _ _ _ _ _ (by rfl) rfl (by decide) ?_
      refine rd _ _ 2 _ _ _ _ _ _ (by rfl) rfl (by decide) ⟨_, _, rfl, rfl, We.cInt ⟨_, _, rfl, rfl, by decide, sq_ok z1, We.pow (We.sub ?_)⟩⟩
      refine rd _ _ 1 _ _ _ _ _ _ (by rfl) rfl (by decide) ?_
      exact rd _ _ 3 _ _ _ _ _ _ (by rfl) rfl (by decide) ⟨_, _, rfl, rfl, We.cInt ⟨_, _, rfl, rfl, by decide, sq_ok z2, _, _, rfl, rfl, h⟩⟩
    · rw [if_neg (by decide)]
      refine Wx.nil ?_
      refine Wx.cons ?_
      have w0 := (hz 0 (by decide)).sub (hz 3 (by decide))
      have w1 := (hz 1 (by decide)).sub (hz 4 (by decide))
      have w2 := (hz 2 (by decide)).sub (hz 5 (by decide))
      have z1 : Sz 40 (atv n 6 r 0 - atv n 6 r 3 - (atv n 6 r 2 - atv n 6 r 5)) := (w0.sub w2).mono (by decide)
      have z2 : Sz 40 (atv n 6 r 1 - atv n 6 r 4 + (atv n 6 r 2 - atv n 6 r 5)) := (w1.add w2).mono (by decide)
      refine Ws.swap (names := ["one", "other", "last"]) (Wl.cons (We.sub ?_)) (kd_of (by rfl)) (by intro env he; cases env; cases he; rfl)
      refine rd _ _ 0 _ _ _ _ _ _ (by rfl) rfl (by decide) ?_
      refine rd _ _ 3 _ _ _ _ _ _ (by rfl) rfl (by decide) ⟨_, _, rfl, rfl, ?_⟩
      refine Wl.cons (We.sub ?_)
      refine rd _ _ 1 _ _ _ _ _ _ (by rfl) rfl (by decide) ?_
      refine rd _ _ 4 _ _ _ _ _ _ (by rfl) rfl (by decide) ⟨_, _, rfl, rfl, ?_⟩
      refine Wl.cons (We.sub ?_)
      refine rd _ _ 2 _ _ _ _ _ _ (by rfl) rfl (by decide) ?_
      refine rd _ _ 5 _ _ _ _ _ _ (by rfl) rfl (by decide) ⟨_, _, rfl, rfl, Wl.nil ⟨rfl, by decide, ?_⟩⟩
      refine Wx.cons ?_
      refine Ws.ret (We.add (We.add (We.pow (We.sub ?_))))
      refine We.name (by rfl) (We.name (by rfl) ⟨_, _, rfl, rfl, We.cInt ⟨_, _, rfl, rfl, by decide, sq_ok z1, We.mul (We.sub ?_)⟩⟩)
      refine We.name (by rfl) (We.name (by rfl) ⟨_, _, rfl, rfl, We.add ?_⟩)
      refine We.name (by rfl) (We.name (by rfl) ⟨_, _, rfl, rfl, _, _, rfl, rfl, mulOk_l (z1.mono (by decide)), _, _, rfl, rfl, We.pow (We.add ?_)⟩)
      exact We.name (by rfl) (We.name (by rfl) ⟨_, _, rfl, rfl, We.cInt ⟨_, _, rfl, rfl, by decide, sq_ok z2, _, _, rfl, rfl, h⟩⟩)
end
section
variable {C : Cx} {k : Nat} {om : Om} {Φ : AV → Om → Prop}
noncomputable def fl (n : Nat) (r : Nat → Int) : List Int := ztr ((List.range n).map r)
noncomputable def wh (n : Nat) : List Int := [-1] ++ List.replicate (n - 1) 0 ++ [1]
noncomputable def prodF (n : Nat) (r : Nat → Int) : List Nat → Int → Int
  | [], p => p
  | o :: os, p => prodF n r os (if n % o = 0 then p * form n r o else p)
noncomputable def plusR (n : Nat) (r : Nat → Int) (i : Nat) : Int := r i + r (i + n / 2)
noncomputable def lessR (n : Nat) (r : Nat → Int) (i : Nat) : Int := r i - r (i + n / 2)
noncomputable def toQ (l : List Int) : List Rat := l.map fun i : Int => (i : Rat)
noncomputable def turnR (num : Int) (l : List Rat) (j : Nat) : Int := if j < l.length then (num * (cq l j).num).fdiv ((cq l j).den : Int) else 0
noncomputable def oneR (num : Int) (j : Nat) : Int := if j = 0 then num else 0
structure LawOk (n : Nat) (r q : Nat → Int) (num : Int) (P f : Nat) (X : T3) : Prop where
  sr : ∀ i, Sz 3 (r i)
  sq : ∀ i, Sz 8 (q i)
  sn : Sz 64 num
  det : DetQ n n 0 (circ n r 1) 1 1 (fun v => v = num)
  prod : prodF n r [1, 2, 3, 4, 6] 1 = num
  fsz : ∀ o, (o = 1 ∨ o = 2 ∨ o = 3 ∨ o = 4 ∨ o = 6) → n % o = 0 → (∀ s, s < o → Sz 30 (atv n o r s)) ∧ Sz 64 (form n r o)
  res : ∀ o, (o = 1 ∨ o = 2 ∨ o = 3 ∨ o = 4 ∨ o = 6) → n % o = 0 → ∃ m, rsOk m (cycl o) (fl n r) ∧ resP m (cycl o) (fl n r) = form n r o
  resw : ∃ m, rsOk m (wh n) (fl n r) ∧ resP m (wh n) (fl n r) = num
  half : n % 2 = 0 → ∃ d1 d2, DetQ (n / 2) (n / 2) 0 (circ (n / 2) (plusR n r) 1) 1 1 (fun v => v = d1) ∧ DetQ (n / 2) (n / 2) 0 (circ (n / 2) (lessR n r) (-1)) 1 1 (fun v => v = d2) ∧ d1 * d2 = num ∧ Sz 64 d1
  P0 : 0 < P
  P1 : P ≤ 20000000
  ext : exOk P f (toQ (fl n r), [1], []) (toQ (wh n), [], [1])
  exX : exR (exS f (toQ (fl n r), [1], []) (toQ (wh n), [], [1])) = X
  lx : X.1.length ≤ 100
  rnk : EchQ n n 0 (fun i j => (circ n r 1 i j : Rat)) [] (fun pv => (pv.length : Int) = n - ((X.1.length : Int) - 1) ∧ pv.length ≤ 100)
  comm : ∀ i j, i < n → j < n → mulF n (circ n r 1) (circ n q 1) i j = circ n (cyc n r q) 1 i j
  cycz : ∀ i, i < n → Sz 64 (cyc n r q i)
  lf : num ≠ 0 → X.2.1.length ≤ n
  inv : num ≠ 0 → ∀ x ∈ X.2.1, (num * x.num).fmod (x.den : Int) = 0
  turn : num ≠ 0 → ∀ i j, i < n → j < n → mulF n (circ n r 1) (circ n (turnR num X.2.1) 1) i j = circ n (oneR num) 1 i j
set_option maxHeartbeats 4000000 in
theorem rows_draw {sc : Scope} {σ : Sto} {Dp : Addr} {cells : List Int} {spot n : Nat} {pf pp p1 p2 p3 p4 : Pos} {kd kd2 k1 : Nat} (hk1 : 1 ≤ k1) {x : Str} {iter : PySem.Expr} {scope : Scope} (hc : cells.length ≤ 1000) (hp : om Dp = some (poolL cells spot))
    (hx : sigC scope σ (Str.ofString "pool") = some (.own Dp)) (hxp : x ≠ Str.ofString "pool") (hn : n ≤ 1000) (hfn : (rl sc scope).names.lookup (Str.ofString "_law_draw") = some .globalImplicit)
    (hit : ∀ Ψ, Ψ ((List.range n).map fun i : Nat => AV.dat (.int i)) om → Wi C k1 sc σ om iter Ψ)
    (h : ∀ r om' spot', (∀ i, -3 ≤ r i ∧ r i ≤ 3) → om' Dp = some (poolL cells spot') → Φ (.dat (rowE n r)) om') :
    Wi C k1 sc σ om iter (fun items om1 => ∃ J : Nat → List AV → Om → Prop, J 0 [] om1 ∧ (∀ i acc om2, J i acc om2 → acc.length ≤ i) ∧
      CompJ C k1 (rl sc scope) (sigC scope σ) x items J [] (.BinOp (.Call (.Name (Str.ofString "_law_draw") pf) [.Name (Str.ofString "pool") pp, .Constant (.int 7) kd p1] [] p2) .Sub (.Constant (.int 3) kd2 p3) p4) ∧
      (∀ acc om2, J items.length acc om2 → NewL om2 acc Φ)) := by
  refine hit _ ⟨fun i acc om2 => ∃ r : Nat → Int, (∀ i, -3 ≤ r i ∧ r i ≤ 3) ∧ acc = (((List.range i).map r).map PyData.int).map AV.dat ∧ ∃ spot', om2 Dp = some (poolL cells spot'), ⟨fun _ => 0, fun _ => (by decide : (-3 : Int) ≤ 0 ∧ (0 : Int) ≤ 3), rfl, spot, hp⟩, ?_, ?_, ?_⟩
  · rintro i acc om2 ⟨r, _, rfl, _⟩; simp
  · rintro i a acc om2 D hi hD ⟨r, hr, rfl, spot', hp'⟩
    have hne : Dp ≠ D := fun e => by rw [e, hD] at hp'; cases hp'
    refine We.sub ?_
    refine We.call ?_ hfn (has_of 46 (by kernel_rfl))
    refine Wl.cons ?_
    refine We.name (by rw [Sto.set_ne (Ne.symm hxp)]; exact hx) ?_
    refine Wl.cons (We.cInt (Wl.nil ?_))
    refine Wf.lift (k' := 0 + 1) (draw_spec (many := 7) hc (by rw [Om.set_other hne]; exact hp') (by decide) fun v hv => ?_) hk1
    refine We.cInt ⟨_, _, rfl, rfl, om2.set Dp (poolL cells (spot' + 1)), ?_, by rw [Om.set_other (Ne.symm hne)]; exact hD, fun j => if j = i then (v : Int) - 3 else r j, fun j => ?_, ?_, spot' + 1, Om.set_at⟩
    · funext z; simp only [Om.set]
      by_cases q1 : z = Dp
      · simp [q1, hne]
      · simp [q1]
    · by_cases q1 : j = i
      · simp only [q1, if_true]; lia
      · simp only [if_neg q1]; exact hr j
    · rw [List.range_succ, List.map_append, List.map_append, List.map_append]
      congr 1
      · congr 2
        exact List.map_congr_left fun j hj => by
          have := List.mem_range.mp hj
          show r j = if j = i then (v : Int) - 3 else r j
          rw [if_neg (by lia)]
      · simp
  · rintro acc om2 ⟨r, hr, rfl, spot', hp'⟩
    have hl : ((List.range n).map fun i : Nat => AV.dat (.int (i : Int))).length = n := by simp
    rw [hl]
    exact NewL.dat (h r om2 spot' hr hp')
theorem Ws.assignS {sc : Scope} {σ : Sto} {Φ : Fl → Sto → Om → Prop} {x p e pos} (y : We C k sc σ om e (fun a om1 => Φ .nx (σ.set x a) om1)) (hk : Kd sc x) (hs : ∀ env, env.scope = sc → swapsWith e (some (.Name x p)) pos.line env = pure false) : Ws C k sc σ om (.Assign [.Name x p] e pos) Φ := by
  intro A env s E Q hA S hQ
  refine wpAny_Assign_Name (y.bind hA S fun v a om1 h1 tk1 z st S1 r => store_ok S1 hk r fun q h' tk hp hs ef S' => ?_) (hs env S.fro.scope)
  exact hQ .next .nx _ om1 h' tk z (st.weak.trans (ef.weak (Wr_sub hp))) S' trivial
theorem eqv_refl : ∀ l : List Int, PyData.eqvAll (l.map PyData.int) (l.map PyData.int) = true
  | [] => by simp [PyData.eqvAll]
  | x :: r => by simp [PyData.eqvAll, PyData.eqv, eqv_refl r]
theorem eqv_rows : ∀ l : List (List Int), PyData.eqvAll (l.map encZ) (l.map encZ) = true
  | [] => by simp [PyData.eqvAll]
  | x :: r => by
    simp only [List.map_cons, PyData.eqvAll, eqv_rows r, Bool.and_true]
    unfold encZ
    rw [PyData.eqv]; exact eqv_refl x
theorem shaped_mat {n : Nat} {M} : SeqAt.shaped (matE n M) = true := by
  have h := shp_list (ds := (List.range n).map fun i => rowE n (M i)) (n := 1) fun d hd => by
    obtain ⟨i, _, rfl⟩ := List.mem_map.mp hd
    exact shp_encZ
  exact shaped_of ⟨h.1, Nat.le_trans h.2 (by decide)⟩
theorem cmp_mat {n : Nat} {M N : Nat → Nat → Int} (h : ∀ i j, i < n → j < n → M i j = N i j) : cmpV .NotEq (.dat (matE n M)) (.dat (matE n N)) = some false ∧ cmpV .Eq (.dat (matE n M)) (.dat (matE n N)) = some true := by
  have e : matE n M = matE n N := by
    unfold matE
    congr 1
    refine List.map_congr_left fun i hi => ?_
    unfold rowE
    congr 1
    exact List.map_congr_left fun j hj => h i j (List.mem_range.mp hi) (List.mem_range.mp hj)
  rw [e]
  have hsh := shaped_mat (n := n) (M := N)
  have hr : PyData.eqvAll ((List.range n).map fun i => rowE n (N i)) ((List.range n).map fun i => rowE n (N i)) = true := by
    have := eqv_rows ((List.range n).map fun i => (List.range n).map (N i))
    simpa [rowE, Function.comp_def] using this
  unfold matE at *
  refine ⟨?_, ?_⟩ <;> simp [cmpV, cmpD, cmpS, hsh, hr]
end
section
variable {C : Cx} {k : Nat} {om : Om} {Φ : AV → Om → Prop}
noncomputable def okN (n : Nat) : Prop := n = 4 ∨ n = 3 ∨ n = 6 ∨ n = 2
structure lwJS (n : Nat) (r q : Nat → Int) (v : Int) (i : Nat) (σ1 : Sto) (om1 : Om) (p : Int) : Prop where
  c0 : σ1 "product" = some (.dat (.int p))
  c1 : prodF n r (([1, 2, 3, 4, 6] : List Nat).drop i) p = v
  c2 : σ1 "n" = some (.dat (.int n))
  c3 : σ1 "row" = some (.dat (rowE n r))
  c4 : σ1 "other" = some (.dat (rowE n q))
  c5 : σ1 "f" = some (.dat (encZ (fl n r)))
  c6 : σ1 "whole" = some (.dat (encZ (wh n)))
  c7 : σ1 "square" = some (.dat (matE n (circ n r 1)))
  c8 : σ1 "number" = some (.dat (.int v))
@[reducible] noncomputable def lwJ (n : Nat) (r q : Nat → Int) (v : Int) (i : Nat) (σ1 : Sto) (om1 : Om) : Prop := ∃ p, lwJS n r q v i σ1 om1 p
structure lwP (n : Nat) (r q : Nat → Int) (p : Int)  (σ2 : Sto) (om2 : Om) : Prop where
  c0 : σ2 "n" = some (.dat (.int n))
  c1 : σ2 "row" = some (.dat (rowE n r))
  c2 : σ2 "other" = some (.dat (rowE n q))
  c3 : σ2 "f" = some (.dat (encZ (fl n r)))
  c4 : σ2 "whole" = some (.dat (encZ (wh n)))
  c5 : σ2 "square" = some (.dat (matE n (circ n r 1)))
  c6 : σ2 "number" = some (.dat (.int p))
set_option maxHeartbeats 8000000 in
theorem law_spec {script : List Int} (hs : script.length ≤ 1000) (hL : ∀ n r q, okN n → (∀ i, -3 ≤ r i ∧ r i ≤ 3) → (∀ i, -3 ≤ q i ∧ q i ≤ 3) → ∃ num P f X, LawOk n r q num P f X) (h : ∀ om', Φ (.dat (.bool true)) om') : Wf C (k + 8) "law" om [.dat (encZ script)] Φ := by
  refine Wf.intro (d := fnAt 65) (List.mem_of_getElem? (i := 51) (by kernel_rfl)) (names := ["script"]) (by rintro pm code doc (_ | ⟨v1, _ | ⟨v2, r⟩⟩) h <;> first | rfl | simp at h; done) rfl (by decide) (kd_of (by rfl)) ?_
  refine Wx.cons ?_
  refine Ws.assign ?_ (by first | exact .inl rfl | exact .inr rfl)
  refine We.lst ?_
  refine Wl.cons ?_
  refine We.compM (g := fun x => x) (Wi.list (We.uptoD (by rfl) (We.cInt ⟨_, rfl, by simp; lia, _, rfl, by simp; lia, ?_, ?_⟩))) (by rfl) (by first | exact .inl (by rfl) | exact .inr (by rfl))
  · intro a ha om'
    obtain ⟨d, hd, rfl⟩ := List.mem_map.mp ha
    have hd' := List.mem_of_mem_take hd
    obtain ⟨i, _, rfl⟩ := List.mem_map.mp hd'
    exact We.bInt (We.name Sto.set_eq ⟨i, rfl, rfl, rfl⟩) (by rfl)
  have e13 : (((script.map PyData.int).take (if (13 : Int) < 0 then (((script.map PyData.int).length : Int) + 13).toNat else (13 : Int).toNat)).map AV.dat).map (fun x => x) = ((script.take 13).map PyData.int).map AV.dat := by
    rw [if_neg (by decide), List.map_id', ← List.map_take]; rfl
  rw [e13]
  refine NewL.dat ?_
  refine Wl.cons (We.cInt (Wl.nil ⟨by simp, NewL.own fun Dp hDp => ?_⟩))
  have hp : (om.set Dp [.dat (encZ (script.take 13)), .dat (.int 0)]) Dp = some (poolL (script.take 13) 0) := Om.set_at
  change Wx _ _ _ _ (om.set Dp [.dat (encZ (script.take 13)), .dat (.int 0)]) _ _
  generalize om.set Dp [.dat (encZ (script.take 13)), .dat (.int 0)] = om1 at hp
  have hcl : (script.take 13).length ≤ 1000 := by simp; lia
  generalize script.take 13 = cells at hp hcl
  refine Wx.cons ?_
  refine Ws.assign ?_ (by first | exact .inl rfl | exact .inr rfl)
  refine We.subN ?_
  refine We.tup ?_
  iterate 4 refine Wl.cons (We.cInt ?_)
  refine Wl.nil ⟨[.int 4, .int 3, .int 6, .int 2], rfl, by decide, ?_⟩
  refine We.call ?_ (by rfl) (has_of 46 (by kernel_rfl))
  refine Wl.cons ?_
  refine We.name (a := .own Dp) (by rfl) ?_
  refine Wl.cons (We.cInt (Wl.nil ?_))
  refine draw_spec (many := 4) hcl hp (by decide) fun v hv => ?_
  have hn : ∃ n : Nat, okN n ∧ ([.int 4, .int 3, .int 6, .int 2] : List PyData)[v]? = some (.int (n : Int)) := by
    have : v = 0 ∨ v = 1 ∨ v = 2 ∨ v = 3 := by lia
    rcases this with rfl | rfl | rfl | rfl
    · exact ⟨4, .inl rfl, rfl⟩
    · exact ⟨3, .inr (.inl rfl), rfl⟩
    · exact ⟨6, .inr (.inr (.inl rfl)), rfl⟩
    · exact ⟨2, .inr (.inr (.inr rfl)), rfl⟩
  obtain ⟨n, hno, hv⟩ := hn
  refine ⟨_, v, _, .inr rfl, rfl, hv, by decide, ?_⟩
  have hp1 : (om1.set Dp (poolL cells (0 + 1))) Dp = some (poolL cells 1) := Om.set_at
  generalize om1.set Dp (poolL cells (0 + 1)) = om2 at hp1
  have hn6 : n ≤ 6 := by unfold okN at hno; lia
  have hn2 : 2 ≤ n := by unfold okN at hno; lia
  refine Wx.cons ?_
  refine Ws.assignS ?_ (by first | exact .inl rfl | exact .inr rfl) (by intro env he; cases env; cases he; rfl)
  refine We.comp ?_ (by rfl) (by first | exact .inl (by rfl) | exact .inr (by rfl))
  refine rows_draw (n := n) (cells := cells) (Dp := Dp) (by lia) hcl hp1 (by rfl) (by decide) (by lia) (by rfl) (fun Ψ hΨ => ?_) ?_
  · exact Wi.range1 (We.name (by rfl) ⟨n, rfl, by lia, hΨ⟩) (by rfl)
  intro r om3 spot1 hr hp2
  refine Wx.cons ?_
  refine Ws.assignComp ?_ (by rfl) (by first | exact .inl (by rfl) | exact .inr (by rfl)) (by rfl) (by intro env he; cases env; cases he; rfl)
  refine rows_draw (n := n) (cells := cells) (Dp := Dp) (by lia) hcl hp2 (by rfl) (by decide) (by lia) (by rfl) (fun Ψ hΨ => ?_) ?_
  · exact Wi.range1 (We.name (by rfl) ⟨n, rfl, by lia, hΨ⟩) (by rfl)
  intro q om4 spot2 hq hp3
  obtain ⟨num, P, f, X, ok⟩ := hL n r q hno hr hq
  clear hp hp1 hp2 hp3 hL hDp hcl e13 hv
  have hn0 : 0 < n := by lia
  refine Wx.cons ?_
  refine Ws.assignTT ?_ (by rfl) (by intro env he; cases env; cases he; rfl)
  refine Wl.cons ?_
  refine We.call ?_ (by rfl) (has_of 2 (by kernel_rfl))
  refine Wl.cons (We.name (a := .dat (rowE n r)) (by rfl) (Wl.nil (ztrim_spec (by simp; lia) ?_)))
  change Wl _ _ _ _ _ _ _
  refine Wl.cons ?_
  refine We.addL ?_
  refine We.addL ?_
  refine We.lst (Wl.cons (We.neg (We.cInt ⟨_, rfl, Wl.nil ⟨by decide, NewL.dat (ds := [.int (-1)]) ?_⟩⟩)))
  refine We.mulL ?_
  refine We.lst (Wl.cons (We.cInt (Wl.nil ⟨by decide, NewL.dat (ds := [.int 0]) ?_⟩)))
  refine We.sub (We.name (a := .dat (.int n)) (by rfl) (We.cInt ⟨_, _, rfl, rfl, ?_⟩))
  have en1 : (n : Int) - 1 = ((n - 1 : Nat) : Int) := by lia
  rw [en1]
  refine ⟨[.dat (.int 0)], ((n - 1 : Nat) : Int), rfl, rfl, by lia, by lia, by simp; lia, .inl ⟨List.replicate (n - 1) (.int 0), by simp, ?_⟩⟩
  refine ⟨_, _, rfl, rfl, by simp; lia, .inl ⟨[.int (-1)] ++ List.replicate (n - 1) (.int 0), by simp, ?_⟩⟩
  refine We.lst (Wl.cons (We.cInt (Wl.nil ⟨by decide, NewL.dat (ds := [.int 1]) ?_⟩)))
  refine ⟨_, _, rfl, rfl, by simp; lia, .inl ⟨(wh n).map .int, by simp [wh], ?_⟩⟩
  refine Wl.cons ?_
  refine We.call ?_ (by rfl) (has_of 47 (by kernel_rfl))
  refine Wl.cons (We.name (a := .dat (rowE n r)) (by rfl) (Wl.cons (We.cInt (Wl.nil (round_spec (by lia) (by unfold Sz; decide) ?_)))))
  refine Wl.cons (We.cInt (Wl.nil ⟨rfl, by decide, ?_⟩))
  refine Wa.name ?_ (by first | exact .inl rfl | exact .inr rfl)
  refine Wa.name ?_ (by first | exact .inl rfl | exact .inr rfl)
  refine Wa.name ?_ (by first | exact .inl rfl | exact .inr rfl)
  refine Wa.name ?_ (by first | exact .inl rfl | exact .inr rfl)
  refine Wx.cons ?_
  refine Ws.assign ?_ (by first | exact .inl rfl | exact .inr rfl)
  refine We.call ?_ (by rfl) (has_of 19 (by kernel_rfl))
  refine Wl.cons (We.name (a := .dat (matE n (circ n r 1))) (by rfl) (Wl.nil (Wf.lift (k' := 0 + 2) (determinant_spec (by lia) ok.det fun v om5 hv => ?_) (by lia))))
  subst hv
  have ordOf : ∀ (i o : Nat), ([1, 2, 3, 4, 6] : List Nat)[i]? = some o → (o = 1 ∨ o = 2 ∨ o = 3 ∨ o = 4 ∨ o = 6) := by
    intro i o hi
    have := List.mem_of_getElem? hi
    simpa using this
  refine Wx.cons ?_
  refine Ws.for ?_ (by first | exact .inl rfl | exact .inr rfl)
  refine Wi.tuple ?_
  refine We.tup ?_
  iterate 5 refine Wl.cons (We.cInt ?_)
  refine Wl.nil ⟨([1, 2, 3, 4, 6] : List Nat).map fun o : Nat => PyData.int o, rfl, by decide, _, rfl, by decide, ?_⟩
  refine ⟨(lwJ n r q v), ⟨1, by rfl, ok.prod, by rfl, by rfl, by rfl, by rfl, by rfl, by rfl, by rfl⟩, ?_, ?_⟩
  · rintro i a σ1 om6 hi ⟨p, g1, g2, g3, g4, g5, g6, g7, g8, g9⟩
    rw [List.getElem?_map, List.getElem?_map] at hi
    obtain ⟨o, ho, rfl⟩ : ∃ o : Nat, ([1, 2, 3, 4, 6] : List Nat)[i]? = some o ∧ a = .dat (.int o) := by
      cases e : ([1, 2, 3, 4, 6] : List Nat)[i]? with
      | none => rw [e] at hi; cases hi
      | some o => rw [e] at hi; exact ⟨o, rfl, by simpa using hi.symm⟩
    have hoo := ordOf i o ho
    have hdrop : ([1, 2, 3, 4, 6] : List Nat).drop i = o :: ([1, 2, 3, 4, 6] : List Nat).drop (i + 1) := by
      obtain ⟨hlt, e⟩ := List.getElem?_eq_some_iff.mp ho
      rw [List.drop_eq_getElem_cons hlt, e]
    rw [hdrop, prodF] at g2
    refine Wx.cons ?_
    refine Ws.ite (Wt.cmp (We.mod ?_))
    refine We.name g3 (We.name (a := .dat (.int o)) (by rfl) ⟨_, _, rfl, rfl, by lia, We.cInt ⟨_, rfl, ?_⟩⟩)
    have em : (((n : Int).fmod (o : Int)) == 0) = decide (n % o = 0) := by
      rw [Int.fmod_eq_emod_of_nonneg _ (by lia)]
      by_cases q : n % o = 0
      · rw [decide_eq_true q]; simp; lia
      · rw [decide_eq_false q]; simp; lia
    rw [em]
    by_cases hm : n % o = 0
    · rw [decide_eq_true hm, if_pos rfl]
      rw [if_pos hm] at g2
      obtain ⟨z1, z2⟩ := ok.fsz o hoo hm
      obtain ⟨m, r1, r2⟩ := ok.res o hoo hm
      refine Wx.cons ?_
      refine Ws.assign ?_ (by first | exact .inl rfl | exact .inr rfl)
      refine We.mul (We.name g1 ?_)
      refine We.call ?_ (by rfl) (has_of 50 (by kernel_rfl))
      refine Wl.cons (We.name g4 (Wl.cons (We.name (a := .dat (.int o)) (by rfl) (Wl.nil (form_spec (by lia) hoo hm hn0 z1 ⟨_, _, rfl, rfl, mulOk_r z2, ?_⟩)))))
      refine Wx.cons ?_
      refine Ws.ite (Wt.cmp ?_)
      refine We.call ?_ (by rfl) (has_of 16 (by kernel_rfl))
      refine Wl.cons ?_
      refine We.call ?_ (by rfl) (has_of 49 (by kernel_rfl))
      refine Wl.cons (We.name (a := .dat (.int o)) (by rfl) (Wl.nil (root_spec hoo ?_)))
      refine Wl.cons (We.name g6 (Wl.nil (resultant_spec r1 ?_)))
      refine We.call ?_ (by rfl) (has_of 50 (by kernel_rfl))
      refine Wl.cons (We.name g4 (Wl.cons (We.name (a := .dat (.int o)) (by rfl) (Wl.nil (form_spec (by lia) hoo hm hn0 z1 ⟨_, rfl, ?_⟩)))))
      rw [r2]
      have : (form n r o != form n r o) = false := by simp
      rw [this, if_neg (by decide)]
      exact Wx.nil (Wx.nil (Wx.nil ⟨_, by rfl, g2, g3, g4, g5, g6, g7, g8, g9⟩))
    · rw [decide_eq_false hm, if_neg (by decide)]
      rw [if_neg hm] at g2
      exact Wx.nil (Wx.nil ⟨p, g1, g2, g3, g4, g5, g6, g7, g8, g9⟩)
  rintro σ1 om6 ⟨p, g1, g2, g3, g4, g5, g6, g7, g8, g9⟩
  have hp : p = v := g2
  subst hp
  obtain ⟨m, w1, w2⟩ := ok.resw
  refine Wx.cons ?_
  refine Ws.ite (Wt.or (Wt.cmp (We.name g9 (We.name g1 ⟨_, rfl, ?_⟩))))
  have : (p != p) = false := by simp
  rw [this, if_neg (by decide)]
  refine Wt.cmp ?_
  refine We.call ?_ (by rfl) (has_of 16 (by kernel_rfl))
  refine Wl.cons (We.name g7 (Wl.cons (We.name g6 (Wl.nil (resultant_spec w1 ?_)))))
  refine We.name g1 ⟨_, rfl, ?_⟩
  rw [w2, this, if_neg (by decide)]
  refine Wx.nil ?_
  refine Wx.consP ((lwP n r q p)) ?_ ?_
  · refine Ws.ite (Wt.cmp (We.mod ?_))
    refine We.name g3 (We.cInt ⟨_, _, rfl, rfl, by decide, We.cInt ⟨_, rfl, ?_⟩⟩)
    have em : (((n : Int).fmod 2) == 0) = decide (n % 2 = 0) := by
      rw [Int.fmod_eq_emod_of_nonneg _ (by lia)]
      by_cases q : n % 2 = 0
      · rw [decide_eq_true q]; simp; lia
      · rw [decide_eq_false q]; simp; lia
    rw [em]
    by_cases hm : n % 2 = 0
    · rw [decide_eq_true hm, if_pos rfl]
      obtain ⟨d1, d2, D1, D2, hd, zd⟩ := ok.half hm
      have hh : n / 2 ≤ 3 := by lia
      have hh2 : n / 2 + n / 2 = n := by lia
      refine Wx.cons ?_
      refine Ws.assign ?_ (by first | exact .inl rfl | exact .inr rfl)
      refine We.fdiv (We.name g3 (We.cInt ⟨_, _, rfl, rfl, by decide, ?_⟩))
      have eh : (n : Int).fdiv 2 = ((n / 2 : Nat) : Int) := by
        rw [Int.fdiv_eq_ediv_of_nonneg _ (by decide)]; lia
      rw [eh]
      generalize hH : n / 2 = H at *
      refine Wx.cons ?_
      refine Ws.swap (names := ["plus", "less"]) ?_ (kd_of (by rfl)) (by intro env he; cases env; cases he; rfl)
      refine Wl.cons ?_
      refine We.compI (g := fun i => .int (plusR n r i)) (Wi.range1 (We.name (a := .dat (.int H)) (by rfl) ⟨H, rfl, by lia, ?_, ?_⟩) (by rfl)) (by rfl) (by first | exact .inl (by rfl) | exact .inr (by rfl))
      · intro i a hi om'
        obtain ⟨hin, rfl⟩ := item_range hi
        refine We.add (We.rowI (n := n) (r := r) g4 (by lia) (We.name Sto.set_eq ⟨i, rfl, by lia, ?_⟩))
        refine We.rowI (n := n) (r := r) g4 (by lia) (We.add (We.name Sto.set_eq (We.name (a := .dat (.int H)) (by rfl) ⟨_, _, rfl, rfl, i + H, rfl, by lia, ?_⟩)))
        exact ⟨_, _, rfl, rfl, by unfold plusR; rw [hH], rfl⟩
      refine Wl.cons ?_
      refine We.compI (g := fun i => .int (lessR n r i)) (Wi.range1 (We.name (a := .dat (.int H)) (by rfl) ⟨H, rfl, by lia, ?_, ?_⟩) (by rfl)) (by rfl) (by first | exact .inl (by rfl) | exact .inr (by rfl))
      · intro i a hi om'
        obtain ⟨hin, rfl⟩ := item_range hi
        refine We.sub (We.rowI (n := n) (r := r) g4 (by lia) (We.name Sto.set_eq ⟨i, rfl, by lia, ?_⟩))
        refine We.rowI (n := n) (r := r) g4 (by lia) (We.add (We.name Sto.set_eq (We.name (a := .dat (.int H)) (by rfl) ⟨_, _, rfl, rfl, i + H, rfl, by lia, ?_⟩)))
        exact ⟨_, _, rfl, rfl, by unfold lessR; rw [hH], rfl⟩
      have hl : ((List.range H).map fun i : Nat => AV.dat (.int (i : Int))).length = H := by simp
      rw [hl]
      have er : ∀ g : Nat → Int, PyData.list ((List.range H).map fun i => .int (g i)) = rowE H g := fun g => by simp [rowE, encZ]
      rw [er, er]
      refine Wl.nil ⟨rfl, by decide, ?_⟩
      refine Wx.cons ?_
      refine Ws.ite (Wt.cmp (We.mul ?_))
      refine We.call ?_ (by rfl) (has_of 19 (by kernel_rfl))
      refine Wl.cons ?_
      refine We.call ?_ (by rfl) (has_of 47 (by kernel_rfl))
      refine Wl.cons (We.name (a := .dat (rowE H (plusR n r))) (by rfl) (Wl.cons (We.cInt (Wl.nil (round_spec (by lia) (by unfold Sz; decide) ?_)))))
      refine Wl.nil (Wf.lift (k' := 0 + 2) (determinant_spec (by lia) D1 fun v om5 hv => ?_) (by lia))
      subst hv
      refine We.call ?_ (by rfl) (has_of 19 (by kernel_rfl))
      refine Wl.cons ?_
      refine We.call ?_ (by rfl) (has_of 47 (by kernel_rfl))
      refine Wl.cons (We.name (a := .dat (rowE H (lessR n r))) (by rfl) (Wl.cons (We.neg (We.cInt ⟨_, rfl, Wl.nil (round_spec (by lia) (by unfold Sz; decide) ?_)⟩))))
      refine Wl.nil (Wf.lift (k' := 0 + 2) (determinant_spec (by lia) D2 fun v2 om5 hv => ?_) (by lia))
      subst hv
      refine ⟨_, _, rfl, rfl, mulOk_l zd, We.name g9 ⟨_, rfl, ?_⟩⟩
      rw [hd]
      have : (p != p) = false := by simp
      rw [this, if_neg (by decide)]
      exact Wx.nil (Wx.nil ⟨rfl, g3, g4, g5, g6, g7, g8, g9⟩)
    · rw [decide_eq_false hm, if_neg (by decide)]
      exact Wx.nil ⟨rfl, g3, g4, g5, g6, g7, g8, g9⟩
  clear g1 g2 g3 g4 g5 g6 g7 g8 g9
  rintro σ2 om7 ⟨g3, g4, g5, g6, g7, g8, g9⟩
  have hfl : (fl n r).length ≤ 100 := by
    unfold fl
    have := ztr_len ((List.range n).map r)
    simp at this; lia
  have hwl : (wh n).length ≤ 100 := by unfold wh; simp; lia
  have hX := ok.exX
  refine Wx.cons ?_
  refine Ws.assignT ?_ (by rfl)
  refine We.call ?_ (by rfl) (has_of 44 (by kernel_rfl))
  refine Wl.cons ?_
  refine We.call ?_ (by rfl) (has_of 45 (by kernel_rfl))
  refine Wl.cons (We.name g6 (Wl.nil (from_z_spec (by lia) ?_)))
  refine Wl.cons ?_
  refine We.call ?_ (by rfl) (has_of 45 (by kernel_rfl))
  refine Wl.cons (We.name g7 (Wl.nil (from_z_spec (by lia) ?_)))
  refine Wl.nil (qextended_spec (a := toQ (fl n r)) (b := toQ (wh n)) (P := P) (f := f) (by simp [toQ]; lia) (by simp [toQ]; lia) ok.ext ok.P0 ok.P1 ?_)
  rw [hX]
  refine ⟨[encP X.1, encP X.2.1, encP X.2.2], rfl, rfl, ?_⟩
  refine Wa.name ?_ (by first | exact .inl rfl | exact .inr rfl)
  refine Wa.name ?_ (by first | exact .inl rfl | exact .inr rfl)
  refine Wa.name ?_ (by first | exact .inl rfl | exact .inr rfl)
  have hlx := ok.lx
  have hcz : ∀ i j, Sz 3 (circ n r 1 i j) := fun i j => by
    unfold circ
    split
    · exact ok.sr _
    · rw [Int.one_mul]; exact ok.sr _
  refine Wx.cons ?_
  refine Ws.ite (Wt.cmp ?_)
  refine We.call ?_ (by rfl) (has_of 33 (by kernel_rfl))
  refine Wl.cons ?_
  refine We.call ?_ (by rfl) (has_of 29 (by kernel_rfl))
  refine Wl.cons (We.name g8 (Wl.nil (from_spec (by lia) ?_)))
  refine Wl.nil (rank_spec hn6 hn0 (fun i j _ _ => ⟨hcz i j, by unfold Sz; exact (by decide : (1 : Nat) < 2 ^ 3)⟩) ok.rnk (fun pv h => h.2) fun pv om8 hpv => ?_)
  refine We.sub (We.name g3 ?_)
  refine We.call ?_ (by rfl) (has_of 36 (by kernel_rfl))
  refine Wl.cons (We.name (a := .dat (encP X.1)) (by rfl) (Wl.nil (qdegree_spec (by simp; lia) ⟨_, _, rfl, rfl, _, rfl, ?_⟩)))
  have ern : ((pv.length : Int) != (n : Int) - (((X.1.map encQ).length : Int) - 1)) = false := by
    have := hpv.1
    simp; lia
  rw [ern, if_neg (by decide)]
  refine Wx.nil ?_
  refine Wx.cons ?_
  refine Ws.ite (Wt.cmp ?_)
  refine We.call ?_ (by rfl) (has_of 34 (by kernel_rfl))
  refine Wl.cons (We.name g8 ?_)
  refine Wl.cons ?_
  refine We.call ?_ (by rfl) (has_of 47 (by kernel_rfl))
  refine Wl.cons (We.name g5 (Wl.cons (We.cInt (Wl.nil (round_spec (by lia) (by unfold Sz; decide) ?_)))))
  refine Wl.nil (wmul_spec (by lia) hn0 (fun i j _ _ => (hcz i j).mono (by decide)) ?_)
  refine We.call ?_ (by rfl) (has_of 47 (by kernel_rfl))
  refine Wl.cons ?_
  refine We.call ?_ (by rfl) (has_of 48 (by kernel_rfl))
  refine Wl.cons (We.name g4 (Wl.cons (We.name g5 (Wl.nil (product_spec (by lia) hn0 (fun i _ => (ok.sr i).mono (by decide)) ?_)))))
  refine Wl.cons (We.cInt (Wl.nil (round_spec (by lia) (by unfold Sz; decide) ⟨_, (cmp_mat ok.comm).1, ?_⟩)))
  rw [if_neg (by decide)]
  refine Wx.nil ?_
  refine Wx.cons ?_
  refine Ws.ite (Wt.cmp (We.name g9 (We.cInt ⟨_, rfl, ?_⟩)))
  by_cases hp0 : p = 0
  · have : (p == 0) = true := by simpa using hp0
    rw [this, if_pos rfl]
    exact Wx.cons (Ws.ret (We.cBool (h _)))
  have : (p == 0) = false := by simpa using hp0
  rw [this, if_neg (by decide)]
  refine Wx.nil ?_
  have hinv := ok.inv hp0
  have hlf := ok.lf hp0
  refine Wx.cons ?_
  refine Ws.ite (Wt.cmp ?_)
  refine We.compF (g := fun x => x) (p := fun _ => false) (Wi.list (We.name (a := .dat (encP X.2.1)) (by rfl) ⟨_, rfl, by simp; lia, ?_, ?_, ?_⟩)) (by rfl) (by first | exact .inl (by rfl) | exact .inr (by rfl))
  · intro a ha om'
    obtain ⟨x, hx, rfl⟩ := mem_encs ha
    refine Wt.cmp (We.mod ?_)
    refine We.mul (We.name g9 (We.num Sto.set_eq ⟨_, _, rfl, rfl, mulOk_l ok.sn, ?_⟩))
    refine We.den Sto.set_eq ⟨_, _, rfl, rfl, den_ne x, We.cInt ⟨_, rfl, ?_⟩⟩
    have := hinv x hx
    rw [this]
    exact ⟨rfl, rfl⟩
  · intro a ha h; cases h
  have e0 : (((X.2.1.map encQ).map AV.dat).filter fun _ => false).map (fun x : AV => x) = ([] : List PyData).map AV.dat := by simp
  rw [e0]
  refine NewL.dat (We.lst (Wl.nil ⟨by decide, .inl ⟨[], rfl, false, rfl, ?_⟩⟩))
  rw [if_neg (by decide)]
  refine Wx.nil ?_
  refine Wx.cons ?_
  refine Ws.assign ?_ (by first | exact .inl rfl | exact .inr rfl)
  refine We.addL ?_
  refine We.compI (g := fun j => .int (turnR p X.2.1 j)) (Wi.list (We.name (a := .dat (encP X.2.1)) (by rfl) ⟨_, rfl, by simp; lia, ?_, ?_⟩)) (by rfl) (by first | exact .inl (by rfl) | exact .inr (by rfl))
  · intro j a hj om'
    obtain ⟨hjl, rfl⟩ := items_enc hj
    refine We.fdiv ?_
    refine We.mul (We.name g9 (We.num Sto.set_eq ⟨_, _, rfl, rfl, mulOk_l ok.sn, ?_⟩))
    refine We.den Sto.set_eq ⟨_, _, rfl, rfl, den_ne _, ?_, rfl⟩
    unfold turnR; rw [if_pos hjl]
  refine We.mulL ?_
  refine We.lst (Wl.cons (We.cInt (Wl.nil ⟨by decide, NewL.dat (ds := [.int 0]) ?_⟩)))
  refine We.sub (We.name g3 (We.bLenD (We.name (a := .dat (encP X.2.1)) (by rfl) ⟨_, rfl, by simp; lia, _, _, rfl, rfl, ?_⟩) (by rfl)))
  have en1 : (n : Int) - ((X.2.1.map encQ).length : Int) = ((n - X.2.1.length : Nat) : Int) := by simp; lia
  rw [en1]
  refine ⟨[.dat (.int 0)], ((n - X.2.1.length : Nat) : Int), rfl, rfl, by lia, by lia, by simp; lia, .inl ⟨List.replicate (n - X.2.1.length) (.int 0), by simp, ?_⟩⟩
  have et : (List.range ((X.2.1.map encQ).map AV.dat).length).map (fun j => PyData.int (turnR p X.2.1 j)) ++ List.replicate (n - X.2.1.length) (.int 0) = ((List.range n).map (turnR p X.2.1)).map .int := by
    have hl : ((X.2.1.map encQ).map AV.dat).length = X.2.1.length := by simp
    rw [hl]
    apply List.ext_getElem?
    intro j
    by_cases h1 : j < X.2.1.length
    · rw [List.getElem?_append_left (by simpa using h1)]
      simp [h1, show j < n by lia]
    · rw [List.getElem?_append_right (by simp; lia)]
      by_cases h2 : j < n
      · have : j - X.2.1.length < n - X.2.1.length := by lia
        simp [h2, this, turnR, h1]
      · have : ¬ (j - X.2.1.length < n - X.2.1.length) := by lia
        simp [h2, this]
  refine ⟨_, _, rfl, rfl, by simp; lia, .inl ⟨((List.range n).map (turnR p X.2.1)).map .int, by rw [← et]; simp, ?_⟩⟩
  refine Wx.cons ?_
  refine Ws.ret (We.cmp ?_)
  refine We.call ?_ (by rfl) (has_of 34 (by kernel_rfl))
  refine Wl.cons (We.name g8 ?_)
  refine Wl.cons ?_
  refine We.call ?_ (by rfl) (has_of 47 (by kernel_rfl))
  refine Wl.cons (We.name (a := .dat (rowE n (turnR p X.2.1))) (by rfl) (Wl.cons (We.cInt (Wl.nil (round_spec (by lia) (by unfold Sz; decide) ?_)))))
  refine Wl.nil (wmul_spec (by lia) hn0 (fun i j _ _ => (hcz i j).mono (by decide)) ?_)
  refine We.call ?_ (by rfl) (has_of 47 (by kernel_rfl))
  refine Wl.cons ?_
  refine We.addL ?_
  refine We.lst (Wl.cons (We.name g9 (Wl.nil ⟨by simp, NewL.dat (ds := [.int p]) ?_⟩)))
  refine We.mulL ?_
  refine We.lst (Wl.cons (We.cInt (Wl.nil ⟨by decide, NewL.dat (ds := [.int 0]) ?_⟩)))
  refine We.sub (We.name g3 (We.cInt ⟨_, _, rfl, rfl, ?_⟩))
  have en2 : (n : Int) - 1 = ((n - 1 : Nat) : Int) := by lia
  rw [en2]
  refine ⟨[.dat (.int 0)], ((n - 1 : Nat) : Int), rfl, rfl, by lia, by lia, by simp; lia, .inl ⟨List.replicate (n - 1) (.int 0), by simp, ?_⟩⟩
  have e1 : [PyData.int p] ++ List.replicate (n - 1) (.int 0) = ((List.range n).map (oneR p)).map .int := by
    apply List.ext_getElem?
    intro j
    cases j with
    | zero => simp [oneR, hn0]
    | succ j =>
      by_cases h2 : j + 1 < n
      · have : j < n - 1 := by lia
        simp [h2, this, oneR]
      · have : ¬ (j < n - 1) := by lia
        simp [h2, this]
  refine ⟨_, _, rfl, rfl, by simp; lia, .inl ⟨((List.range n).map (oneR p)).map .int, by rw [← e1]; simp, ?_⟩⟩
  refine Wl.cons (We.cInt (Wl.nil (round_spec (r := oneR p) (by lia) (by unfold Sz; decide) ⟨_, (cmp_mat (ok.turn hp0)).2, ?_⟩)))
  exact h _
end
theorem and_ok {a b : Bool} (x : a = true) (y : b = true) : (a && b) = true := by rw [x, y]; rfl
theorem looks0 : looksOpen PySem.Challenge.rw_xm0097_01.prog = true := by
  unfold looksOpen
  iterate 5 refine and_ok ?_ ?_
  all_goals decide +kernel
theorem part0 : (OpenLaw.row PySem.Challenge.rw_xm0097_01).partSaid = true := by
  unfold OpenRow.partSaid
  iterate 13 refine and_ok ?_ ?_
  exact looks0
  all_goals decide +kernel
theorem rsaid0 : (OpenLaw.row PySem.Challenge.rw_xm0097_01).wellSaid = true := by
  unfold OpenRow.wellSaid
  refine and_ok (and_ok part0 ?_) ?_
  all_goals decide +kernel
theorem said0 : OpenLaw.wellSaid PySem.Challenge.rw_xm0097_01 = true := by
  unfold OpenLaw.wellSaid
  iterate 18 refine and_ok ?_ ?_
  exact rsaid0
  all_goals decide +kernel
set_option maxHeartbeats 8000000 in
theorem hd2 (hc : WalkO vw0 [] XR (Hook.says Hook.none) rr0 (fnAt 65) [] fun f vs => PySem.call f vs) : PySem.Challenge.rw_xm0097_01.Holds :=
  holds_law said0 fun said => holds_open (q := vw0) (loose := []) (Xt := xt0) (XP := XR) (Yf := Hook.obs Hook.none) (Ya := Hook.val Hook.none) (YP := Hook.says Hook.none) (N := 3888) left0 (Hook.of Hook.none) (Hook.keeps Hook.none)
    (fun s e => xt0_spec e) (fun mg h h' x k => ⟨x.1.keeps k, x.2.keeps k⟩) (by kernel_rfl) (by kernel_rfl) (by kernel_rfl) (fun s e => recFacts_nil rfl) (by rfl) said (by decide +kernel) ⟨rfl, rfl, rfl, rfl, rfl, by decide +kernel⟩ ⟨[WData.list []], by decide +kernel, by decide +kernel⟩ hc
theorem recs_eq : recsOf vw0 = recsOf P := by kernel_rfl
theorem free_ok : ∀ x ∈ bltNames, x ∉ startupNames ∧ x ∉ (looseW vw0 []) ∧ x ∉ (recsOf vw0).map (·.name) ∧ x ∉ (litsOf vw0).map (·.1) ∧ x ∉ (clssOf vw0 (looseW vw0 [])).map (·.name) := by decide +kernel
theorem imp_ok : importsNone vw0 = true := by kernel_rfl
theorem r0in : tupIntsOf vw0 (Str.ofString "R0") = some [0, 1] := by kernel_rfl
theorem r1in : tupIntsOf vw0 (Str.ofString "R1") = some [1, 1] := by kernel_rfl
theorem wellInts {p : Params} {h : Heap} : ∀ {vs : List Value} {xs : List Int}, WellAll p h vs (ofPys (xs.map PyData.int)) → DenL (fun _ => none) h vs (xs.map PyData.int)
  | [], [], _ => .nil
  | v :: vs, x :: xs, w => by
    simp only [List.map_cons, ofPys, ofPy] at w
    cases w with
    | cons a b =>
      cases a
      exact .cons (.int _ _) (wellInts b)
  | [], x :: xs, w => by simp only [List.map_cons, ofPys] at w; cases w
  | v :: vs, [], w => by simp only [List.map_nil, ofPys] at w; cases w
theorem wellList {p : Params} {h : Heap} {v : Value} {xs : List Int} (w : Well p h v (ofPy (.list (xs.map PyData.int)))) : Den (fun _ => none) h v (encZ xs) := by
  simp only [ofPy] at w
  cases w with
  | list h1 h2 => exact .list rfl h1 (wellInts h2)
theorem denInts {h : Heap} : ∀ {vs : List Value} {ns : List Int}, IntsAre vs ns → DenL (fun _ => none) h vs (ns.map PyData.int)
  | _, _, .nil => .nil
  | _, _, .cons n t r => .cons (.int n t) (denInts r)
theorem tupD {q : Program} {w : World} {mg : Str → Option Value} {h : Heap} (B : Tables q w mg h) {x : Str} (X : BareAt mg h x) {ns : List Int} (e : tupIntsOf q x = some ns) : ∃ v, mg x = some v ∧ Den (fun _ => none) h v (.tuple (ns.map PyData.int)) := by
  obtain ⟨a, vs, h1, ⟨o, h2, h3, n, h4⟩, h5⟩ := B.tupI x ns e
  obtain ⟨b, o', g1, g2, g3⟩ := X
  rw [h1] at g1
  cases g1
  rw [h2] at g2
  cases g2
  obtain ⟨c, dd, dt, sl⟩ := o
  obtain ⟨e1, e2⟩ := Bool.and_eq_true_iff.mp g3
  obtain rfl : dd = none := Option.isNone_iff_eq_none.mp e1
  obtain rfl : sl = #[] := Array.isEmpty_iff.mp e2
  obtain rfl : c = _ := h3
  obtain rfl : dt = _ := h4
  exact ⟨_, h1, .tuple rfl h2 (denInts h5)⟩
set_option maxHeartbeats 8000000 in
theorem opened (hL : ∀ n r q, okN n → (∀ i, -3 ≤ r i ∧ r i ≤ 3) → (∀ i, -3 ≤ q i ∧ q i ≤ 3) → ∃ num P f X, LawOk n r q num P f X) : PySem.Challenge.rw_xm0097_01.Holds := hd2 (by
  intro w s₀ s₁ mg mb G Y fa o pm cd doc dV kV ho hd' hcd hD hmg hg args vals as hpre hlay hrd hwl hlo
  refine Ground.open G ?_
  intro T B D TE TW
  have hR0 : ∃ v, mg (Str.ofString "R0") = some v ∧ Den (fun _ => none) s₁.heap v r0D := tupD B G.X.1 r0in
  have hR1 : ∃ v, mg (Str.ofString "R1") = some v ∧ Den (fun _ => none) s₁.heap v r1D := tupD B G.X.2 r1in
  clear B D TE TW G Y hd' hcd hD
  wrow_args hpre hlay hrd hwl hlo
  rename_i l _ _ _ _ _ _ _ la lv _ _ _ W1 _ _ _ hlen _
  have den := wellList W1
  let C : Cx := {
    w := w, mg := mg, mb := mb, h0 := s₁.heap, g := T.g, b := T.b, nolimit := T.nolimit, seer := T.seer imp_ok
    fn := fun d hd => T.fn d (by rw [recs_eq]; exact hd)
    noglob := fun x hx => by
      obtain ⟨a1, a2, a3, a4, a5⟩ := free_ok x hx
      exact T.free x a1 a2 a3 a4 a5
    blt := T.builtins
    r0 := hR0
    r1 := hR1 }
  have sp := law_spec (C := C) (k := 0) (om := fun _ => none) (script := l) (Φ := fun a _ => a = .dat (.bool true)) (by simp at hlen; omega) hL (fun _ => rfl)
  obtain ⟨a', o', fd', f1, f2, f3, sp⟩ := sp
  have hfa : mg (Str.ofString "law") = some (.ref fa) := hmg
  have f1' : mg (Str.ofString "law") = some (.ref a') := f1
  rw [hfa] at f1'
  cases f1'
  refine sp callerA [.ref la] s₁ _ _ ⟨rfl, by decide, by decide, ⟨_, rfl⟩⟩ Ext.refl ⟨fun b l e => (by cases e), fun b e => absurd rfl e⟩ (.cons den .nil) fun v a om' h' tk hv st O r => ?_
  subst hv
  have r' : Den om' h' v (.bool true) := r
  cases r'
  refine ⟨.inl ⟨.bool true, .bool true, [], rfl, fun cls => rfl, .bool true, ?_, fun _ => ⟨List.nodup_nil, fun a ha => (by cases ha)⟩⟩, .of_keep fun b o e => st.keep b o id rfl e, rfl, .of_eq hg⟩
  wrow_post)
end Mine
namespace Mine
noncomputable def sm : Nat → (Nat → Rat) → Rat
  | 0, _ => 0
  | n + 1, f => sm n f + f n
noncomputable def pr : Nat → (Nat → Rat) → Rat
  | 0, _ => 1
  | n + 1, f => pr n f * f n
theorem sm_congr : ∀ {n : Nat} {f g : Nat → Rat}, (∀ i, i < n → f i = g i) → sm n f = sm n g
  | 0, _, _, _ => rfl
  | n + 1, f, g, h => by rw [sm, sm, sm_congr (n := n) fun i hi => h i (by (exact Nat.lt_succ_of_lt (by assumption))), h n (by (exact Nat.le_refl _))]
theorem pr_congr : ∀ {n : Nat} {f g : Nat → Rat}, (∀ i, i < n → f i = g i) → pr n f = pr n g
  | 0, _, _, _ => rfl
  | n + 1, f, g, h => by rw [pr, pr, pr_congr (n := n) fun i hi => h i (by (exact Nat.lt_succ_of_lt (by assumption))), h n (by (exact Nat.le_refl _))]
theorem sm_zero : ∀ {n : Nat} {f : Nat → Rat}, (∀ i, i < n → f i = 0) → sm n f = 0
  | 0, _, _ => rfl
  | n + 1, f, h => by rw [sm, sm_zero (n := n) fun i hi => h i (by (exact Nat.lt_succ_of_lt (by assumption))), h n (by (exact Nat.le_refl _))]; (exact Rat.add_zero _)
theorem sm_lin {x y : Rat} {f g : Nat → Rat} : ∀ n, sm n (fun i => x * f i + y * g i) = x * sm n f + y * sm n g
  | 0 => by simp only [sm]; grind
  | n + 1 => by simp only [sm]; rw [sm_lin n]; grind
theorem sm_mul {x : Rat} {f : Nat → Rat} : ∀ n, sm n (fun i => x * f i) = x * sm n f
  | 0 => by simp only [sm]; (exact (Rat.mul_zero _).symm)
  | n + 1 => by simp only [sm]; rw [sm_mul n]; (exact (Rat.mul_add _ _ _).symm)
theorem sm_add {f g : Nat → Rat} : ∀ n, sm n (fun i => f i + g i) = sm n f + sm n g
  | 0 => by simp only [sm]; (exact (Rat.add_zero _).symm)
  | n + 1 => by simp only [sm]; rw [sm_add n]; grind
theorem sm_single : ∀ {n t : Nat} {f : Nat → Rat}, t < n → (∀ i, i < n → i ≠ t → f i = 0) → sm n f = f t
  | 0, t, f, ht, _ => by (exact absurd (by assumption) (Nat.not_lt_zero _))
  | n + 1, t, f, ht, h => by
    rw [sm]
    by_cases q : t = n
    · subst q
      rw [sm_zero fun i hi => h i (by (exact Nat.lt_succ_of_lt (by assumption))) (by (exact Nat.ne_of_lt (by assumption)))]; (exact Rat.zero_add _)
    · rw [sm_single (n := n) (t := t) (by lia) fun i hi hn => h i (by (exact Nat.lt_succ_of_lt (by assumption))) hn, h n (by (exact Nat.le_refl _)) (by (exact Ne.symm (by assumption)))]; (exact Rat.add_zero _)
theorem sm_pair {n t : Nat} {f : Nat → Rat} (ht : t + 1 < n) (h : ∀ i, i < n → i ≠ t → i ≠ t + 1 → f i = 0) (h2 : f t + f (t + 1) = 0) : sm n f = 0 := by
  have e : sm n f = sm n (fun i => (if i = t then f t else 0) + (if i = t then 0 else f i)) := sm_congr fun i hi => by
    split
    · rename_i q; subst q; (exact (Rat.add_zero _).symm)
    · (exact (Rat.zero_add _).symm)
  rw [e, sm_add, sm_single (t := t) (by (exact Nat.lt_of_succ_lt (by assumption))) (fun i _ hn => by rw [if_neg hn]), sm_single (t := t + 1) (by omega) (fun i hi hn => by
    split
    · rfl
    · exact h i hi (by assumption) hn)]
  rw [if_pos rfl, if_neg (by lia)]; exact h2
theorem sm_shift {f : Nat → Rat} : ∀ n, sm (n + 1) f = f 0 + sm n (fun i => f (i + 1))
  | 0 => by simp only [sm]; (exact Rat.add_comm _ _)
  | n + 1 => by rw [sm, sm_shift n, sm]; (exact Rat.add_assoc _ _ _)
theorem pr_shift {f : Nat → Rat} : ∀ n, pr (n + 1) f = f 0 * pr n (fun i => f (i + 1))
  | 0 => by simp only [pr]; (exact Rat.mul_comm _ _)
  | n + 1 => by rw [pr, pr_shift n, pr]; (exact Rat.mul_assoc _ _ _)
theorem pr_ne : ∀ {n : Nat} {f : Nat → Rat}, (∀ i, i < n → f i ≠ 0) → pr n f ≠ 0
  | 0, _, _ => by simp only [pr]; decide
  | n + 1, f, h => by
    rw [pr]
    have h1 := pr_ne (n := n) fun i hi => h i (by (exact Nat.lt_succ_of_lt (by assumption)))
    have h2 := h n (by (exact Nat.le_refl _))
    intro q
    rcases Rat.mul_eq_zero.mp q with q | q
    · exact h1 q
    · exact h2 q
noncomputable def sgn : Nat → Rat
  | 0 => 1
  | n + 1 => - sgn n
noncomputable def del (t : Nat) (M : Nat → Nat → Rat) : Nat → Nat → Rat := fun i j => M (if i < t then i else i + 1) (j + 1)
noncomputable def dt : Nat → (Nat → Nat → Rat) → Rat
  | 0, _ => 1
  | n + 1, M => sm (n + 1) fun i => sgn i * M i 0 * dt n (del i M)
noncomputable def upd (M : Nat → Nat → Rat) (t : Nat) (u : Nat → Rat) : Nat → Nat → Rat := fun i => if i = t then u else M i
theorem upd_at {M t u} : upd M t u t = u := by simp [upd]
theorem upd_ne {M t u i} (h : i ≠ t) : upd M t u i = M i := by simp [upd, h]
theorem dt_congr : ∀ {n : Nat} {M N : Nat → Nat → Rat}, (∀ i j, i < n → j < n → M i j = N i j) → dt n M = dt n N
  | 0, _, _, _ => rfl
  | n + 1, M, N, h => by
    rw [dt, dt]
    refine sm_congr fun i hi => ?_
    rw [h i 0 hi (by (exact Nat.succ_pos _)), dt_congr (n := n) (M := del i M) (N := del i N) fun a b ha hb => ?_]
    unfold del
    split
    · exact h _ _ (by (exact Nat.lt_succ_of_lt (by assumption))) (by (exact Nat.succ_lt_succ (by assumption)))
    · exact h _ _ (by (exact Nat.succ_lt_succ (by assumption))) (by (exact Nat.succ_lt_succ (by assumption)))
theorem del_upd_same {M t u} : del t (upd M t u) = del t M := by
  funext i j
  unfold del
  split
  · rw [upd_ne (by (exact Nat.ne_of_lt (by assumption)))]
  · rw [upd_ne (by lia)]
theorem del_upd {M t u i} (h : i ≠ t) : del i (upd M t u) = upd (del i M) (if t < i then t else t - 1) (fun j => u (j + 1)) := by
  funext a j
  unfold del upd
  by_cases q : t < i
  · by_cases q2 : a < i
    · simp only [q, q2, if_true]
      by_cases q3 : a = t <;> simp [q3]
    · simp only [q, q2, if_true, if_false]
      rw [if_neg (by lia), if_neg (by (clear h; lia))]
  · by_cases q2 : a < i
    · simp only [q, q2, if_true, if_false]
      rw [if_neg (by (clear h; lia)), if_neg (by lia)]
    · simp only [q, q2, if_false]
      by_cases q3 : a = t - 1
      · rw [if_pos (by (clear q2; lia)), if_pos q3]
      · rw [if_neg (by lia), if_neg q3]
theorem dt_lin {x y : Rat} : ∀ {n t : Nat} {M : Nat → Nat → Rat} {u v : Nat → Rat}, t < n → dt n (upd M t (fun j => x * u j + y * v j)) = x * dt n (upd M t u) + y * dt n (upd M t v)
  | 0, _, _, _, _, h => by (exact absurd (by assumption) (Nat.not_lt_zero _))
  | n + 1, t, M, u, v, ht => by
    rw [dt, dt, dt, ← sm_lin]
    refine sm_congr fun i hi => ?_
    by_cases q : i = t
    · subst q
      simp only [del_upd_same, upd_at]
      grind
    · rw [del_upd q, del_upd q, del_upd q, upd_ne q, upd_ne q, upd_ne q]
      have := dt_lin (x := x) (y := y) (n := n) (t := if t < i then t else t - 1) (M := del i M) (u := fun j => u (j + 1)) (v := fun j => v (j + 1)) (by split <;> lia)
      rw [this]; grind
theorem dt_adj : ∀ {n t : Nat} {M : Nat → Nat → Rat}, t + 1 < n → (∀ j, M t j = M (t + 1) j) → dt n M = 0
  | 0, _, _, h, _ => by (exact absurd (by assumption) (Nat.not_lt_zero _))
  | n + 1, t, M, ht, h => by
    rw [dt]
    refine sm_pair (t := t) ht (fun i hi h1 h2 => ?_) ?_
    · rw [dt_adj (n := n) (t := if t < i then t else t - 1) (M := del i M) (by split <;> lia)]
      · (exact Rat.mul_zero _)
      · intro j
        unfold del
        by_cases q : t < i
        · have : t + 1 < i := by lia
          simp only [q, if_true, this]; exact h _
        · have e1 : ¬ t - 1 < i := by lia
          have e2 : ¬ t - 1 + 1 < i := by lia
          simp only [q, if_false, e1, e2]
          rw [show t - 1 + 1 = t by lia]; exact h _
    · have e : del t M = del (t + 1) M := by
        funext a j
        unfold del
        by_cases q : a < t
        · rw [if_pos q, if_pos (by (exact Nat.lt_succ_of_lt (by assumption)))]
        · rw [if_neg q]
          by_cases q2 : a = t
          · subst q2; rw [if_pos (by (exact Nat.le_refl _))]; exact (h _).symm
          · rw [if_neg (by lia)]
      rw [e, h 0]
      simp only [sgn]; grind
theorem upd_self {M : Nat → Nat → Rat} {t : Nat} : upd M t (M t) = M := by
  funext i; unfold upd; split
  · rename_i h; rw [h]
  · rfl
theorem upd_comm {M : Nat → Nat → Rat} {s t u v} (h : s ≠ t) : upd (upd M s u) t v = upd (upd M t v) s u := by
  funext i; unfold upd
  by_cases q1 : i = s
  · by_cases q2 : i = t
    · lia
    · simp [q1, h]
  · by_cases q2 : i = t
    · subst q2; simp [q1]
    · simp [q1, q2]
theorem upd_upd {M : Nat → Nat → Rat} {t u v} : upd (upd M t u) t v = upd M t v := by
  funext i; unfold upd; split <;> rfl
theorem dt_add {n t : Nat} {M : Nat → Nat → Rat} {u v : Nat → Rat} (ht : t < n) : dt n (upd M t (fun j => u j + v j)) = dt n (upd M t u) + dt n (upd M t v) := by
  have h := dt_lin (x := 1) (y := 1) (n := n) (t := t) (M := M) (u := u) (v := v) ht
  have e : (fun j => 1 * u j + 1 * v j) = fun j => u j + v j := by funext j; (simp)
  rw [e] at h; rw [h]; (simp)
theorem dt_scale {n t : Nat} {M : Nat → Nat → Rat} {u : Nat → Rat} {x : Rat} (ht : t < n) : dt n (upd M t (fun j => x * u j)) = x * dt n (upd M t u) := by
  have h := dt_lin (x := x) (y := 0) (n := n) (t := t) (M := M) (u := u) (v := u) ht
  have e : (fun j => x * u j + 0 * u j) = fun j => x * u j := by funext j; (rw [Rat.zero_mul, Rat.add_zero])
  rw [e] at h; rw [h]; (rw [Rat.zero_mul, Rat.add_zero])
theorem dt_swp_of {n s t : Nat} (hs : s < n) (ht : t < n) (hne : s ≠ t) (hz : ∀ M : Nat → Nat → Rat, (∀ j, M s j = M t j) → dt n M = 0) (M : Nat → Nat → Rat) : dt n (upd (upd M s (M t)) t (M s)) = - dt n M := by
  have z := fun u : Nat → Rat => hz (upd (upd M s u) t u) (fun j => by rw [upd_at, upd_ne hne, upd_at])
  have h := z (fun j => M s j + M t j)
  rw [dt_add ht, upd_comm hne, dt_add hs, upd_comm hne, dt_add hs, upd_comm (M := M) hne.symm, upd_comm (M := M) hne.symm, upd_comm (M := M) hne.symm, upd_comm (M := M) hne.symm] at h
  have h1 := z (M s)
  have h2 := z (M t)
  have h3 : upd (upd M s (M s)) t (M t) = M := by rw [upd_self, upd_self]
  rw [h1, h2, h3] at h
  grind
theorem dt_eq {n : Nat} : ∀ (d i j : Nat) (M : Nat → Nat → Rat), j = i + 1 + d → j < n → (∀ c, M i c = M j c) → dt n M = 0
  | 0, i, j, M, hd, hj, h => dt_adj (t := i) (by lia) (by have e : j = i + 1 := hd; subst e; exact h)
  | d + 1, i, j, M, hd, hj, h => by
    have e := dt_swp_of (n := n) (s := j - 1) (t := j) (by (exact Nat.lt_of_le_of_lt (Nat.sub_le _ _) (by assumption))) hj (by lia) (fun N hN => dt_adj (t := j - 1) (by lia) (fun c => by rw [show j - 1 + 1 = j by lia]; exact hN c)) M
    have z : dt n (upd (upd M (j - 1) (M j)) j (M (j - 1))) = 0 := by
      refine dt_eq d i (j - 1) _ ?_ ?_ ?_
      · lia
      · (exact Nat.lt_of_le_of_lt (Nat.sub_le _ _) (by assumption))
      · intro c
        rw [upd_ne (by lia : i ≠ j), upd_ne (by (clear hj; omega) : i ≠ j - 1), upd_ne (by lia : j - 1 ≠ j), upd_at]; exact h c
    rw [z] at e; grind
theorem dt_same {n i j : Nat} {M : Nat → Nat → Rat} (hi : i < n) (hj : j < n) (hne : i ≠ j) (h : ∀ c, M i c = M j c) : dt n M = 0 := by
  by_cases q : i < j
  · exact dt_eq (j - i - 1) i j M (by (clear hi hj hne; omega)) hj h
  · exact dt_eq (i - j - 1) j i M (by lia) hi (fun c => (h c).symm)
theorem dt_swp {n s t : Nat} (hs : s < n) (ht : t < n) (hne : s ≠ t) (M : Nat → Nat → Rat) : dt n (upd (upd M s (M t)) t (M s)) = - dt n M :=
  dt_swp_of hs ht hne (fun N hN => dt_same hs ht hne hN) M
theorem dt_zrow {n t : Nat} {M : Nat → Nat → Rat} (ht : t < n) (h : ∀ j, j < n → M t j = 0) : dt n M = 0 := by
  have e : dt n M = dt n (upd M t (fun j => 0 * M t j)) := dt_congr fun i j hi hj => by
    by_cases q : i = t
    · subst q; rw [upd_at, h j hj]; (exact (Rat.mul_zero _).symm)
    · rw [upd_ne q]
  rw [e, dt_scale ht]; (exact Rat.zero_mul _)
theorem dt_span {n t : Nat} {M : Nat → Nat → Rat} {u : Nat → Rat} {d : Rat} {c : Nat → Rat} (ht : t < n) : ∀ k, k ≤ t → dt n (upd M t (fun j => d * u j + sm k (fun l => c l * M l j))) = d * dt n (upd M t u)
  | 0, _ => by
    have e : (fun j => d * u j + sm 0 (fun l => c l * M l j)) = fun j => d * u j := by funext j; simp only [sm]; (exact Rat.add_zero _)
    rw [e, dt_scale ht]
  | k + 1, hk => by
    have e : (fun j => d * u j + sm (k + 1) (fun l => c l * M l j)) = fun j => 1 * (d * u j + sm k (fun l => c l * M l j)) + c k * M k j := by funext j; simp only [sm]; grind
    rw [e, dt_lin ht, dt_span ht k (by (exact Nat.le_of_lt (by assumption))), dt_same (M := upd M t (M k)) ht (by (exact Nat.lt_trans (by assumption) (by assumption)) : k < n) (by (exact Nat.ne_of_gt (by assumption))) (fun c => by rw [upd_at, upd_ne (by (exact Nat.ne_of_lt (by assumption)))])]
    grind
theorem dt_tri {n : Nat} {M A : Nat → Nat → Rat} {d : Nat → Rat} (h : ∀ i, i < n → ∃ c : Nat → Rat, ∀ j, j < n → M i j = d i * A i j + sm i (fun l => c l * A l j)) : dt n M = pr n d * dt n A := by
  have main : ∀ t, t ≤ n → dt n (fun i => if i < 0 then A i else M i) = pr t d * dt n (fun i => if i < t then A i else M i) := by
    intro t
    induction t with
    | zero => intro _; simp only [pr]; (exact (Rat.one_mul _).symm)
    | succ t ih =>
      intro ht
      rw [ih (by (exact Nat.le_of_lt (by assumption)))]
      obtain ⟨c, hc⟩ := h t (by (assumption))
      have e1 : dt n (fun i => if i < t then A i else M i) = dt n (upd (fun i => if i < t then A i else M i) t (fun j => d t * A t j + sm t (fun l => c l * (fun i => if i < t then A i else M i) l j))) := dt_congr fun i j hi hj => by
        by_cases q : i = t
        · subst q
          rw [upd_at, if_neg (by (exact Nat.lt_irrefl _)), hc j hj]
          congr 1
          exact sm_congr fun l hl => by simp only [hl, if_true]
        · rw [upd_ne q]
      have e2 : upd (fun i => if i < t then A i else M i) t (A t) = fun i => if i < t + 1 then A i else M i := by
        funext i; unfold upd
        by_cases q : i = t
        · subst q; rw [if_pos rfl, if_pos (by (exact Nat.le_refl _))]
        · rw [if_neg q]
          by_cases q2 : i < t
          · simp only [q2, if_true]; rw [if_pos (by (exact Nat.lt_succ_of_lt (by assumption)))]
          · simp only [q2, if_false]; rw [if_neg (by lia)]
      rw [e1, dt_span (by (assumption)) t (Nat.le_refl _), e2, pr]; (exact (Rat.mul_assoc _ _ _).symm)
  have h0 := main n (Nat.le_refl _)
  have e3 : dt n (fun i => if i < 0 then A i else M i) = dt n M := by congr 1
  have e4 : dt n (fun i => if i < n then A i else M i) = dt n A := dt_congr fun i j hi hj => by rw [if_pos hi]
  rw [e3, e4] at h0; exact h0
theorem dt_single {n t : Nat} {M : Nat → Nat → Rat} (ht : t < n + 1) (h : ∀ j, 0 < j → j < n + 1 → M t j = 0) : dt (n + 1) M = sgn t * M t 0 * dt n (del t M) := by
  rw [dt]
  refine sm_single ht fun i hi hne => ?_
  rw [dt_zrow (t := if t < i then t else t - 1) (M := del i M) (by split <;> lia)]
  · (exact Rat.mul_zero _)
  · intro j hj
    unfold del
    by_cases q : t < i
    · simp only [q, if_true]; exact h _ (by (exact Nat.succ_pos _)) (by (exact Nat.succ_lt_succ (by assumption)))
    · have : ¬ t - 1 < i := by lia
      simp only [q, if_false, this]
      rw [show t - 1 + 1 = t by lia]; exact h _ (by (exact Nat.succ_pos _)) (by (exact Nat.succ_lt_succ (by assumption)))
theorem dt_col {n : Nat} {M : Nat → Nat → Rat} (h : ∀ i, 0 < i → i < n + 1 → M i 0 = 0) : dt (n + 1) M = M 0 0 * dt n (fun i j => M (i + 1) (j + 1)) := by
  rw [dt, sm_single (t := 0) (by (exact Nat.succ_pos _)) (fun i hi hne => by rw [h i (by (exact Nat.pos_of_ne_zero (by assumption))) hi]; (simp))]
  have e : del 0 M = fun i j => M (i + 1) (j + 1) := by funext i j; simp [del]
  rw [e]; simp only [sgn]; (simp)
theorem dt_upper : ∀ {n : Nat} {M : Nat → Nat → Rat}, (∀ i j, i < n → j < i → M i j = 0) → dt n M = pr n (fun k => M k k)
  | 0, _, _ => rfl
  | n + 1, M, h => by
    rw [dt_col fun i h0 hi => h i 0 hi h0, dt_upper (n := n) fun i j hi hj => h (i + 1) (j + 1) (by (exact Nat.succ_lt_succ (by assumption))) (by (exact Nat.succ_lt_succ (by assumption))), pr_shift]
theorem dt_colz : ∀ {s n : Nat} {M : Nat → Nat → Rat}, s < n → (∀ i j, i < n → j < i → j < s → M i j = 0) → (∀ i, s ≤ i → i < n → M i s = 0) → dt n M = 0
  | 0, n, M, hs, _, h => by
    obtain ⟨m, rfl⟩ : ∃ m, n = m + 1 := ⟨n - 1, by (exact (Nat.sub_add_cancel (by assumption)).symm)⟩
    rw [dt]
    exact sm_zero fun i hi => by rw [h i (by (exact Nat.zero_le _)) hi]; (simp)
  | s + 1, n, M, hs, h, h2 => by
    obtain ⟨m, rfl⟩ : ∃ m, n = m + 1 := ⟨n - 1, by lia⟩
    rw [dt_col fun i h0 hi => h i 0 hi h0 (by (exact Nat.succ_pos _)), dt_colz (s := s) (n := m) (M := fun i j => M (i + 1) (j + 1)) (by (exact Nat.le_of_lt_succ (by assumption))) (fun i j hi hj hjs => h _ _ (by (exact Nat.succ_lt_succ (by assumption))) (by (exact Nat.succ_lt_succ (by assumption))) (by (exact Nat.succ_lt_succ (by assumption)))) (fun i hi h3 => h2 _ (by (exact Nat.lt_succ_of_le (by assumption))) (by (exact Nat.succ_lt_succ (by assumption))))]
    (exact Rat.mul_zero _)
noncomputable def Wz (B : Nat) (x : Rat) : Prop := ∃ z : Int, x = (z : Rat) ∧ z.natAbs ≤ B
theorem Wz.mono {A B x} (h : Wz A x) (hb : A ≤ B) : Wz B x := by
  obtain ⟨z, h1, h2⟩ := h; exact ⟨z, h1, by (exact Nat.le_trans (by assumption) (by assumption))⟩
theorem Wz.add {A B x y} (h : Wz A x) (h' : Wz B y) : Wz (A + B) (x + y) := by
  obtain ⟨z, rfl, h2⟩ := h
  obtain ⟨w, rfl, h4⟩ := h'
  refine ⟨z + w, by rw [Rat.intCast_add], ?_⟩
  have := Int.natAbs_add_le z w
  lia
theorem Wz.mul {A B x y} (h : Wz A x) (h' : Wz B y) : Wz (A * B) (x * y) := by
  obtain ⟨z, rfl, h2⟩ := h
  obtain ⟨w, rfl, h4⟩ := h'
  refine ⟨z * w, by rw [Rat.intCast_mul], ?_⟩
  rw [Int.natAbs_mul]
  exact Nat.mul_le_mul h2 h4
theorem Wz.neg {A x} (h : Wz A x) : Wz A (-x) := by
  obtain ⟨z, rfl, h2⟩ := h
  exact ⟨-z, by rw [Rat.intCast_neg], by rwa [Int.natAbs_neg]⟩
theorem Wz.zero {A} : Wz A 0 := ⟨0, rfl, by simp⟩
theorem Wz.one : Wz 1 1 := ⟨1, rfl, by simp⟩
theorem Wz.sgn : ∀ n, Wz 1 (sgn n)
  | 0 => Wz.one
  | n + 1 => (Wz.sgn n).neg
theorem Wz.sm {B f} : ∀ {n : Nat}, (∀ i, i < n → Wz B (f i)) → Wz (n * B) (sm n f)
  | 0, _ => by rw [Nat.zero_mul]; exact Wz.zero
  | n + 1, h => by rw [Nat.succ_mul]; exact (Wz.sm (n := n) fun i hi => h i (by (exact Nat.lt_succ_of_lt (by assumption)))).add (h n (by (exact Nat.le_refl _)))
noncomputable def fac : Nat → Nat
  | 0 => 1
  | n + 1 => (n + 1) * fac n
theorem Wz.dt {B} : ∀ {n : Nat} {M : Nat → Nat → Rat}, (∀ i j, i < n → j < n → Wz B (M i j)) → Wz (fac n * B ^ n) (dt n M)
  | 0, _, _ => Wz.one
  | n + 1, M, h => by
    rw [Mine.dt]
    have e : fac (n + 1) * B ^ (n + 1) = (n + 1) * (1 * B * (fac n * B ^ n)) := by rw [fac, Nat.pow_succ]; grind
    rw [e]
    refine Wz.sm fun i hi => ((Wz.sgn i).mul (h i 0 hi (by (exact Nat.succ_pos _)))).mul (Wz.dt fun a b ha hb => ?_)
    unfold del
    split
    · exact h _ _ (by (exact Nat.lt_succ_of_lt (by assumption))) (by (exact Nat.succ_lt_succ (by assumption)))
    · exact h _ _ (by (exact Nat.succ_lt_succ (by assumption))) (by (exact Nat.succ_lt_succ (by assumption)))
end Mine
namespace Mine
theorem sm_ext {f : Nat → Rat} {k : Nat} : ∀ {n}, k ≤ n → sm k f = sm n (fun l => if l < k then f l else 0)
  | 0, h => by
    have : k = 0 := by (exact Nat.eq_zero_of_le_zero (by assumption))
    subst this; rfl
  | n + 1, h => by
    by_cases q : k = n + 1
    · subst q; exact sm_congr fun i hi => by rw [if_pos hi]
    · rw [sm, ← sm_ext (n := n) (by lia), if_neg (by lia)]; (exact (Rat.add_zero _).symm)
theorem natFac : ∀ t, t ≤ 6 → fac t * 100 ^ t < 2 ^ 64 := by decide
theorem Wz.sz {B : Nat} {x : Int} (h : Wz B (x : Rat)) (hB : B < 2 ^ 64) : Sz 64 x := by
  obtain ⟨z, h1, h2⟩ := h
  have : x = z := Rat.intCast_inj.mp h1
  subst this
  unfold Sz; (exact Nat.lt_of_le_of_lt (by assumption) (by assumption))
noncomputable def dg (N : Nat → Nat → Rat) : Nat → Rat
  | 0 => 1
  | k + 1 => N k k
structure BI (n s : Nat) (N A : Nat → Nat → Rat) : Prop where
  nz : ∀ k, k < s → N k k ≠ 0
  row : ∀ i, i < n → ∃ c : Nat → Rat, ∀ j, j < n → N i j = dg N (min i s) * A i j + sm (min i s) (fun l => c l * A l j)
  zero : ∀ i j, i < n → j < min i s → N i j = 0
noncomputable def bord (s i j : Nat) (A : Nat → Nat → Rat) : Nat → Nat → Rat := fun a b => A (if a < s then a else i) (if b < s then b else j)
theorem BI.dgne {n s N A} (h : BI n s N A) : ∀ k, k ≤ s → dg N k ≠ 0
  | 0, _ => by simp only [dg]; decide
  | k + 1, hk => h.nz k (by (assumption))
theorem pr_dg {N} (s : Nat) : pr (s + 1) (dg N) = pr s (fun k => N k k) := by
  rw [pr_shift]; simp only [dg]; (exact Rat.one_mul _)
theorem BI.minor {n s N A} (h : BI n s N A) {i j : Nat} (hi : i < n) (hj : j < n) (hij : min i s ≤ j) : N i j = dt (min i s + 1) (bord (min i s) i j A) := by
  generalize ht : min i s = t at *
  have e1 : dt (t + 1) (bord t i j N) = pr (t + 1) (dg N) * dt (t + 1) (bord t i j A) := dt_tri fun a ha => by
    by_cases q : a < t
    · obtain ⟨c, hc⟩ := h.row a (by lia)
      rw [show min a s = a by (clear hi hj hij ha; lia)] at hc
      refine ⟨c, fun b hb => ?_⟩
      unfold bord
      simp only [if_pos q]
      rw [hc _ (by split <;> lia)]
      congr 1
      exact sm_congr fun l hl => by rw [if_pos (show l < t by (exact Nat.lt_trans (by assumption) (by assumption)))]
    · obtain ⟨c, hc⟩ := h.row i hi
      rw [ht] at hc
      have : a = t := by (exact (Nat.lt_or_eq_of_le (Nat.le_of_lt_succ (by assumption))).resolve_left (by assumption))
      subst this
      refine ⟨c, fun b hb => ?_⟩
      unfold bord
      simp only [if_neg q]
      rw [hc _ (by split <;> lia)]
      congr 1
      exact sm_congr fun l hl => by rw [if_pos hl]
  have e2 : dt (t + 1) (bord t i j N) = pr t (fun k => N k k) * N i j := by
    rw [dt_upper, pr]
    · congr 1
      · exact pr_congr fun k hk => by simp [bord, hk]
      · simp [bord]
    · intro a b ha hb
      unfold bord
      by_cases q : a < t
      · rw [if_pos q, if_pos (by (exact Nat.lt_trans (by assumption) (by assumption)))]; exact h.zero a b (by lia) (by lia)
      · rw [if_neg q, if_pos (by lia)]; exact h.zero i b hi (by lia)
  rw [e2, pr_dg] at e1
  have hne : pr t (fun k => N k k) ≠ 0 := pr_ne fun k hk => h.nz k (by lia)
  generalize pr t (fun k => N k k) = p at *
  have : p * (N i j - dt (t + 1) (bord t i j A)) = 0 := by grind
  rcases Rat.mul_eq_zero.mp this with q | q
  · exact absurd q hne
  · grind
theorem BI.wz {n s N A} (h : BI n s N A) (hn : n ≤ 6) (hA : ∀ i j, i < n → j < n → Wz 100 (A i j)) {i j : Nat} (hi : i < n) (hj : j < n) : ∃ B, B < 2 ^ 64 ∧ Wz B (N i j) := by
  by_cases q : min i s ≤ j
  · rw [h.minor hi hj q]
    refine ⟨_, natFac (min i s + 1) (by lia), Wz.dt fun a b ha hb => ?_⟩
    unfold bord
    exact hA _ _ (by split <;> lia) (by split <;> lia)
  · rw [h.zero i j hi (by (exact Nat.lt_of_not_le (by assumption)))]
    exact ⟨0, by decide, Wz.zero⟩
theorem BI.det0 {n s N A} (h : BI n s N A) (hs : s < n) (hz : ∀ i, s ≤ i → i < n → N i s = 0) : dt n A = 0 := by
  have e1 : dt n N = pr n (fun i => dg N (min i s)) * dt n A := dt_tri fun i hi => by
    obtain ⟨c, hc⟩ := h.row i hi
    refine ⟨fun l => if l < min i s then c l else 0, fun j hj => ?_⟩
    rw [hc j hj, sm_ext (k := min i s) (n := i) (by lia)]
    congr 1
    exact sm_congr fun l hl => by split <;> grind
  have e2 : dt n N = 0 := dt_colz hs (fun i j hi hj hjs => h.zero i j hi (by lia)) hz
  rw [e2] at e1
  rcases Rat.mul_eq_zero.mp e1.symm with q | q
  · exact absurd q (pr_ne fun i hi => h.dgne _ (by lia))
  · exact q
theorem BI.fin {n N A} (h : BI n n N A) : dg N n = dt n A := by
  have e1 : dt n N = pr n (dg N) * dt n A := dt_tri fun i hi => by
    obtain ⟨c, hc⟩ := h.row i hi
    rw [show min i n = i by lia] at hc
    exact ⟨c, hc⟩
  have e2 : dt n N = pr n (fun k => N k k) := dt_upper fun i j hi hj => h.zero i j hi (by lia)
  rw [e2, ← pr_dg, pr] at e1
  have hne : pr n (dg N) ≠ 0 := pr_ne fun k hk => h.dgne k (by (exact Nat.le_of_lt (by assumption)))
  generalize pr n (dg N) = p at *
  have : p * (dg N n - dt n A) = 0 := by grind
  rcases Rat.mul_eq_zero.mp this with q | q
  · exact absurd q hne
  · grind
noncomputable def swN (i s : Nat) (N : Nat → Nat → Rat) : Nat → Nat → Rat := fun a => if a = i then N s else if a = s then N i else N a
theorem dg_congr {N N' : Nat → Nat → Rat} : ∀ {s}, (∀ k, k < s → N k k = N' k k) → dg N s = dg N' s
  | 0, _ => rfl
  | s + 1, h => h s (by (exact Nat.le_refl _))
theorem BI.swap {n s N A} (h : BI n s N A) {i : Nat} (hi : i < n) (his : s ≤ i) (hs : s < n) : BI n s (swN i s N) (swN i s A) := by
  have low : ∀ k, k < s → swN i s N k = N k := fun k hk => by unfold swN; rw [if_neg (by lia), if_neg (by (exact Nat.ne_of_lt (by assumption)))]
  have lowA : ∀ k, k < s → swN i s A k = A k := fun k hk => by unfold swN; rw [if_neg (by lia), if_neg (by (exact Nat.ne_of_lt (by assumption)))]
  have hdg : ∀ t, t ≤ s → dg (swN i s N) t = dg N t := fun t ht => dg_congr fun k hk => by rw [low k (by (exact Nat.lt_of_lt_of_le (by assumption) (by assumption)))]
  have perm : ∀ a, a < n → ∃ a', a' < n ∧ min a' s = min a s ∧ swN i s N a = N a' ∧ swN i s A a = A a' := fun a ha => by
    unfold swN
    by_cases q : a = i
    · exact ⟨s, hs, by lia, by rw [if_pos q], by rw [if_pos q]⟩
    · by_cases q2 : a = s
      · exact ⟨i, hi, by (clear hi hs ha; lia), by rw [if_neg q, if_pos q2], by rw [if_neg q, if_pos q2]⟩
      · exact ⟨a, ha, rfl, by rw [if_neg q, if_neg q2], by rw [if_neg q, if_neg q2]⟩
  refine ⟨fun k hk => by rw [low k hk]; exact h.nz k hk, fun a ha => ?_, fun a j ha hj => ?_⟩
  · obtain ⟨a', h1, h2, h3, h4⟩ := perm a ha
    obtain ⟨c, hc⟩ := h.row a' h1
    refine ⟨c, fun j hj => ?_⟩
    rw [h3, h4, hc j hj, h2, hdg _ (by (clear hi his hs ha h1 h2 hj; lia))]
    congr 1
    exact sm_congr fun l hl => by rw [lowA l (by (clear hi his hs ha h1 h2 hj; lia))]
  · obtain ⟨a', h1, h2, h3, h4⟩ := perm a ha
    rw [h3]; exact h.zero a' j h1 (by lia)
theorem dt_swN {n i s : Nat} {A} (hi : i < n) (hs : s < n) (hne : i ≠ s) : dt n (swN i s A) = - dt n A := by
  rw [← dt_swp (s := i) (t := s) hi hs hne A]
  congr 1
  funext a
  unfold swN upd
  by_cases q : a = i
  · rw [if_pos q, if_neg (by (clear hi hs; lia)), if_pos q]
  · by_cases q2 : a = s
    · rw [if_neg q, if_pos q2, if_pos q2]
    · rw [if_neg q, if_neg q2, if_neg q2, if_neg q]
noncomputable def stN (s : Nat) (N : Nat → Nat → Rat) : Nat → Nat → Rat := fun a b => if s < a then (N a b * N s s - N a s * N s b) / dg N s else N a b
theorem BI.step {n s N A} (h : BI n s N A) (hs : s < n) (hp : N s s ≠ 0) : BI n (s + 1) (stN s N) A := by
  have low : ∀ k, k ≤ s → stN s N k = N k := fun k hk => by funext b; unfold stN; rw [if_neg (by (exact Nat.not_lt_of_le (by assumption)))]
  have hdg : ∀ t, t ≤ s + 1 → dg (stN s N) t = dg N t := fun t ht => dg_congr fun k hk => by rw [low k (by lia)]
  have hah := h.dgne s (Nat.le_refl _)
  refine ⟨fun k hk => ?_, fun a ha => ?_, fun a j ha hj => ?_⟩
  · rw [low k (by (exact Nat.le_of_lt_succ (by assumption)))]
    by_cases q : k < s
    · exact h.nz k q
    · have : k = s := by (exact (Nat.lt_or_eq_of_le (Nat.le_of_lt_succ (by assumption))).resolve_left (by assumption))
      subst this; exact hp
  · by_cases q : a ≤ s
    · obtain ⟨c, hc⟩ := h.row a ha
      refine ⟨c, fun j hj => ?_⟩
      rw [low a q, hc j hj, show min a (s + 1) = min a s by lia, hdg _ (by lia)]
    · obtain ⟨c, hc⟩ := h.row a ha
      obtain ⟨c', hc'⟩ := h.row s hs
      rw [show min a s = s by lia] at hc
      rw [show min s s = s by lia] at hc'
      rw [show min a (s + 1) = s + 1 by lia, hdg _ (by (exact Nat.lt_succ_self _))]
      refine ⟨fun l => if l < s then (N s s * c l - N a s * c' l) / dg N s else - N a s, fun j hj => ?_⟩
      have e : sm s (fun l => (if l < s then (N s s * c l - N a s * c' l) / dg N s else - N a s) * A l j) = (N s s / dg N s) * sm s (fun l => c l * A l j) + (- N a s / dg N s) * sm s (fun l => c' l * A l j) := by
        rw [← sm_lin]
        refine sm_congr fun l hl => ?_
        rw [if_pos hl]; grind
      rw [sm, e]
      simp only [stN, if_pos (by (exact Nat.lt_of_not_le (by assumption)) : s < a), if_neg (by (exact Nat.lt_irrefl _) : ¬ s < s)]
      have h1 := hc j hj
      have h2 := hc' j hj
      generalize sm s (fun l => c l * A l j) = S1 at *
      generalize sm s (fun l => c' l * A l j) = S2 at *
      rw [h1, h2, show dg N (s + 1) = N s s from rfl]
      clear hc hc' e h1 h2
      generalize dg N s = ah at *
      grind
  · by_cases q : a ≤ s
    · rw [low a q]; exact h.zero a j ha (by lia)
    · unfold stN
      rw [if_pos (by (exact Nat.lt_of_not_le (by assumption)))]
      by_cases q2 : j < s
      · rw [h.zero a j ha (by (clear hs ha hj; lia)), h.zero s j hs (by lia)]; grind
      · have : j = s := by lia
        subst this; grind
theorem det_q {n : Nat} (hn : n ≤ 6) {z : Int} : ∀ (f s : Nat) (M : Nat → Nat → Int) (N A : Nat → Nat → Rat) (sg ah : Int), s + f = n → BI n s N A → (∀ i j, i < n → j < n → N i j = (M i j : Rat)) → (ah : Rat) = dg N s → (sg : Rat) * dt n A = (z : Rat) →
    (∀ i j, i < n → j < n → Wz 100 (A i j)) → DetQ n f s M sg ah (fun v => v = z)
  | 0, s, M, N, A, sg, ah, hs, h, hM, ha, hz, hA => by
    have : s = n := by omega
    subst this
    show sg * ah = z
    rw [← h.fin, ← ha, ← Rat.intCast_mul] at hz
    exact Rat.intCast_inj.mp hz
  | f + 1, s, M, N, A, sg, ah, hs, h, hM, ha, hz, hA => by
    refine ⟨fun i j hi hj => ?_, fun hcol => ?_, fun i hsi hi hne _ => ?_⟩
    · obtain ⟨B, hB, w⟩ := h.wz hn hA hi hj
      rw [hM i j hi hj] at w
      exact w.sz hB
    · have : dt n A = 0 := h.det0 (by lia) fun i h1 h2 => by rw [hM i s h2 (by (exact Nat.lt_of_le_of_lt (by assumption) (by assumption))), hcol i h1 h2]; rfl
      rw [this, Rat.mul_zero] at hz
      exact Rat.intCast_inj.mp hz
    · have main : ∀ (M2 : Nat → Nat → Int) (N2 A2 : Nat → Nat → Rat) (sg2 : Int), BI n s N2 A2 → (∀ i j, i < n → j < n → N2 i j = (M2 i j : Rat)) → (ah : Rat) = dg N2 s → (sg2 : Rat) * dt n A2 = (z : Rat) →
          (∀ i j, i < n → j < n → Wz 100 (A2 i j)) → M2 s s ≠ 0 → DetQ n f (s + 1) (bSt s ah M2) sg2 (M2 s s) (fun v => v = z) := by
        intro M2 N2 A2 sg2 h2 hM2 ha2 hz2 hA2 hp
        have hpQ : N2 s s ≠ 0 := by
          rw [hM2 s s (by (exact Nat.lt_of_le_of_lt (by assumption) (by assumption))) (by (exact Nat.lt_of_le_of_lt (by assumption) (by assumption)))]
          intro q; exact hp (Rat.intCast_inj.mp (q.trans rfl))
        have h3 := h2.step (by (exact Nat.lt_of_le_of_lt (by assumption) (by assumption))) hpQ
        have hahQ := h2.dgne s (Nat.le_refl _)
        have hah0 : ah ≠ 0 := by
          intro q; rw [← ha2, q] at hahQ; exact hahQ rfl
        refine det_q hn f (s + 1) _ (stN s N2) A2 sg2 (M2 s s) (by lia) h3 (fun a b ha' hb => ?_) ?_ hz2 hA2
        · unfold bSt
          by_cases q : s < a
          · rw [if_pos q]
            by_cases q2 : s < b
            · rw [if_pos q2]
              have hm := h3.minor ha' hb (by (clear hn hs hsi hi hne hp hah0 ha' hb; lia))
              obtain ⟨w, hw, _⟩ := Wz.dt (B := 100) (n := min a (s + 1) + 1) (M := bord (min a (s + 1)) a b A2) (fun x y hx hy => by
                unfold bord
                exact hA2 _ _ (by split <;> lia) (by split <;> lia))
              rw [hw] at hm
              rw [hm]
              unfold stN at hm
              rw [if_pos q, hM2 _ _ ha' hb, hM2 _ _ (by (exact Nat.lt_trans (by assumption) (by assumption))) (by (exact Nat.lt_trans (by assumption) (by assumption))), hM2 _ _ ha' (by (exact Nat.lt_trans (by assumption) (by assumption))), hM2 _ _ (by (exact Nat.lt_trans (by assumption) (by assumption))) hb, ← ha2] at hm
              have e : ((M2 a b * M2 s s - M2 a s * M2 s b : Int) : Rat) = ((ah * w : Int) : Rat) := by
                rw [Rat.intCast_sub, Rat.intCast_mul, Rat.intCast_mul, Rat.intCast_mul]
                rw [← ha2] at hahQ
                generalize (ah : Rat) = ahq at *
                grind
              have e2 := Rat.intCast_inj.mp e
              unfold bNew
              rw [e2, Int.mul_fdiv_cancel_left _ hah0]
            · rw [if_neg q2]
              have hz0 := h3.zero a b ha' (by (clear hn hs hsi hi hne hp hah0 ha' hb; lia))
              rw [hz0]
              by_cases q3 : b = s
              · rw [if_pos q3]; rfl
              · rw [if_neg q3, ← hM2 a b ha' hb, h2.zero a b ha' (by (clear hn hs hsi hi hne hp hah0 ha' hb; lia))]
          · rw [if_neg q]
            unfold stN
            rw [if_neg q]; exact hM2 a b ha' hb
        · show _ = stN s N2 s s
          unfold stN
          rw [if_neg (by (exact Nat.lt_irrefl _)), hM2 s s (by (exact Nat.lt_of_le_of_lt (by assumption) (by assumption))) (by (exact Nat.lt_of_le_of_lt (by assumption) (by assumption)))]
      by_cases q : i = s
      · rw [if_pos q, if_pos q]
        exact main M N A sg h hM ha hz hA (by subst q; exact hne)
      · rw [if_neg q, if_neg q]
        refine main (swp i s M) (swN i s N) (swN i s A) (-sg) (h.swap hi hsi (by (exact Nat.lt_of_le_of_lt (by assumption) (by assumption)))) (fun a b ha' hb => ?_) ?_ ?_ (fun a b ha' hb => ?_) ?_
        · unfold swN swp
          split
          · exact hM _ _ (by (exact Nat.lt_of_le_of_lt (by assumption) (by assumption))) hb
          · split
            · exact hM _ _ hi hb
            · exact hM _ _ ha' hb
        · rw [ha]; exact dg_congr fun k hk => by unfold swN; rw [if_neg (by (clear hn hs hi hne q; lia)), if_neg (by (exact Nat.ne_of_lt (by assumption)))]
        · rw [dt_swN hi (by (exact Nat.lt_of_le_of_lt (by assumption) (by assumption))) q, Rat.intCast_neg, ← hz]; grind
        · unfold swN
          split
          · exact hA _ _ (by (exact Nat.lt_of_le_of_lt (by assumption) (by assumption))) hb
          · split
            · exact hA _ _ hi hb
            · exact hA _ _ ha' hb
        · unfold swp
          rw [if_neg (Ne.symm q), if_pos rfl]; exact hne
noncomputable def castM (M : Nat → Nat → Int) : Nat → Nat → Rat := fun i j => (M i j : Rat)
theorem det_ok {n : Nat} (hn : n ≤ 6) {M : Nat → Nat → Int} {z : Int} (hM : ∀ i j, i < n → j < n → (M i j).natAbs ≤ 100) (hz : dt n (castM M) = (z : Rat)) : DetQ n n 0 M 1 1 (fun v => v = z) := by
  refine det_q hn n 0 M (castM M) (castM M) 1 1 (by (exact Nat.add_comm ..)) ⟨fun k hk => by (exact absurd (by assumption) (Nat.not_lt_zero _)), fun i hi => ⟨fun _ => 0, fun j hj => ?_⟩, fun i j hi hj => by lia⟩ (fun i j _ _ => rfl) rfl ?_ (fun i j hi hj => ⟨M i j, rfl, hM i j hi hj⟩)
  · rw [show min i 0 = 0 by lia]; simp only [dg, sm]; (rw [Rat.one_mul, Rat.add_zero])
  · rw [hz]; exact Rat.one_mul _
end Mine
namespace Mine
theorem mpow {a b : Rat} : ∀ n : Nat, (a * b) ^ n = a ^ n * b ^ n
  | 0 => by rw [Rat.pow_zero, Rat.pow_zero, Rat.pow_zero, Rat.one_mul]
  | n + 1 => by rw [Rat.pow_succ, Rat.pow_succ, Rat.pow_succ, mpow n]; grind
theorem pow_ne {a : Rat} (h : a ≠ 0) : ∀ n : Nat, a ^ n ≠ 0
  | 0 => by rw [Rat.pow_zero]; decide
  | n + 1 => by
    rw [Rat.pow_succ]
    intro q
    rcases Rat.mul_eq_zero.mp q with q | q
    · exact pow_ne h n q
    · exact h q
theorem sgn_add (a : Nat) : ∀ b, sgn (a + b) = sgn a * sgn b
  | 0 => by show sgn a = sgn a * 1; (exact (Rat.mul_one _).symm)
  | b + 1 => by
    show - sgn (a + b) = sgn a * - sgn b
    rw [sgn_add a b]; grind
theorem sgn_sq : ∀ a, sgn a * sgn a = 1
  | 0 => by simp only [sgn]; (exact Rat.mul_one _)
  | a + 1 => by simp only [sgn]; have := sgn_sq a; grind
theorem sgn_pow (a : Nat) : ∀ b : Nat, sgn a ^ b = sgn (a * b)
  | 0 => by rw [Rat.pow_zero]; rfl
  | b + 1 => by rw [Rat.pow_succ, sgn_pow a b, Nat.mul_succ, sgn_add]
theorem sgn_even : ∀ {a : Nat}, a % 2 = 0 → sgn a = 1
  | 0, _ => rfl
  | 1, h => by lia
  | a + 2, h => by
    show - - sgn a = 1
    rw [sgn_even (a := a) (by lia)]; (exact Rat.neg_neg _)
theorem sgn_odd {a : Nat} (h : a % 2 = 1) : sgn a = -1 := by
  obtain ⟨b, rfl⟩ : ∃ b, a = b + 1 := ⟨a - 1, by omega⟩
  show - sgn b = -1
  rw [sgn_even (by lia)]
noncomputable def shf (u : Nat → Rat) : Nat → Rat := fun c => if c = 0 then 0 else u (c - 1)
noncomputable def shk (k : Nat) (u : Nat → Rat) : Nat → Rat := fun c => if c < k then 0 else u (c - k)
theorem shk_succ {k u} : shk (k + 1) u = shf (shk k u) := by
  funext c
  unfold shk shf
  by_cases q : c = 0
  · rw [if_pos (by lia), if_pos q]
  · rw [if_neg q]
    by_cases q2 : c < k + 1
    · rw [if_pos q2]; exact (if_pos (show c - 1 < k by lia)).symm
    · rw [if_neg q2]
      refine Eq.trans ?_ (if_neg (show ¬ c - 1 < k by omega)).symm
      congr 1; lia
theorem shk_zero {u} : shk 0 u = u := by funext c; unfold shk; rw [if_neg (by (exact Nat.not_lt_zero _))]; rfl
noncomputable def mulx (n : Nat) (a u : Nat → Rat) : Nat → Rat := fun c => shf u c - u (n - 1) * a c
noncomputable def red (n : Nat) (a u : Nat → Rat) : Nat → Rat := fun c => u c - u n * a c
noncomputable def pw (n : Nat) (a f : Nat → Rat) : Nat → Nat → Rat
  | 0 => f
  | l + 1 => mulx n a (pw n a f l)
theorem red_low {n a u} (h : u n = 0) (c : Nat) : red n a u c = u c := by unfold red; rw [h]; grind
noncomputable def Rp (n N : Nat) (a f u v : Nat → Rat) : Prop := ∀ c, c < n → red n a u c = sm N (fun l => v l * pw n a f l c)
theorem Rp.lin {n N : Nat} {a f u v u' v' : Nat → Rat} (h : Rp n N a f u v) (h' : Rp n N a f u' v') (x y : Rat) : Rp n N a f (fun c => x * u c + y * u' c) (fun l => x * v l + y * v' l) := fun c hc => by
  have e1 := h c hc
  have e2 := h' c hc
  have e3 : sm N (fun l => (x * v l + y * v' l) * pw n a f l c) = x * sm N (fun l => v l * pw n a f l c) + y * sm N (fun l => v' l * pw n a f l c) := by
    rw [← sm_lin]; exact sm_congr fun l _ => by grind
  rw [e3, ← e1, ← e2]
  unfold red; grind
theorem Rp.scale {n N : Nat} {a f u v : Nat → Rat} (h : Rp n N a f u v) (x : Rat) : Rp n N a f (fun c => u c * x) (fun l => v l * x) := fun c hc => by
  have e1 := h c hc
  have e3 : sm N (fun l => v l * x * pw n a f l c) = x * sm N (fun l => v l * pw n a f l c) := by
    rw [← sm_mul]; exact sm_congr fun l _ => by grind
  rw [e3, ← e1]
  unfold red; grind
theorem Rp.congr {n N : Nat} {a f u v u' v' : Nat → Rat} (h : Rp n N a f u v) (h1 : ∀ c, u c = u' c) (h2 : ∀ l, v l = v' l) : Rp n N a f u' v' := by
  have e1 : u = u' := funext h1
  have e2 : v = v' := funext h2
  rw [← e1, ← e2]; exact h
theorem Rp.shift {n N : Nat} {a f u v : Nat → Rat} (h : Rp n (N + 1) a f u v) (hn : 0 < n) (hu : ∀ c, n ≤ c → u c = 0) (hv : v N = 0) : Rp n (N + 1) a f (shf u) (shf v) := fun c hc => by
  have hu0 := hu n (Nat.le_refl _)
  have key : ∀ d, d < n → u d = sm N (fun l => v l * pw n a f l d) := fun d hd => by
    have := h d hd
    rw [red_low hu0, sm, hv] at this
    rw [this]; (rw [Rat.zero_mul, Rat.add_zero])
  have e1 : red n a (shf u) c = shf u c - u (n - 1) * a c := by
    unfold red
    have : shf u n = u (n - 1) := by unfold shf; rw [if_neg (by (exact Nat.ne_of_gt (by assumption)))]
    rw [this]
  have e0 : shf v 0 * pw n a f 0 c = 0 := by unfold shf; rw [if_pos rfl]; (exact Rat.zero_mul _)
  have e4 : sm N (fun l => v l * (shf (pw n a f l) c - pw n a f l (n - 1) * a c)) = 1 * sm N (fun l => v l * shf (pw n a f l) c) + (- a c) * sm N (fun l => v l * pw n a f l (n - 1)) := by
    rw [← sm_lin]; exact sm_congr fun l _ => by grind
  have e5 : sm N (fun l => shf v (l + 1) * pw n a f (l + 1) c) = sm N (fun l => v l * (shf (pw n a f l) c - pw n a f l (n - 1) * a c)) := sm_congr fun l _ => by
    have : shf v (l + 1) = v l := by unfold shf; rw [if_neg (by (exact Nat.succ_ne_zero _))]; rfl
    rw [this]; rfl
  rw [e1, sm_shift, e0, e5, e4, key (n - 1) (by (exact Nat.sub_lt (by assumption) Nat.one_pos))]
  have e6 : shf u c = sm N (fun l => v l * shf (pw n a f l) c) := by
    unfold shf
    by_cases q : c = 0
    · rw [if_pos q]
      exact (sm_zero fun l _ => by rw [if_pos q]; (exact Rat.mul_zero _)).symm
    · rw [if_neg q, key (c - 1) (by (exact Nat.lt_of_le_of_lt (Nat.sub_le _ _) (by assumption)))]
      exact sm_congr fun l _ => by rw [if_neg q]
  rw [e6]; grind
theorem Rp.shk {n N : Nat} {a f u v : Nat → Rat} {m T : Nat} (h : Rp n (N + 1) a f u v) (hn : 0 < n) (hu : ∀ c, m ≤ c → u c = 0) (hv : ∀ l, T < l → v l = 0) : ∀ k, m + k ≤ n + 1 → T + k ≤ N → Rp n (N + 1) a f (shk k u) (shk k v)
  | 0, _, _ => by rw [shk_zero, shk_zero]; exact h
  | k + 1, h1, h2 => by
    rw [shk_succ, shk_succ]
    refine Rp.shift (Rp.shk h hn hu hv k (by (exact Nat.le_of_lt (by assumption))) (by (exact Nat.le_of_lt (by assumption)))) hn (fun c hc => ?_) ?_
    · unfold Mine.shk; rw [if_neg (by lia)]; exact hu _ (by lia)
    · unfold Mine.shk; rw [if_neg (by lia)]; exact hv _ (by lia)
noncomputable def Dl (n : Nat) (F : Nat → Nat → Rat) (T : Nat) : Rat := dt T (fun i j => F i (n - T + j))
noncomputable def El (n : Nat) (F : Nat → Nat → Rat) (T c : Nat) : Rat := dt (T + 1) (fun i j => F i (if j = 0 then c else n - T + (j - 1)))
theorem sm_cut {f : Nat → Rat} {k n : Nat} (hk : k ≤ n) (h : ∀ l, k ≤ l → f l = 0) : sm n f = sm k f := by
  rw [sm_ext hk]
  refine sm_congr fun l _ => ?_
  split
  · rfl
  · exact h l (by (exact Nat.le_of_not_lt (by assumption)))
theorem E_rel {n N : Nat} {a f u v : Nat → Rat} {T c : Nat} (h : Rp n N a f u v) (hT : T ≤ n) (hN : T + 1 ≤ N) (hc : c < n) (hu : ∀ c, n - T ≤ c → u c = 0) (hv : ∀ l, T < l → v l = 0) : v T * El n (pw n a f) T c = sgn T * u c * Dl n (pw n a f) T := by
  have key : ∀ d, d < n → u d = v T * pw n a f T d + sm T (fun l => v l * pw n a f l d) := fun d hd => by
    have := h d hd
    rw [red_low (hu n (by (exact Nat.sub_le _ _))), sm_cut (k := T + 1) hN (fun l hl => by rw [hv l (by (assumption))]; (exact Rat.zero_mul _)), sm] at this
    rw [this]; (exact Rat.add_comm _ _)
  have s := dt_span (n := T + 1) (t := T) (M := fun i j => pw n a f i (if j = 0 then c else n - T + (j - 1))) (u := fun j => pw n a f T (if j = 0 then c else n - T + (j - 1))) (d := v T) (c := v) (by (exact Nat.le_refl _)) T (Nat.le_refl _)
  have e1 : upd (fun i j => pw n a f i (if j = 0 then c else n - T + (j - 1))) T (fun j => pw n a f T (if j = 0 then c else n - T + (j - 1))) = (fun i j => pw n a f i (if j = 0 then c else n - T + (j - 1))) := upd_self
  rw [e1] at s
  unfold El
  rw [← s]
  have e2 : dt (T + 1) (upd (fun i j => pw n a f i (if j = 0 then c else n - T + (j - 1))) T (fun j => v T * pw n a f T (if j = 0 then c else n - T + (j - 1)) + sm T (fun l => v l * pw n a f l (if j = 0 then c else n - T + (j - 1)))))
      = dt (T + 1) (upd (fun i j => pw n a f i (if j = 0 then c else n - T + (j - 1))) T (fun j => u (if j = 0 then c else n - T + (j - 1)))) := dt_congr fun i j hi hj => by
    by_cases q : i = T
    · subst q
      rw [upd_at, upd_at, ← key _ (by split <;> lia)]
    · rw [upd_ne q, upd_ne q]
  rw [e2, dt_single (t := T) (by (exact Nat.le_refl _)) (fun j h0 hj => by rw [upd_at, if_neg (by (exact Nat.ne_of_gt (by assumption)))]; exact hu _ (by (exact Nat.le_add_right _ _))), upd_at, if_pos rfl]
  congr 1
  unfold Dl
  refine dt_congr fun i j hi hj => ?_
  unfold del
  rw [if_pos hi, upd_ne (by (exact Nat.ne_of_lt (by assumption))), if_neg (by (exact Nat.succ_ne_zero _))]
  rfl
theorem pr_one : ∀ {n : Nat} {f : Nat → Rat}, (∀ i, i < n → f i = 1) → pr n f = 1
  | 0, _, _ => rfl
  | n + 1, f, h => by rw [pr, pr_one (n := n) fun i hi => h i (by (exact Nat.lt_succ_of_lt (by assumption))), h n (by (exact Nat.le_refl _)), Rat.one_mul]
theorem pr_tail {T : Nat} {x : Rat} : ∀ k, pr (T + k) (fun i => if i < T then 1 else x) = x ^ k
  | 0 => by rw [Rat.pow_zero]; exact pr_one fun i hi => if_pos hi
  | k + 1 => by
    show pr (T + k) _ * (if T + k < T then 1 else x) = _
    rw [pr_tail k, if_neg (by lia), Rat.pow_succ]
theorem D_peel {n : Nat} {F : Nat → Nat → Rat} {u : Nat → Rat} {T d δ : Nat} (hn : n = T + d + δ) (hu : ∀ c, d < c → u c = 0) : ∀ k, k ≤ δ → dt (T + k) (fun i j => if i < T then F i (n - T - k + j) else shk (δ - k + (i - T)) u (n - T - k + j)) = (sgn T * u d) ^ k * Dl n F T
  | 0, _ => by
    rw [Rat.pow_zero, Rat.one_mul]
    exact dt_congr fun i j hi hj => by rw [if_pos (by omega)]; rfl
  | k + 1, hk => by
    rw [← Nat.add_assoc, dt_single (t := T) (by lia)]
    · rw [if_neg (by (exact Nat.lt_irrefl _)), Rat.pow_succ, ← Rat.mul_comm (sgn T * u d), Rat.mul_assoc (sgn T * u d), ← D_peel hn hu k (by (exact Nat.le_of_lt (by assumption)))]
      have e : shk (δ - (k + 1) + (T - T)) u (n - T - (k + 1) + 0) = u d := by
        unfold shk
        rw [if_neg (by lia)]
        congr 1; lia
      rw [e]
      congr 1
      refine dt_congr fun i j hi hj => ?_
      unfold del
      by_cases q : i < T
      · simp only [q, if_true]
        congr 1; lia
      · have : ¬ i + 1 < T := by lia
        simp only [q, this, if_false]
        rw [show δ - (k + 1) + (i + 1 - T) = δ - k + (i - T) by (clear hn hi hj this; lia), show n - T - (k + 1) + (j + 1) = n - T - k + j by lia]
    · intro j h0 hj
      rw [if_neg (by (exact Nat.lt_irrefl _))]
      unfold shk
      by_cases q : n - T - (k + 1) + j < δ - (k + 1) + (T - T)
      · rw [if_pos q]
      · rw [if_neg q]; exact hu _ (by omega)
theorem D_rel {n N : Nat} {a f u v : Nat → Rat} {T d δ : Nat} (h : Rp n (N + 1) a f u v) (hn0 : 0 < n) (hn : n = T + d + δ) (hN : T + δ ≤ N) (hu : ∀ c, d < c → u c = 0) (hv : ∀ l, T < l → v l = 0) :
    v T ^ δ * Dl n (pw n a f) (T + δ) = (sgn T * u d) ^ δ * Dl n (pw n a f) T := by
  rw [← D_peel hn hu δ (Nat.le_refl _)]
  have tri := dt_tri (n := T + δ) (M := fun i j => if i < T then pw n a f i (n - T - δ + j) else shk (δ - δ + (i - T)) u (n - T - δ + j)) (A := fun i j => pw n a f i (n - T - δ + j)) (d := fun i => if i < T then 1 else v T) (fun i hi => ?_)
  · rw [tri, pr_tail]
    congr 1
    unfold Dl
    rw [show n - (T + δ) = n - T - δ by (exact (Nat.sub_sub ..).symm)]
  · by_cases q : i < T
    · refine ⟨fun _ => 0, fun j hj => ?_⟩
      rw [if_pos q, if_pos q, sm_zero (fun l _ => by (exact Rat.zero_mul _))]; (rw [Rat.one_mul, Rat.add_zero])
    · refine ⟨shk (i - T) v, fun j hj => ?_⟩
      rw [if_neg q, if_neg q, show δ - δ + (i - T) = i - T by lia]
      have r := h.shk (m := d + 1) hn0 (fun c hc => hu c (by (assumption))) hv (i - T) (by lia) (by (clear hn0 hn hj; lia)) (n - T - δ + j) (by (clear hn0 hN hi q; omega))
      rw [red_low (by unfold shk; rw [if_neg (by lia)]; exact hu _ (by (clear hn0 hN hj; omega))), sm_cut (k := i + 1) (by (clear hn0 hn q hj; lia)) (fun l hl => by
        have : shk (i - T) v l = 0 := by unfold shk; rw [if_neg (by lia)]; exact hv _ (by (clear hn0 hn hN hi hj; omega))
        rw [this]; (exact Rat.zero_mul _)), sm] at r
      rw [r]
      have e : shk (i - T) v i = v T := by
        unfold shk; rw [if_neg (by (clear hn0 hn hN hi hj; omega))]; congr 1; (clear hn0 hn hN hi hj; omega)
      rw [e]; (exact Rat.add_comm _ _)
theorem D_null {n N : Nat} {a f u v : Nat → Rat} {T : Nat} (h : Rp n N a f u v) (hT : T < n) (hN : T + 1 ≤ N) (hu : ∀ c, u c = 0) (hv : ∀ l, T < l → v l = 0) (h0 : v T ≠ 0) : dt n (pw n a f) = 0 := by
  have s := dt_span (n := n) (t := T) (M := pw n a f) (u := pw n a f T) (d := v T) (c := v) hT T (Nat.le_refl _)
  rw [upd_self, dt_zrow (t := T) hT] at s
  · rcases Rat.mul_eq_zero.mp s.symm with q | q
    · exact absurd q h0
    · exact q
  · intro j hj
    rw [upd_at]
    have r := h j hj
    rw [red_low (hu n), hu, sm_cut (k := T + 1) hN (fun l hl => by rw [hv l (by (assumption))]; (exact Rat.zero_mul _)), sm] at r
    rw [r]; (exact Rat.add_comm _ _)
theorem Dl_full {n F} : Dl n F n = dt n F := by
  unfold Dl
  exact dt_congr fun i j hi hj => by rw [show n - n + j = j by lia]
end Mine
namespace Mine
theorem lead_ztr : ∀ {l : List Int}, ztr l ≠ [] → lead (ztr l) ≠ 0
  | [], h => absurd rfl h
  | x :: r, h => by
    have ih := lead_ztr (l := r)
    unfold ztr at h ⊢
    cases ht : ztr r with
    | nil =>
      rw [ht] at h
      by_cases q : x = 0
      · simp [q] at h
      · simp [q, lead]
    | cons y t =>
      rw [ht] at ih
      simpa [lead] using ih
noncomputable def cfq (l : List Int) (c : Nat) : Rat := (cf l c : Rat)
theorem cfq_ge {l : List Int} {c : Nat} (h : l.length ≤ c) : cfq l c = 0 := by unfold cfq; rw [cf_ge h]; rfl
theorem cf_psStep {b rs : List Int} {i : Nat} : cf (psStep b rs) i = cf rs i * lead b - (if i < rs.length - b.length then 0 else cf b (i - (rs.length - b.length)) * lead rs) := by
  unfold psStep
  rw [cf_zsub, cf_zscale, cf_zraise]
  split
  · rfl
  · rw [cf_zscale]
theorem psR_rep {n : Nat} {a f vb : Nat → Rat} {b : List Int} {T δ : Nat} (hn : 0 < n) (hb : b ≠ []) (hl : lead b ≠ 0) (hT : T + δ + b.length = n + 1) (rb : Rp n (n + 1) a f (cfq b) vb) (sb : ∀ l, T < l → vb l = 0) :
    ∀ (cnt : Nat) (rs : List Int) (w : Nat → Rat), rs.length < b.length + cnt → rs.length < b.length + δ → Rp n (n + 1) a f (cfq rs) w → (∀ l, T + δ < l → w l = 0) → (rs ≠ [] → lead rs ≠ 0) →
      ∃ vR, Rp n (n + 1) a f (cfq (zscale (psR b cnt rs).1 (lead b ^ (psR b cnt rs).2))) vR ∧ (∀ l, T + δ < l → vR l = 0) ∧ vR (T + δ) = w (T + δ) * (lead b : Rat) ^ cnt ∧
        (zscale (psR b cnt rs).1 (lead b ^ (psR b cnt rs).2)).length < b.length ∧ ((zscale (psR b cnt rs).1 (lead b ^ (psR b cnt rs).2)) ≠ [] → lead (zscale (psR b cnt rs).1 (lead b ^ (psR b cnt rs).2)) ≠ 0) := by
  have hbp : 0 < b.length := List.length_pos_iff.mpr hb
  have stop : ∀ (cnt : Nat) (rs : List Int) (w : Nat → Rat), rs.length < b.length → Rp n (n + 1) a f (cfq rs) w → (∀ l, T + δ < l → w l = 0) → (rs ≠ [] → lead rs ≠ 0) →
      ∃ vR, Rp n (n + 1) a f (cfq (zscale rs (lead b ^ cnt))) vR ∧ (∀ l, T + δ < l → vR l = 0) ∧ vR (T + δ) = w (T + δ) * (lead b : Rat) ^ cnt ∧ (zscale rs (lead b ^ cnt)).length < b.length ∧ (zscale rs (lead b ^ cnt) ≠ [] → lead (zscale rs (lead b ^ cnt)) ≠ 0) := by
    intro cnt rs w h1 h2 h3 h4
    have hp : lead b ^ cnt ≠ 0 := Int.pow_ne_zero hl
    refine ⟨fun l => w l * ((lead b ^ cnt : Int) : Rat), (h2.scale _).congr (fun c => ?_) fun _ => rfl, fun l hl => by show w l * _ = 0; rw [h3 l hl]; grind, by rw [Rat.intCast_pow], ?_, fun hne => ?_⟩
    · unfold cfq; rw [cf_zscale, Rat.intCast_mul]
    · have := zscale_le (a := rs) (k := lead b ^ cnt); (clear hn hl hT hbp h4 hp; lia)
    · rw [lead_cf, cf_zscale, zscale_len, if_neg hp, ← lead_cf]
      have : rs ≠ [] := by rintro rfl; apply hne; unfold zscale; split <;> rfl
      exact Int.mul_ne_zero (h4 this) hp
  intro cnt
  induction cnt with
  | zero => intro rs w h1 h2 h3 h4 h5; exact stop 0 rs w (by omega) h3 h4 h5
  | succ cnt ih =>
    intro rs w h1 h2 h3 h4 h5
    unfold psR
    by_cases q : b.length ≤ rs.length
    · rw [if_pos q]
      have hlt := psStep_lt hb hl q
      generalize hk : rs.length - b.length = k at *
      have sh := rb.shk (m := b.length) (T := T) hn (fun c hc => cfq_ge hc) sb k (by (clear hn hl hbp h1 h5 hlt; lia)) (by (clear hn hl h1 h5 hlt; lia))
      have hr := (h3.lin sh (lead b) (-(lead rs : Rat))).congr (u' := cfq (psStep b rs)) (v' := fun l => (lead b : Rat) * w l + -(lead rs : Rat) * shk k vb l) (fun c => by
        unfold cfq shk
        rw [cf_psStep, hk]
        split
        · rw [Rat.intCast_sub, Rat.intCast_mul]; show _ = _ - (0 : Rat); grind
        · rw [Rat.intCast_sub, Rat.intCast_mul, Rat.intCast_mul]; grind) (fun _ => rfl)
      obtain ⟨vR, g1, g2, g3, g4, g5⟩ := ih (psStep b rs) _ (by (clear hn hl hT hbp h2 h5 q hk; lia)) (by (clear hn hl hT hbp h1 h5 q hk; lia)) hr (fun l hl => by
        rw [h4 l hl]
        have : shk k vb l = 0 := by unfold shk; rw [if_neg (by (clear hn hT hbp h1 h5 hlt; lia))]; exact sb _ (by (clear hn hT hbp h1 h5 hlt; omega))
        rw [this]; grind) (fun hne => by unfold psStep zsub zadd at hne ⊢; exact lead_ztr hne)
      refine ⟨vR, g1, g2, ?_, g4, g5⟩
      rw [g3, Rat.pow_succ]
      have : shk k vb (T + δ) = 0 := by unfold shk; rw [if_neg (by (clear hn hl hT hbp h1 h5 hlt g4 g5; lia))]; exact sb _ (by (clear hn hl hT hbp h1 h5 hlt g4 g5; omega))
      rw [this]; grind
    · rw [if_neg q]
      exact stop (cnt + 1) rs w (by (clear hn hl hT hbp h1 h2 h5; lia)) h3 h4 h5
theorem prem_rep {n : Nat} {aq f va vb : Nat → Rat} {a b : List Int} {T δ : Nat} (hn : 0 < n) (hb : b ≠ []) (hl : lead b ≠ 0) (hT : T + δ + b.length = n + 1) (hab : a.length = b.length + δ) (ra : Rp n (n + 1) aq f (cfq a) va) (rb : Rp n (n + 1) aq f (cfq b) vb)
    (sa : ∀ l, T + δ ≤ l → va l = 0) (sb : ∀ l, T < l → vb l = 0) : ∃ vR, Rp n (n + 1) aq f (cfq (prem a b)) vR ∧ (∀ l, T + δ < l → vR l = 0) ∧ vR (T + δ) = -(lead a : Rat) * vb T * (lead b : Rat) ^ δ ∧ (prem a b).length < b.length ∧ (prem a b ≠ [] → lead (prem a b) ≠ 0) := by
  have hbp : 0 < b.length := List.length_pos_iff.mpr hb
  unfold prem
  rw [show a.length + 1 - b.length = δ + 1 by (clear hn hl hT hbp; lia), psR, if_pos (by (clear hn hl hT hbp; lia))]
  have hlt := psStep_lt hb hl (rs := a) (by (clear hn hl hT hbp; lia))
  have sh := rb.shk (m := b.length) (T := T) hn (fun c hc => cfq_ge hc) sb δ (by lia) (by (clear hn hl hab hlt; lia))
  have hr := (ra.lin sh (lead b) (-(lead a : Rat))).congr (u' := cfq (psStep b a)) (v' := fun l => (lead b : Rat) * va l + -(lead a : Rat) * shk δ vb l) (fun c => by
    unfold cfq shk
    rw [cf_psStep, show a.length - b.length = δ by (clear hn hl hT hbp hlt; lia)]
    split
    · rw [Rat.intCast_sub, Rat.intCast_mul]; show _ = _ - (0 : Rat); grind
    · rw [Rat.intCast_sub, Rat.intCast_mul, Rat.intCast_mul]; grind) (fun _ => rfl)
  obtain ⟨vR, g1, g2, g3, g4, g5⟩ := psR_rep hn hb hl hT rb sb δ (psStep b a) _ (by (clear hn hl hT hbp; lia)) (by (clear hn hl hT hbp; lia)) hr (fun l hl => by
    rw [sa l (by lia)]
    have : shk δ vb l = 0 := by unfold shk; rw [if_neg (by lia)]; exact sb _ (by lia)
    rw [this]; grind) (fun hne => by unfold psStep zsub zadd at hne ⊢; exact lead_ztr hne)
  refine ⟨vR, g1, g2, ?_, g4, g5⟩
  rw [g3, sa (T + δ) (by lia)]
  have : shk δ vb (T + δ) = vb T := by unfold shk; rw [if_neg (by lia)]; congr 1; lia
  rw [this]; grind
theorem rrSg_eq {a b : List Int} {sg : Int} : (rrSg a b sg : Rat) = sgn ((a.length - 1) * (b.length - 1)) * (sg : Rat) := by
  unfold rrSg
  generalize a.length - 1 = x
  generalize b.length - 1 = y
  by_cases q : x % 2 = 1 ∧ y % 2 = 1
  · rw [if_pos q, sgn_odd (by rw [Nat.mul_mod, q.1, q.2]), Rat.intCast_neg]; grind
  · rw [if_neg q, sgn_even, Rat.one_mul]
    rw [Nat.mul_mod]
    rcases Nat.mod_two_eq_zero_or_one x with h1 | h1
    · simp [h1]
    · rcases Nat.mod_two_eq_zero_or_one y with h2 | h2
      · simp [h2]
      · exact absurd ⟨h1, h2⟩ q
noncomputable def Xp (n T e : Nat) : Nat := (n + e + 1) * T + e * n
theorem par (T δ d e : Nat) : (e * δ + (T * δ + (Xp (T + δ + d) T e + (Xp (T + δ + d) (T + δ) (e + 1) + (δ + d) * d)))) % 2 = 0 := by
  unfold Xp
  rcases Nat.mod_two_eq_zero_or_one T with h1 | h1 <;> rcases Nat.mod_two_eq_zero_or_one δ with h2 | h2 <;> rcases Nat.mod_two_eq_zero_or_one d with h3 | h3 <;> rcases Nat.mod_two_eq_zero_or_one e with h4 | h4 <;>
    simp [Nat.add_mod, Nat.mul_mod, h1, h2, h3, h4]
noncomputable def sgi : Nat → Int
  | 0 => 1
  | n + 1 => - sgi n
theorem sgi_eq : ∀ n, (sgi n : Rat) = sgn n
  | 0 => rfl
  | n + 1 => by show ((- sgi n : Int) : Rat) = - sgn n; rw [Rat.intCast_neg, sgi_eq n]
structure PI (n : Nat) (aq f : Nat → Rat) (s0 : Int) (a b : List Int) (g h sg : Int) (T e : Nat) (va vb : Nat → Rat) : Prop where
  lT : a.length + T = n + 1
  lab : b.length ≤ a.length
  la2 : 2 ≤ a.length
  lda : lead a ≠ 0
  ldb : b ≠ [] → lead b ≠ 0
  ra : Rp n (n + 1) aq f (cfq a) va
  rb : Rp n (n + 1) aq f (cfq b) vb
  sa : ∀ l, T + (a.length - b.length) ≤ l → va l = 0
  sb : ∀ l, T < l → vb l = 0
  tb : vb T = sgn e * (h : Rat)
  hg : g = lead a
  h0 : h ≠ 0
  hs : sg = 1 ∨ sg = -1
  hD : Dl n (pw n aq f) T = (sg : Rat) * s0 * h * sgn (Xp n T e)
  za : SzL 64 a
  zb : SzL 64 b
theorem sq1 {s : Int} (h : s = 1 ∨ s = -1) : (s : Rat) * s = 1 := by rw [← Rat.intCast_mul]; rcases h with rfl | rfl <;> rfl
theorem q0 {x : Int} (h : x ≠ 0) : (x : Rat) ≠ 0 := fun q => h (Rat.intCast_inj.mp (q.trans rfl))
theorem rrSg_or {a b : List Int} {sg : Int} (h : sg = 1 ∨ sg = -1) : rrSg a b sg = 1 ∨ rrSg a b sg = -1 := by
  unfold rrSg; split <;> lia
theorem PI.nextH {n aq f s0 a b g h sg T e va vb} (p : PI n aq f s0 a b g h sg T e va vb) (hs0 : s0 = 1 ∨ s0 = -1) (hF : ∀ l c, l < n → c < n → Wz 100 (pw n aq f l c)) (hb : b ≠ []) :
    rrH a b h ≠ 0 ∧ (rrH a b h : Rat) * (h : Rat) ^ (a.length - b.length) = (lead b : Rat) ^ (a.length - b.length) * h ∧
      Dl n (pw n aq f) (T + (a.length - b.length)) = (rrSg a b sg : Rat) * s0 * (rrH a b h : Rat) * sgn (Xp n (T + (a.length - b.length)) (e + 1)) := by
  obtain ⟨lT, lab, la2, lda, ldb, ra, rb, sa, sb, tb, hg, h0, hs, hD, za, zb⟩ := p
  have hbp : 0 < b.length := List.length_pos_iff.mpr hb
  have hlb := ldb hb
  obtain ⟨d, hd⟩ : ∃ d, b.length = d + 1 := ⟨_, (Nat.sub_add_cancel hbp).symm⟩
  obtain ⟨δ, hab⟩ : ∃ δ, a.length = b.length + δ := ⟨_, (Nat.add_sub_cancel' lab).symm⟩
  have hδ : a.length - b.length = δ := by rw [hab, Nat.add_sub_cancel_left]
  have hal : a.length = δ + d + 1 := by rw [hab, hd, Nat.add_right_comm, Nat.add_comm d]
  have hn : n = T + δ + d := by
    rw [hal] at lT
    clear hal hab hδ hd la2
    omega
  have hn0 : 0 < n := by
    clear hal hab hδ hd hn
    omega
  rw [hδ] at sa ⊢
  clear lT lab la2 hab
  have rel := D_rel (T := T) (d := d) (δ := δ) rb hn0 (by rw [hn, Nat.add_right_comm]) (by rw [hn]; exact Nat.le_add_right _ _) (fun c hc => cfq_ge (by rw [hd]; exact hc)) sb
  have hu : cfq b d = (lead b : Rat) := by unfold cfq; rw [lead_cf, hd]; rfl
  rw [hu, tb, mpow, mpow, sgn_pow, sgn_pow, hD] at rel
  obtain ⟨D, hDl, _⟩ : Wz _ (Dl n (pw n aq f) (T + δ)) := Wz.dt (B := 100) fun i j hi hj => hF _ _ (Nat.lt_of_lt_of_le hi (by rw [hn]; exact Nat.le_add_right _ _)) (by rw [hn, Nat.add_sub_cancel_left, Nat.add_comm d]; exact Nat.add_lt_add_right hj d)
  rw [hDl] at rel ⊢
  have eP := par T δ d e
  have eS : sgn (e * δ) * (sgn (T * δ) * (sgn (Xp n T e) * (sgn (Xp n (T + δ) (e + 1)) * sgn ((a.length - 1) * (b.length - 1))))) = 1 := by
    rw [← sgn_even eP, sgn_add, sgn_add, sgn_add, sgn_add, show a.length - 1 = δ + d by rw [hal, Nat.add_sub_cancel], show b.length - 1 = d by rw [hd, Nat.add_sub_cancel]]
    rw [← hn]
  obtain ⟨H, hH⟩ : ∃ H : Int, (H : Rat) = (rrSg a b sg : Rat) * s0 * sgn (Xp n (T + δ) (e + 1)) * D := by
    refine ⟨rrSg a b sg * s0 * sgi (Xp n (T + δ) (e + 1)) * D, ?_⟩
    rw [Rat.intCast_mul, Rat.intCast_mul, Rat.intCast_mul, sgi_eq]
  have hmain : (H : Rat) * (h : Rat) ^ δ = (lead b : Rat) ^ δ * h := by
    rw [hH, rrSg_eq]
    have a1 := sgn_sq (e * δ)
    have a2 := sgn_sq (T * δ)
    have a3 := sgn_sq (Xp n T e)
    have a4 := sgn_sq (Xp n (T + δ) (e + 1))
    have a6 := sq1 hs
    have a7 := sq1 hs0
    generalize sgn (e * δ) = E at *
    generalize sgn (T * δ) = Tt at *
    generalize sgn (Xp n T e) = X at *
    generalize sgn (Xp n (T + δ) (e + 1)) = X' at *
    generalize sgn ((a.length - 1) * (b.length - 1)) = P at *
    generalize (h : Rat) ^ δ = hp at *
    generalize (lead b : Rat) ^ δ = lp at *
    generalize (h : Rat) = hq at *
    generalize (D : Rat) = Dq at *
    generalize (sg : Rat) = s at *
    generalize (s0 : Rat) = t at *
    have r1 : hp * Dq = E * (Tt * lp * (s * t * hq * X)) := by
      have : E * (E * hp * Dq) = E * (Tt * lp * (s * t * hq * X)) := by rw [rel]
      have e2 : E * (E * hp * Dq) = (E * E) * (hp * Dq) := by grind
      rw [e2, a1, Rat.one_mul] at this; exact this
    have r2 : P * s * t * X' * Dq * hp = P * s * t * X' * (hp * Dq) := by grind
    rw [r2, r1]
    have r3 : P * s * t * X' * (E * (Tt * lp * (s * t * hq * X))) = (E * (Tt * (X * (X' * P)))) * (s * s) * (t * t) * (lp * hq) := by grind
    rw [r3, eS, a6, a7]; grind
  have hmainZ : H * h ^ δ = lead b ^ δ * h := by
    apply Rat.intCast_inj.mp
    rw [Rat.intCast_mul, Rat.intCast_mul, Rat.intCast_pow, Rat.intCast_pow]; exact hmain
  have hHne : H ≠ 0 := by
    intro q
    rw [q, Int.zero_mul] at hmainZ
    exact Int.mul_ne_zero (Int.pow_ne_zero hlb) h0 hmainZ.symm
  have hrr : rrH a b h = H := by
    unfold rrH
    rw [hδ]
    by_cases q : δ > 0
    · rw [if_pos q]
      obtain ⟨δ', rfl⟩ : ∃ δ', δ = δ' + 1 := ⟨_, (Nat.sub_add_cancel q).symm⟩
      rw [Nat.add_sub_cancel]
      have : lead b ^ (δ' + 1) = h ^ δ' * H := by
        have e1 : h * (lead b ^ (δ' + 1)) = h * (h ^ δ' * H) := by
          rw [Int.mul_comm h (lead b ^ (δ' + 1)), ← hmainZ, Int.pow_succ]; grind
        exact Int.eq_of_mul_eq_mul_left h0 e1
      rw [this, Int.mul_fdiv_cancel_left _ (Int.pow_ne_zero h0)]
    · rw [if_neg q]
      have : δ = 0 := Nat.eq_zero_of_not_pos q
      subst this
      simpa using hmainZ.symm
  rw [hrr]
  refine ⟨hHne, hmain, ?_⟩
  rw [hH]
  have a4 := sgn_sq (Xp n (T + δ) (e + 1))
  have a6 := sq1 (rrSg_or (a := a) (b := b) hs)
  have a7 := sq1 hs0
  generalize sgn (Xp n (T + δ) (e + 1)) = X' at *
  generalize (rrSg a b sg : Rat) = s at *
  generalize (s0 : Rat) = t at *
  have : s * t * (s * t * X' * (D : Rat)) * X' = (s * s) * (t * t) * (X' * X') * D := by grind
  rw [this, a4, a6, a7]; grind
theorem PI.next {n aq f s0 a b g h sg T e va vb} (p : PI n aq f s0 a b g h sg T e va vb) (hs0 : s0 = 1 ∨ s0 = -1) (hn : n ≤ 6) (hF : ∀ l c, l < n → c < n → Wz 100 (pw n aq f l c)) (hb2 : 2 ≤ b.length) :
    ∃ vR, PI n aq f s0 b (rrNext a b g h) (lead b) (rrH a b h) (rrSg a b sg) (T + (a.length - b.length)) (e + 1) vb vR ∧ (rrNext a b g h).length < b.length := by
  have hb : b ≠ [] := by rintro rfl; simp at hb2
  obtain ⟨hH0, hHe, hDT⟩ := p.nextH hs0 hF hb
  obtain ⟨lT, lab, la2, lda, ldb, ra, rb, sa, sb, tb, hg, h0, hs, hD, za, zb⟩ := p
  obtain ⟨δ, hab⟩ : ∃ δ, a.length = b.length + δ := ⟨_, (Nat.add_sub_cancel' lab).symm⟩
  have hδ : a.length - b.length = δ := by rw [hab, Nat.add_sub_cancel_left]
  have hTb : T + δ + b.length = n + 1 := by
    rw [hab] at lT
    rw [← lT, Nat.add_comm (b.length + δ), Nat.add_assoc T, Nat.add_comm δ]
  have hn0 : 0 < n := by
    clear hδ hab hTb lab hb2
    omega
  have hT' : T + δ < n := Nat.le_of_succ_le_succ (Nat.le_trans (Nat.add_le_add_left hb2 (T + δ)) (Nat.le_of_eq hTb))
  have hcT : ∀ c, n - (T + δ) ≤ c → b.length ≤ c + 1 := fun c hc => by
    clear hab hδ lT lab la2 hb2
    omega
  rw [hδ] at sa hHe hDT ⊢
  clear lT lab la2
  have hlb := ldb hb
  obtain ⟨vR, r1, r2, r3, r4, r5⟩ := prem_rep (n := n) (T := T) (δ := δ) hn0 hb hlb hTb hab ra rb sa sb
  have hk0 : g * h ^ δ ≠ 0 := Int.mul_ne_zero (by rw [hg]; exact lda) (Int.pow_ne_zero h0)
  -- the rest's coefficients
  have hw : ∀ c, ∃ w : Int, cf (prem a b) c = g * h ^ δ * w ∧ Sz 64 w := by
    intro c
    by_cases hc : c < n
    · have er := E_rel r1 (T := T + δ) (Nat.le_of_lt hT') (Nat.succ_le_succ (Nat.le_of_lt hT')) hc (fun c hc => cfq_ge (Nat.le_of_lt_succ (Nat.lt_of_lt_of_le r4 (hcT c hc)))) r2
      rw [r3, hDT, tb] at er
      obtain ⟨E, hE, hEb⟩ : Wz (fac (T + δ + 1) * 100 ^ (T + δ + 1)) (El n (pw n aq f) (T + δ) c) := Wz.dt (B := 100) fun i j hi hj => hF _ _ (Nat.lt_of_lt_of_le hi hT') (by
        split
        · exact hc
        · clear hab hδ hTb hb2 r4
          omega)
      rw [hE] at er
      refine ⟨-(sgi e * sgi (T + δ) * rrSg a b sg * s0 * sgi (Xp n (T + δ) (e + 1)) * E), ?_, ?_⟩
      · apply Rat.intCast_inj.mp
        have hHq := q0 hH0
        have a1 := sgn_sq e
        have a2 := sgn_sq (T + δ)
        have a3 := sgn_sq (Xp n (T + δ) (e + 1))
        have a6 := sq1 (rrSg_or (a := a) (b := b) hs)
        have a7 := sq1 hs0
        rw [Rat.intCast_mul, Rat.intCast_mul, Rat.intCast_pow, Rat.intCast_neg, Rat.intCast_mul, Rat.intCast_mul, Rat.intCast_mul, Rat.intCast_mul, Rat.intCast_mul, sgi_eq, sgi_eq, sgi_eq, hg]
        show cfq (prem a b) c = _
        generalize cfq (prem a b) c = R at *
        generalize (rrH a b h : Rat) = H at *
        generalize sgn e = E1 at *
        generalize sgn (T + δ) = E2 at *
        generalize sgn (Xp n (T + δ) (e + 1)) = E3 at *
        generalize (rrSg a b sg : Rat) = s at *
        generalize (s0 : Rat) = t at *
        generalize (h : Rat) ^ δ = hp at *
        generalize (lead b : Rat) ^ δ = lp at *
        generalize (h : Rat) = hq at *
        generalize (E : Rat) = Eq at *
        generalize (lead a : Rat) = la at *
        have e1 : -la * (E1 * hq) * lp * Eq = -la * E1 * (H * hp) * Eq := by rw [hHe]; grind
        rw [e1] at er
        have e2 : H * (R - la * hp * -(E1 * E2 * s * t * E3 * Eq)) = 0 := by
          have : H * R = -(E1 * E2 * s * t * E3 * (la * (H * hp) * Eq)) := by
            have x1 : E2 * s * t * E3 * (E2 * R * (s * t * H * E3)) = (E2 * E2) * (s * s) * (t * t) * (E3 * E3) * (H * R) := by grind
            rw [a2, a3, a6, a7, ← er] at x1
            grind
          grind
        rcases Rat.mul_eq_zero.mp e2 with q | q
        · exact absurd q hHq
        · grind
      · have s1 : ∀ k, (sgi k).natAbs = 1 := by
          intro k
          induction k with
          | zero => rfl
          | succ k ih => show (- sgi k).natAbs = 1; rw [Int.natAbs_neg]; exact ih
        have s2 : ∀ x : Int, x = 1 ∨ x = -1 → x.natAbs = 1 := by rintro x (rfl | rfl) <;> rfl
        unfold Sz
        rw [Int.natAbs_neg, Int.natAbs_mul, Int.natAbs_mul, Int.natAbs_mul, Int.natAbs_mul, Int.natAbs_mul, s1, s1, s1, s2 _ hs0, s2 _ (rrSg_or hs)]
        exact Nat.lt_of_le_of_lt (by simpa using hEb) (natFac (T + δ + 1) (Nat.le_trans hT' hn))
    · refine ⟨0, ?_, Sz.zero⟩
      rw [cf_ge (Nat.le_trans (Nat.le_of_lt_succ (Nat.lt_of_lt_of_le r4 (hcT c (Nat.le_trans (Nat.sub_le _ _) (Nat.le_of_not_lt hc))))) (Nat.le_refl _)), Int.mul_zero]
  have hk : ((g * h ^ δ : Int) : Rat) ≠ 0 := q0 hk0
  have hnx : ∀ c, cf (rrNext a b g h) c * (g * h ^ δ) = cf (prem a b) c ∧ Sz 64 (cf (rrNext a b g h) c) := by
    intro c
    obtain ⟨w, h1, h2⟩ := hw c
    unfold rrNext
    rw [cf_map (f := fun x => x.fdiv (g * h ^ (a.length - b.length))) (Int.zero_fdiv _), hδ, h1, Int.mul_fdiv_cancel_left _ hk0]
    exact ⟨Int.mul_comm _ _, h2⟩
  have hlen : (rrNext a b g h).length = (prem a b).length := by unfold rrNext; simp
  refine ⟨fun l => vR l * ((g * h ^ δ : Int) : Rat)⁻¹, ⟨by rw [Nat.add_comm]; exact hTb, Nat.le_of_lt (by rw [hlen]; exact r4), hb2, hlb, fun hne => ?_, rb, (r1.scale _).congr (fun c => ?_) (fun _ => rfl), fun l hl => sb l (Nat.lt_of_lt_of_le (Nat.lt_of_le_of_lt (Nat.le_add_right T δ) (Nat.lt_add_of_pos_right (Nat.sub_pos_of_lt (by rw [hlen]; exact r4)))) hl), fun l hl => ?_, ?_, rfl, hH0, rrSg_or hs, hDT, zb, SzL.of_cf fun i => (hnx i).2⟩, by rw [hlen]; exact r4⟩
  · rw [lead_cf, hlen]
    have h1 := (hnx ((prem a b).length - 1)).1
    rw [← lead_cf] at h1
    intro q
    rw [q, Int.zero_mul] at h1
    refine r5 (fun q2 => hne ?_) h1.symm
    apply List.eq_nil_of_length_eq_zero
    rw [hlen, q2]; rfl
  · unfold cfq
    rw [← (hnx c).1, Rat.intCast_mul]
    generalize ((g * h ^ δ : Int) : Rat) = k at *
    grind
  · show vR l * _ = 0
    rw [r2 l hl]; grind
  · show vR (T + δ) * _ = _
    rw [r3, tb]
    have e1 : ((g * h ^ δ : Int) : Rat) = (lead a : Rat) * (h : Rat) ^ δ := by rw [Rat.intCast_mul, Rat.intCast_pow, hg]
    rw [e1] at hk ⊢
    have e2 : -(lead a : Rat) * (sgn e * (h : Rat)) * (lead b : Rat) ^ δ = -(lead a : Rat) * sgn e * ((rrH a b h : Rat) * (h : Rat) ^ δ) := by rw [hHe]; grind
    rw [e2]
    show _ = - sgn e * _
    generalize (h : Rat) ^ δ = hp at *
    generalize (lead a : Rat) = la at *
    grind
theorem Wz.sz' {B : Nat} {x : Int} {y : Rat} (h : Wz B y) (hB : B < 2 ^ 64) (e : y = (x : Rat)) : Sz 64 x := by rw [e] at h; exact h.sz hB
theorem PI.szh {n aq f s0 a b g h sg T e va vb} (p : PI n aq f s0 a b g h sg T e va vb) (hs0 : s0 = 1 ∨ s0 = -1) (hn : n ≤ 6) (hF : ∀ l c, l < n → c < n → Wz 100 (pw n aq f l c)) : Sz 64 h := by
  obtain ⟨lT, lab, la2, lda, ldb, ra, rb, sa, sb, tb, hg, h0, hs, hD, za, zb⟩ := p
  obtain ⟨D, hDl, hDb⟩ : Wz _ (Dl n (pw n aq f) T) := Wz.dt (B := 100) fun i j hi hj => hF _ _ (by (clear hs0 hn lab lda ldb hg h0 hs hj; lia)) (by lia)
  have := natFac T (by lia)
  rw [hDl] at hD
  have e1 : D = sg * s0 * h * sgi (Xp n T e) := by
    apply Rat.intCast_inj.mp
    rw [hD, Rat.intCast_mul, Rat.intCast_mul, Rat.intCast_mul, sgi_eq]
  have s1 : ∀ k, (sgi k).natAbs = 1 := by
    intro k
    induction k with
    | zero => rfl
    | succ k ih => show (- sgi k).natAbs = 1; rw [Int.natAbs_neg]; exact ih
  have s2 : ∀ x : Int, x = 1 ∨ x = -1 → x.natAbs = 1 := by rintro x (rfl | rfl) <;> rfl
  rw [e1, Int.natAbs_mul, Int.natAbs_mul, Int.natAbs_mul, s1, s2 _ hs0, s2 _ hs] at hDb
  unfold Sz; lia
theorem rr_ok {n aq f} {s0 : Int} (hs0 : s0 = 1 ∨ s0 = -1) (hn : n ≤ 6) (hF : ∀ l c, l < n → c < n → Wz 100 (pw n aq f l c)) : ∀ (m : Nat) (a b : List Int) (g h sg : Int) (T e : Nat) (va vb : Nat → Rat), b.length < m → PI n aq f s0 a b g h sg T e va vb →
    rrOk m a b g h sg ∧ (rr m a b g h sg : Rat) = (s0 : Rat) * dt n (pw n aq f)
  | 0, a, b, g, h, sg, T, e, va, vb, hm, p => by lia
  | m + 1, a, b, g, h, sg, T, e, va, vb, hm, p => by
    have hsz := p.szh hs0 hn hF
    have pp := p
    obtain ⟨lT, lab, la2, lda, ldb, ra, rb, sa, sb, tb, hg, h0, hs, hD, za, zb⟩ := p
    have hane : a ≠ [] := by rintro rfl; simp at la2
    have hssg : Sz 64 sg := by rcases hs with rfl | rfl <;> (unfold Sz; decide)
    have hsg : Sz 64 g := by rw [hg]; exact za.lead
    have base : ∀ P : Prop, (2 ≤ b.length → P) → (a ≠ [] ∧ a.length ≤ 10 ∧ b.length ≤ a.length ∧ SzL 64 a ∧ SzL 64 b ∧ Sz 64 g ∧ Sz 64 h ∧ g ≠ 0 ∧ h ≠ 0 ∧ Sz 64 sg ∧ (b ≠ [] → lead b ≠ 0) ∧ (2 ≤ b.length → P)) := fun P hP =>
      ⟨hane, by lia, lab, za, zb, hsg, hsz, by rw [hg]; exact lda, h0, hssg, ldb, hP⟩
    by_cases hb2 : 2 ≤ b.length
    · obtain ⟨vR, p2, hlt⟩ := pp.next hs0 hn hF hb2
      obtain ⟨o1, o2⟩ := rr_ok hs0 hn hF m _ _ _ _ _ _ _ _ _ (by lia) p2
      refine ⟨base _ fun _ => o1, ?_⟩
      rw [rr, if_neg (by lia)]; exact o2
    · refine ⟨base _ fun q => absurd q hb2, ?_⟩
      rw [rr, if_pos (by lia)]
      by_cases hb : b = []
      · rw [if_pos hb]
        have := D_null rb (T := T) (by lia) (by lia) (fun c => by rw [hb]; exact cfq_ge (by simp)) sb (by
          rw [tb]
          intro q
          have a1 := sgn_sq e
          have : (h : Rat) = sgn e * (sgn e * h) := by rw [← Rat.mul_assoc, a1, Rat.one_mul]
          rw [q] at this
          exact q0 h0 (by rw [this]; grind))
        rw [this]; show (0 : Rat) = _; grind
      · rw [if_neg hb]
        have hbp : 0 < b.length := List.length_pos_iff.mpr hb
        obtain ⟨hH0, hHe, hDT⟩ := pp.nextH hs0 hF hb
        have hsg' : rrSg a b sg = sg := by unfold rrSg; rw [if_neg (by lia)]
        have hX : Xp n (T + (a.length - b.length)) (e + 1) % 2 = 0 := by
          rw [show T + (a.length - b.length) = n by lia]
          unfold Xp
          rcases Nat.mod_two_eq_zero_or_one n with h1 | h1 <;> rcases Nat.mod_two_eq_zero_or_one e with h2 | h2 <;> simp [Nat.add_mod, Nat.mul_mod, h1, h2]
        rw [sgn_even hX, hsg', show T + (a.length - b.length) = n by lia, Dl_full] at hDT
        have e1 : (if a.length - 1 > 0 then (cf b 0 ^ (a.length - 1)).fdiv (h ^ (a.length - 2)) else 1) = rrH a b h := by
          unfold rrH
          rw [if_pos (by (clear hs0 hn hm lT lab lda ldb hg h0 hs hb2 hbp hH0 hsg' hX; omega)), if_pos (by (clear hs0 hn hm lT lab lda ldb hg h0 hs hH0 hsg' hX; lia)), show a.length - b.length = a.length - 1 by (clear hs0 hn hm lT lab lda ldb hg h0 hs hH0 hsg' hX; lia), show a.length - 1 - 1 = a.length - 2 by lia]
          have : lead b = cf b 0 := by rw [lead_cf, show b.length - 1 = 0 by lia]
          rw [this]
        rw [e1, hDT, Rat.intCast_mul]
        have a7 := sq1 hs0
        generalize (s0 : Rat) = t at *
        have : t * ((sg : Rat) * t * (rrH a b h : Rat) * 1) = (t * t) * ((sg : Rat) * (rrH a b h : Rat)) := by grind
        rw [this, a7, Rat.one_mul]
end Mine
namespace Mine
theorem rr_monic {n m : Nat} {a b : List Int} {sg : Int} (hs : sg = 1 ∨ sg = -1) (h1 : 1 ≤ n) (hn : n ≤ 6) (ha : a.length = n + 1) (hl : cf a n = 1) (hb : b.length ≤ n + 1) (hlb : b ≠ [] → lead b ≠ 0) (za : SzL 64 a) (zb : SzL 64 b)
    (hF : ∀ l c, l < n → c < n → Wz 100 (pw n (cfq a) (red n (cfq a) (cfq b)) l c)) (hm : b.length < m) :
    rrOk m a b 1 1 sg ∧ (rr m a b 1 1 sg : Rat) = (sg : Rat) * dt n (pw n (cfq a) (red n (cfq a) (cfq b))) := by
  have hla : lead a = 1 := by rw [lead_cf, show a.length - 1 = n by lia, hl]
  have hq : cfq a n = 1 := by unfold cfq; rw [hl]; rfl
  refine rr_ok hs hn hF m a b 1 1 sg 0 0 (fun _ => 0) (fun l => if l = 0 then 1 else 0) hm ⟨by omega, by lia, by lia, by rw [hla]; decide, hlb, fun c hc => ?_, fun c hc => ?_, fun _ _ => rfl, fun l hl => if_neg (by (exact Nat.ne_of_gt (by assumption))), ?_, hla.symm, by decide, hs, ?_, za, zb⟩
  · rw [sm_zero fun _ _ => by (exact Rat.zero_mul _)]
    unfold red; rw [hq]; grind
  · rw [sm_single (t := 0) (by (exact Nat.succ_pos _)) (fun l _ hne => by rw [if_neg hne]; (exact Rat.zero_mul _)), if_pos rfl]
    show _ = 1 * red n (cfq a) (cfq b) c
    rw [Rat.one_mul]
  · show (1 : Rat) = 1 * ((1 : Int) : Rat)
    rw [Rat.one_mul]; rfl
  · have hX : Xp n 0 0 = 0 := by unfold Xp; lia
    rw [hX]
    show (1 : Rat) = (sg : Rat) * sg * ((1 : Int) : Rat) * 1
    rw [sq1 hs, show ((1 : Int) : Rat) = 1 from rfl]; (simp)
theorem zc_fold : ∀ (l : List Int) (g : Int), (l.foldl (fun (g n : Int) => (Int.gcd g n : Int)) g) ∣ g ∧ ∀ x ∈ l, (l.foldl (fun (g n : Int) => (Int.gcd g n : Int)) g) ∣ x
  | [], g => ⟨Int.dvd_refl _, fun x h => by cases h⟩
  | y :: l, g => by
    obtain ⟨h1, h2⟩ := zc_fold l (Int.gcd g y : Int)
    simp only [List.foldl_cons]
    refine ⟨Int.dvd_trans h1 (Int.gcd_dvd_left ..), fun x hx => ?_⟩
    rcases List.mem_cons.mp hx with rfl | hx
    · exact Int.dvd_trans h1 (Int.gcd_dvd_right ..)
    · exact h2 x hx
theorem zcont_dvd {l : List Int} {x : Int} (h : x ∈ l) : zcont l ∣ x := (zc_fold l 0).2 x h
theorem zcont_cf {l : List Int} (i : Nat) : zcont l ∣ cf l i := by
  unfold cf
  rw [List.getD_eq_getElem?_getD]
  cases q : l[i]? with
  | none => exact ⟨0, by simp⟩
  | some x => exact zcont_dvd (List.mem_of_getElem? q)
theorem zcont_ne {l : List Int} (h : l ≠ []) (hl : lead l ≠ 0) : zcont l ≠ 0 := by
  intro q
  have := zcont_cf (l := l) (l.length - 1)
  rw [← lead_cf, q] at this
  exact hl (Int.zero_dvd.mp this)
noncomputable def prim (l : List Int) : List Int := l.map fun x => x.fdiv (zcont l)
theorem prim_cf {l : List Int} (h : l ≠ []) (hl : lead l ≠ 0) (i : Nat) : cf l i = zcont l * cf (prim l) i := by
  unfold prim
  rw [cf_map (f := fun x => x.fdiv (zcont l)) (Int.zero_fdiv _)]
  obtain ⟨w, hw⟩ := zcont_cf (l := l) i
  rw [hw, Int.mul_fdiv_cancel_left _ (zcont_ne h hl)]
theorem prim_abs {l : List Int} (h : l ≠ []) (hl : lead l ≠ 0) (i : Nat) : (cf (prim l) i).natAbs ≤ (cf l i).natAbs := by
  rw [prim_cf h hl, Int.natAbs_mul]
  have := zcont_ne h hl
  have : 1 ≤ (zcont l).natAbs := by lia
  exact Nat.le_mul_of_pos_left _ this
theorem zcont_abs {l : List Int} (h : l ≠ []) (hl : lead l ≠ 0) : (zcont l).natAbs ≤ (lead l).natAbs := by
  rw [lead_cf]
  have h1 := zcont_cf (l := l) (l.length - 1)
  rw [← lead_cf] at h1 ⊢
  have := Int.natAbs_dvd_natAbs.mpr h1
  exact Nat.le_of_dvd (by (clear h1 this; lia)) this
theorem prim_len {l : List Int} : (prim l).length = l.length := by simp [prim]
theorem prim_lead {l : List Int} (h : l ≠ []) (hl : lead l ≠ 0) : lead (prim l) ≠ 0 := by
  intro q
  rw [lead_cf, prim_len] at q
  apply hl
  rw [lead_cf, prim_cf h hl, q]; simp
theorem prim_one {l : List Int} (h : zcont l = 1) : prim l = l := by
  unfold prim
  rw [h]
  simp
theorem cf_fl {n : Nat} {r : Nat → Int} (i : Nat) : cf (fl n r) i = if i < n then r i else 0 := by
  unfold fl
  rw [cf_ztr]
  unfold cf
  rw [List.getD_eq_getElem?_getD, List.getElem?_map]
  by_cases h : i < n
  · rw [List.getElem?_range h, if_pos h]; rfl
  · rw [List.getElem?_eq_none (by simpa using h), if_neg h]; rfl
theorem fl_len {n : Nat} {r : Nat → Int} : (fl n r).length ≤ n := by
  have := ztr_len ((List.range n).map r)
  simpa [fl] using this
theorem fl_lead {n : Nat} {r : Nat → Int} (h : fl n r ≠ []) : lead (fl n r) ≠ 0 := lead_ztr h
theorem fl_nil {n : Nat} {r : Nat → Int} (h : fl n r = []) : ∀ i, i < n → r i = 0 := fun i hi => by
  have := cf_fl (n := n) (r := r) i
  rw [h, if_pos hi, cf_nil] at this; exact this.symm
theorem fl_abs {n : Nat} {r : Nat → Int} {B : Nat} (h : ∀ i, (r i).natAbs ≤ B) (i : Nat) : (cf (fl n r) i).natAbs ≤ B := by
  rw [cf_fl]; split
  · exact h i
  · simp
theorem SzL.of_abs {l : List Int} {B : Nat} (h : ∀ i, (Mine.cf l i).natAbs ≤ B) (hB : B < 2 ^ 64) : SzL 64 l := SzL.of_cf fun i => by
  unfold Sz; have := h i; (exact Nat.lt_of_le_of_lt (by assumption) (by assumption))
theorem wh_facts {n : Nat} (h : okN n) : (wh n).length = n + 1 ∧ cf (wh n) 0 = -1 ∧ cf (wh n) n = 1 ∧ (∀ c, 0 < c → c < n → cf (wh n) c = 0) ∧ zcont (wh n) = 1 ∧ SzL 64 (wh n) := by
  have key : (wh n).length = n + 1 ∧ cf (wh n) 0 = -1 ∧ cf (wh n) n = 1 ∧ (∀ c, c < n → 0 < c → cf (wh n) c = 0) ∧ zcont (wh n) = 1 ∧ SzL 64 (wh n) := by
    rcases h with rfl | rfl | rfl | rfl <;> exact ⟨by decide, by decide, by decide, by decide, by decide, by unfold SzL Sz; decide⟩
  obtain ⟨a, b, c, d, e, f⟩ := key
  exact ⟨a, b, c, fun i h1 h2 => d i h2 h1, e, f⟩
theorem circ_rows {n : Nat} (h : okN n) {f : Nat → Rat} : ∀ l, l ≤ n → ∀ c, c < n → pw n (cfq (wh n)) f l c = if l ≤ c then f (c - l) else f (n + c - l)
  | 0, _, c, hc => by rw [if_pos (by (exact Nat.zero_le _))]; rfl
  | l + 1, hl, c, hc => by
    obtain ⟨_, h0, h1, h2, _⟩ := wh_facts h
    replace h0 : cfq (wh n) 0 = -1 := by unfold cfq; rw [h0]; rfl
    replace h2 : ∀ c, 0 < c → c < n → cfq (wh n) c = 0 := fun c x y => by unfold cfq; rw [h2 c x y]; rfl
    show shf (pw n (cfq (wh n)) f l) c - pw n (cfq (wh n)) f l (n - 1) * cfq (wh n) c = _
    unfold shf
    by_cases q : c = 0
    · subst q
      rw [if_pos rfl, h0, circ_rows h l (by (exact Nat.le_of_lt (by assumption))) (n - 1) (by (exact Nat.sub_lt (by assumption) Nat.one_pos)), if_pos (by lia), if_neg (by (exact Nat.not_lt_zero _)), show n + 0 - (l + 1) = n - 1 - l by lia]
      grind
    · rw [if_neg q, h2 c (by (exact Nat.pos_of_ne_zero (by assumption))) hc, circ_rows h l (by (exact Nat.le_of_lt (by assumption))) (c - 1) (by (exact Nat.lt_of_le_of_lt (Nat.sub_le _ _) (by assumption)))]
      have e : ∀ x y : Rat, x - y * 0 = x := fun x y => by grind
      rw [e]
      by_cases q2 : l + 1 ≤ c
      · rw [if_pos q2, if_pos (by lia)]; congr 1; lia
      · rw [if_neg q2, if_neg (by (clear hl hc h1; lia))]; congr 1; lia
theorem okN.le {n} (h : okN n) : 2 ≤ n ∧ n ≤ 6 := by rcases h with rfl | rfl | rfl | rfl <;> lia
theorem res_wh {n : Nat} (h : okN n) {r : Nat → Int} (hr : ∀ i, (r i).natAbs ≤ 3) {num : Int} (hnum : dt n (castM (circ n r 1)) = (num : Rat)) : ∃ m, rsOk m (wh n) (fl n r) ∧ resP m (wh n) (fl n r) = num := by
  obtain ⟨wl, w0, w1, w2, w3, w4⟩ := wh_facts h
  have hn := h.le
  have hfl := fl_len (n := n) (r := r)
  by_cases hf : fl n r = []
  · refine ⟨0, ⟨by lia, by lia, fun _ q => absurd hf q⟩, ?_⟩
    unfold resP
    rw [if_pos (.inr hf)]
    apply Rat.intCast_inj.mp
    rw [← hnum]
    refine (dt_zrow (t := 0) (by lia) fun j hj => ?_).symm
    unfold castM circ
    rw [if_pos (by (exact Nat.zero_le _)), fl_nil hf _ (by omega)]; rfl
  · have hl := fl_lead hf
    have hpl := prim_lead hf hl
    have hab : ∀ i, (cf (prim (fl n r)) i).natAbs ≤ 3 := fun i => Nat.le_trans (prim_abs hf hl i) (fl_abs hr i)
    have hrow : ∀ l c, l < n → c < n → pw n (cfq (wh n)) (red n (cfq (wh n)) (cfq (prim (fl n r)))) l c = castM (circ n (fun i => cf (prim (fl n r)) i) 1) l c := fun l c hl' hc => by
      have hz : cfq (prim (fl n r)) n = 0 := cfq_ge (by rw [prim_len]; omega)
      rw [circ_rows h l (by (exact Nat.le_of_lt (by assumption))) c hc]
      unfold castM circ
      split
      · rw [red_low hz]; rfl
      · rw [red_low hz, Int.one_mul]; rfl
    obtain ⟨o1, o2⟩ := rr_monic (n := n) (m := 10) (a := wh n) (b := prim (fl n r)) (sg := 1) (.inl rfl) (by lia) hn.2 wl w1 (by rw [prim_len]; (exact Nat.le_succ_of_le (by assumption))) (fun _ => hpl) w4 (.of_abs hab (by decide)) (fun l c hl' hc => by
      rw [hrow l c hl' hc]
      refine ⟨circ n (fun i => cf (prim (fl n r)) i) 1 l c, rfl, ?_⟩
      unfold circ
      split
      · exact Nat.le_trans (hab _) (by decide)
      · rw [Int.one_mul]; exact Nat.le_trans (hab _) (by decide)) (by rw [prim_len]; lia)
    have hwhne : wh n ≠ [] := by intro q; rw [q] at wl; simp at wl
    have hres : resP 10 (wh n) (fl n r) = zcont (fl n r) ^ n * rr 10 (wh n) (prim (fl n r)) 1 1 1 := by
      unfold resP resq
      rw [if_neg (fun q => q.elim hwhne hf), if_neg (by lia), w3, wl]
      have : (wh n).map (fun x => x.fdiv 1) = wh n := by simp
      rw [this, Int.one_pow, Int.one_mul, show n + 1 - 1 = n by (exact Nat.add_sub_cancel ..)]
      rfl
    have hc64 : (zcont (fl n r)).natAbs ≤ 3 := by
      have := zcont_abs hf hl
      have h2 := fl_abs (n := n) hr ((fl n r).length - 1)
      rw [← lead_cf] at h2; (exact Nat.le_trans (by assumption) (by assumption))
    have hdt : dt n (castM (circ n r 1)) = (zcont (fl n r) : Rat) ^ n * dt n (castM (circ n (fun i => cf (prim (fl n r)) i) 1)) := by
      rw [dt_tri (M := castM (circ n r 1)) (A := castM (circ n (fun i => cf (prim (fl n r)) i) 1)) (d := fun _ => (zcont (fl n r) : Rat)) (fun i hi => ⟨fun _ => 0, fun j hj => by
        rw [sm_zero fun _ _ => by (exact Rat.zero_mul _)]
        have key : ∀ t, t < n → (r t : Rat) = (zcont (fl n r) : Rat) * (cf (prim (fl n r)) t : Rat) := fun t ht => by
          rw [← Rat.intCast_mul, ← prim_cf hf hl, cf_fl, if_pos ht]
        unfold castM circ
        split
        · rw [key _ (by (exact Nat.lt_of_le_of_lt (Nat.sub_le _ _) (by assumption)))]; (exact (Rat.add_zero _).symm)
        · rw [Int.one_mul, Int.one_mul, key _ (by (clear wl w0 w1 w3 hn hfl hl hpl hres hc64 hj; omega))]; (exact (Rat.add_zero _).symm)⟩)]
      congr 1
      have : ∀ (k : Nat) (x : Rat), pr k (fun _ => x) = x ^ k := by
        intro k x
        induction k with
        | zero => rw [Rat.pow_zero]; rfl
        | succ k ih => rw [pr, ih, Rat.pow_succ]
      exact this _ _
    refine ⟨10, ⟨by lia, by lia, fun _ _ => ?_⟩, ?_⟩
    · rw [if_neg (by lia)]
      refine ⟨by rw [w3]; decide, zcont_ne hf hl, by rw [w3]; unfold Sz; decide, by unfold Sz; (exact Nat.lt_of_le_of_lt (by assumption) (Nat.le_of_ble_eq_true rfl)), ?_, ?_⟩
      · rw [w3]
        have : (wh n).map (fun x => x.fdiv 1) = wh n := by simp
        rw [this]; exact o1
      · rw [w3]
        have : (wh n).map (fun x => x.fdiv 1) = wh n := by simp
        rw [this]
        show Sz 1000 (rr 10 (wh n) (prim (fl n r)) 1 1 1)
        have hw : Wz (fac n * 100 ^ n) (rr 10 (wh n) (prim (fl n r)) 1 1 1 : Rat) := by
          rw [o2, show ((1 : Int) : Rat) = 1 from rfl, Rat.one_mul]
          refine Wz.dt fun l c hl' hc => ?_
          rw [hrow l c hl' hc]
          refine ⟨circ n (fun i => cf (prim (fl n r)) i) 1 l c, rfl, ?_⟩
          unfold circ
          split
          · exact Nat.le_trans (hab _) (by decide)
          · rw [Int.one_mul]; exact Nat.le_trans (hab _) (by decide)
        exact (hw.sz (natFac n hn.2)).mono (by decide)
    · rw [hres]
      apply Rat.intCast_inj.mp
      rw [← hnum, hdt, Rat.intCast_mul, o2, Rat.intCast_pow, show ((1 : Int) : Rat) = 1 from rfl, Rat.one_mul]
      congr 1
      exact dt_congr fun i j hi hj => hrow i j hi hj
end Mine
namespace Mine
noncomputable def xoT (o c : Nat) : List Int :=
  if o = 1 then (if c = 0 then [1] else []) else if o = 2 then (if c = 0 then [1, -1] else []) else if o = 3 then (if c = 0 then [1, 0, -1] else if c = 1 then [0, 1, -1] else [])
  else if o = 4 then (if c = 0 then [1, 0, -1, 0] else if c = 1 then [0, 1, 0, -1] else []) else (if c = 0 then [1, 0, -1, -1, 0, 1] else if c = 1 then [0, 1, 1, 0, -1, -1] else [])
noncomputable def xo (o i c : Nat) : Int := (xoT o c).getD (i % (xoT o c).length) 0
noncomputable def okO (o : Nat) : Prop := o = 1 ∨ o = 2 ∨ o = 3 ∨ o = 4 ∨ o = 6
noncomputable def ph (o c : Nat) (l : Nat → Int) : Int := l 0 * xo o 0 c + l 1 * xo o 1 c + l 2 * xo o 2 c + l 3 * xo o 3 c + l 4 * xo o 4 c + l 5 * xo o 5 c
theorem xo_abs {o : Nat} (h : okO o) : ∀ c, c < 2 → ∀ i, i < 6 → (xo o i c).natAbs ≤ 1 := by
  rcases h with rfl | rfl | rfl | rfl | rfl <;> decide
theorem ph_abs {o c : Nat} {l : Nat → Int} {B : Nat} (ho : okO o) (hc : c < 2) (h : ∀ i, (l i).natAbs ≤ B) : (ph o c l).natAbs ≤ 6 * B := by
  have hm : ∀ i, i < 6 → (l i * xo o i c).natAbs ≤ B := fun i hi => by
    rw [Int.natAbs_mul]
    exact Nat.le_trans (Nat.mul_le_mul (h i) (xo_abs ho c hc i hi)) (Nat.le_of_eq (Nat.mul_one B))
  unfold ph
  have h0 := hm 0 (by decide)
  have h1 := hm 1 (by decide)
  have h2 := hm 2 (by decide)
  have h3 := hm 3 (by decide)
  have h4 := hm 4 (by decide)
  have h5 := hm 5 (by decide)
  clear hm h hc ho
  omega
theorem ph_zero {o : Nat} (h : okO o) : ∀ k, k < 8 - (cycl o).length - 1 → ∀ c, c < 2 → ph o c (fun i => if i < k then 0 else cf (cycl o) (i - k)) = 0 := by
  rcases h with rfl | rfl | rfl | rfl | rfl <;> decide
theorem cyc_facts {o : Nat} (h : okO o) : 2 ≤ (cycl o).length ∧ (cycl o).length ≤ 3 ∧ lead (cycl o) = 1 ∧ cf (cycl o) ((cycl o).length - 1) = 1 ∧ zcont (cycl o) = 1 ∧ SzL 64 (cycl o) := by
  rcases h with rfl | rfl | rfl | rfl | rfl <;> exact ⟨by decide, by decide, by decide, by decide, by decide, by unfold SzL Sz; decide⟩
theorem ph_step {o : Nat} (h : okO o) {rs : List Int} (h1 : (cycl o).length ≤ rs.length) (h2 : rs.length ≤ 6) {c : Nat} (hc : c < 2) : ph o c (cf (psStep (cycl o) rs)) = ph o c (cf rs) := by
  obtain ⟨f1, f2, f3, f4, _⟩ := cyc_facts h
  have e : ∀ i, cf (psStep (cycl o) rs) i = cf rs i - (if i < rs.length - (cycl o).length then 0 else cf (cycl o) (i - (rs.length - (cycl o).length))) * lead rs := fun i => by
    rw [cf_psStep, f3, Int.mul_one]
    split
    · rw [Int.zero_mul]
    · rfl
  have z := ph_zero h (rs.length - (cycl o).length) (by (clear h1 hc f1 f3 f4; omega)) c hc
  unfold ph at z ⊢
  rw [e, e, e, e, e, e]
  simp only [] at z
  generalize (if 0 < rs.length - (cycl o).length then 0 else cf (cycl o) (0 - (rs.length - (cycl o).length))) = t0 at *
  generalize (if 1 < rs.length - (cycl o).length then 0 else cf (cycl o) (1 - (rs.length - (cycl o).length))) = t1 at *
  generalize (if 2 < rs.length - (cycl o).length then 0 else cf (cycl o) (2 - (rs.length - (cycl o).length))) = t2 at *
  generalize (if 3 < rs.length - (cycl o).length then 0 else cf (cycl o) (3 - (rs.length - (cycl o).length))) = t3 at *
  generalize (if 4 < rs.length - (cycl o).length then 0 else cf (cycl o) (4 - (rs.length - (cycl o).length))) = t4 at *
  generalize (if 5 < rs.length - (cycl o).length then 0 else cf (cycl o) (5 - (rs.length - (cycl o).length))) = t5 at *
  generalize xo o 0 c = x0 at *
  generalize xo o 1 c = x1 at *
  generalize xo o 2 c = x2 at *
  generalize xo o 3 c = x3 at *
  generalize xo o 4 c = x4 at *
  generalize xo o 5 c = x5 at *
  grind
theorem ph_prem {o : Nat} (h : okO o) {a : List Int} (h1 : (cycl o).length ≤ a.length) (h2 : a.length ≤ 6) (hl : a ≠ [] → lead a ≠ 0) : (∀ c, c < 2 → ph o c (cf (prem a (cycl o))) = ph o c (cf a)) ∧ (prem a (cycl o)).length < (cycl o).length ∧ (prem a (cycl o) ≠ [] → lead (prem a (cycl o)) ≠ 0) := by
  obtain ⟨f1, f2, f3, f4, _⟩ := cyc_facts h
  have hne : cycl o ≠ [] := by intro q; rw [q] at f1; simp at f1
  have key : ∀ (cnt : Nat) (rs : List Int), rs.length < (cycl o).length + cnt → rs.length ≤ 6 → (rs ≠ [] → lead rs ≠ 0) → (∀ c, c < 2 → ph o c (cf (psR (cycl o) cnt rs).1) = ph o c (cf rs)) ∧ (psR (cycl o) cnt rs).1.length < (cycl o).length ∧ ((psR (cycl o) cnt rs).1 ≠ [] → lead (psR (cycl o) cnt rs).1 ≠ 0) := by
    intro cnt
    induction cnt with
    | zero => intro rs q1 q2 q3; exact ⟨fun _ _ => rfl, q1, q3⟩
    | succ cnt ih =>
      intro rs q1 q2 q3
      unfold psR
      by_cases q : (cycl o).length ≤ rs.length
      · rw [if_pos q]
        have hlt := psStep_lt hne (by rw [f3]; decide) q
        obtain ⟨i1, i2, i3⟩ := ih (psStep (cycl o) rs) (by lia) (by lia) (fun hne => by unfold psStep zsub zadd at hne ⊢; exact lead_ztr hne)
        exact ⟨fun c hc => by rw [i1 c hc, ph_step h q q2 hc], i2, i3⟩
      · rw [if_neg q]; exact ⟨fun _ _ => rfl, by show rs.length < _; (exact Nat.lt_of_not_le (by assumption)), q3⟩
  unfold prem
  rw [f3, Int.one_pow]
  have e : ∀ l : List Int, zscale l 1 = l := fun l => by unfold zscale; rw [if_pos (by decide)]; simp
  rw [e]
  exact key _ _ (by (clear h2 hl f1 f2 f3 f4; omega)) h2 hl
noncomputable def nrm (o : Nat) (x y : Int) : Int := if o = 1 ∨ o = 2 then x else if o = 3 then x * x - x * y + y * y else if o = 4 then x * x + y * y else x * x + x * y + y * y
theorem rows2 (x y : Int) (hx : x.natAbs ≤ 1) (hy : y.natAbs ≤ 1) (b : List Int) (p q : Int) (hp : p = cf b 0 - cf b 2 * x) (hq : q = cf b 1 - cf b 2 * y) :
    dt 2 (pw 2 (cfq [x, y, 1]) (red 2 (cfq [x, y, 1]) (cfq b))) = ((p * (p - q * y) + q * q * x : Int) : Rat) ∧
    (∀ l c, l < 2 → c < 2 → ∃ z : Int, pw 2 (cfq [x, y, 1]) (red 2 (cfq [x, y, 1]) (cfq b)) l c = (z : Rat) ∧ z.natAbs ≤ p.natAbs + q.natAbs) := by
  have k0 : cfq [x, y, 1] 0 = x := rfl
  have k1 : cfq [x, y, 1] 1 = y := rfl
  have e00 : pw 2 (cfq [x, y, 1]) (red 2 (cfq [x, y, 1]) (cfq b)) 0 0 = (p : Rat) := by
    show cfq b 0 - cfq b 2 * cfq [x, y, 1] 0 = _
    rw [hp, Rat.intCast_sub, Rat.intCast_mul, k0]; rfl
  have e01 : pw 2 (cfq [x, y, 1]) (red 2 (cfq [x, y, 1]) (cfq b)) 0 1 = (q : Rat) := by
    show cfq b 1 - cfq b 2 * cfq [x, y, 1] 1 = _
    rw [hq, Rat.intCast_sub, Rat.intCast_mul, k1]; rfl
  have e10 : pw 2 (cfq [x, y, 1]) (red 2 (cfq [x, y, 1]) (cfq b)) 1 0 = ((-(q * x) : Int) : Rat) := by
    show 0 - pw 2 (cfq [x, y, 1]) (red 2 (cfq [x, y, 1]) (cfq b)) 0 1 * cfq [x, y, 1] 0 = _
    rw [e01, k0, Rat.intCast_neg, Rat.intCast_mul]; grind
  have e11 : pw 2 (cfq [x, y, 1]) (red 2 (cfq [x, y, 1]) (cfq b)) 1 1 = ((p - q * y : Int) : Rat) := by
    show pw 2 (cfq [x, y, 1]) (red 2 (cfq [x, y, 1]) (cfq b)) 0 0 - pw 2 (cfq [x, y, 1]) (red 2 (cfq [x, y, 1]) (cfq b)) 0 1 * cfq [x, y, 1] 1 = _
    rw [e00, e01, k1, Rat.intCast_sub, Rat.intCast_mul]
  have hqx : (q * x).natAbs ≤ q.natAbs := by rw [Int.natAbs_mul]; exact Nat.le_trans (Nat.mul_le_mul_left _ hx) (by lia)
  have hqy : (q * y).natAbs ≤ q.natAbs := by rw [Int.natAbs_mul]; exact Nat.le_trans (Nat.mul_le_mul_left _ hy) (by lia)
  refine ⟨?_, fun l c hl hc => ?_⟩
  · generalize pw 2 (cfq [x, y, 1]) (red 2 (cfq [x, y, 1]) (cfq b)) = F at *
    have : dt 2 F = F 0 0 * F 1 1 - F 1 0 * F 0 1 := by
      simp [dt, sm, sgn, del]; grind
    rw [this, e00, e01, e10, e11]
    simp only [Rat.intCast_sub, Rat.intCast_mul, Rat.intCast_add, Rat.intCast_neg]
    grind
  · have h1 : l = 0 ∨ l = 1 := by lia
    have h2 : c = 0 ∨ c = 1 := by lia
    rcases h1 with rfl | rfl <;> rcases h2 with rfl | rfl
    · exact ⟨_, e00, by (exact Nat.le_add_right _ _)⟩
    · exact ⟨_, e01, by (exact Nat.le_add_left _ _)⟩
    · exact ⟨_, e10, by rw [Int.natAbs_neg]; lia⟩
    · exact ⟨_, e11, by (clear hx hy hq hqx hl hc; omega)⟩
theorem ph_eq {o c : Nat} {l : Nat → Int} (a0 a1 a2 : Int) (h3 : l 3 = 0) (h4 : l 4 = 0) (h5 : l 5 = 0) (e0 : xo o 0 c = a0) (e1 : xo o 1 c = a1) (e2 : xo o 2 c = a2) : ph o c l = l 0 * a0 + l 1 * a1 + l 2 * a2 := by
  unfold ph; rw [h3, h4, h5, e0, e1, e2]; simp
theorem nrm_rows {o : Nat} (h : okO o) {b : List Int} (hb : b.length ≤ (cycl o).length) : dt ((cycl o).length - 1) (pw ((cycl o).length - 1) (cfq (cycl o)) (red ((cycl o).length - 1) (cfq (cycl o)) (cfq b))) = (nrm o (ph o 0 (cf b)) (ph o 1 (cf b)) : Rat) ∧
    (∀ l c, l < (cycl o).length - 1 → c < (cycl o).length - 1 → ∃ z : Int, pw ((cycl o).length - 1) (cfq (cycl o)) (red ((cycl o).length - 1) (cfq (cycl o)) (cfq b)) l c = (z : Rat) ∧ z.natAbs ≤ (ph o 0 (cf b)).natAbs + (ph o 1 (cf b)).natAbs) := by
  have hl := cyc_facts h
  have z3 : cf b 3 = 0 := cf_ge (Nat.le_trans hb hl.2.1)
  have z4 : cf b 4 = 0 := cf_ge (Nat.le_trans hb (Nat.le_succ_of_le hl.2.1))
  have z5 : cf b 5 = 0 := cf_ge (Nat.le_trans hb (Nat.le_succ_of_le (Nat.le_succ_of_le hl.2.1)))
  have one : ∀ x y : Int, dt 1 (pw 1 (cfq [x, 1]) (red 1 (cfq [x, 1]) (cfq b))) = ((cf b 0 - cf b 1 * x : Int) : Rat) ∧ ∀ l c, l < 1 → c < 1 → pw 1 (cfq [x, 1]) (red 1 (cfq [x, 1]) (cfq b)) l c = ((cf b 0 - cf b 1 * x : Int) : Rat) := fun x y => by
    have r : pw 1 (cfq [x, 1]) (red 1 (cfq [x, 1]) (cfq b)) 0 0 = ((cf b 0 - cf b 1 * x : Int) : Rat) := by
      show cfq b 0 - cfq b 1 * (x : Rat) = _
      rw [Rat.intCast_sub, Rat.intCast_mul]; rfl
    refine ⟨?_, fun l c hl hc => by
      have e1 : l = 0 := Nat.lt_one_iff.mp hl
      have e2 : c = 0 := Nat.lt_one_iff.mp hc
      rw [e1, e2]; exact r⟩
    show (0 : Rat) + 1 * pw 1 (cfq [x, 1]) (red 1 (cfq [x, 1]) (cfq b)) 0 0 * 1 = _
    rw [r]; grind
  rcases h with rfl | rfl | rfl | rfl | rfl
  · have z2 : cf b 2 = 0 := cf_ge hb
    obtain ⟨g1, g2⟩ := one (-1) 0
    have e : cf b 0 - cf b 1 * (-1) = ph 1 0 (cf b) := by rw [ph_eq 1 1 1 z3 z4 z5 rfl rfl rfl, z2]; simp
    rw [e] at g1 g2
    exact ⟨g1, fun l c hl hc => ⟨_, g2 l c hl hc, Nat.le_add_right _ _⟩⟩
  · have z2 : cf b 2 = 0 := cf_ge hb
    obtain ⟨g1, g2⟩ := one 1 0
    have e : cf b 0 - cf b 1 * 1 = ph 2 0 (cf b) := by rw [ph_eq 1 (-1) 1 z3 z4 z5 rfl rfl rfl, z2]; simp; (exact Int.sub_eq_add_neg)
    rw [e] at g1 g2
    exact ⟨g1, fun l c hl hc => ⟨_, g2 l c hl hc, Nat.le_add_right _ _⟩⟩
  · obtain ⟨g1, g2⟩ := rows2 1 1 (by decide) (by decide) b (ph 3 0 (cf b)) (ph 3 1 (cf b)) (by rw [ph_eq 1 0 (-1) z3 z4 z5 rfl rfl rfl]; simp; (exact Int.sub_eq_add_neg)) (by rw [ph_eq 0 1 (-1) z3 z4 z5 rfl rfl rfl]; simp; (exact Int.sub_eq_add_neg))
    refine ⟨?_, g2⟩
    refine Eq.trans g1 ?_
    congr 1
    show _ = ph 3 0 (cf b) * ph 3 0 (cf b) - ph 3 0 (cf b) * ph 3 1 (cf b) + ph 3 1 (cf b) * ph 3 1 (cf b)
    grind
  · obtain ⟨g1, g2⟩ := rows2 1 0 (by decide) (by decide) b (ph 4 0 (cf b)) (ph 4 1 (cf b)) (by rw [ph_eq 1 0 (-1) z3 z4 z5 rfl rfl rfl]; simp; (exact Int.sub_eq_add_neg)) (by rw [ph_eq 0 1 0 z3 z4 z5 rfl rfl rfl]; simp)
    refine ⟨?_, g2⟩
    refine Eq.trans g1 ?_
    congr 1
    show _ = ph 4 0 (cf b) * ph 4 0 (cf b) + ph 4 1 (cf b) * ph 4 1 (cf b)
    (simp)
  · obtain ⟨g1, g2⟩ := rows2 1 (-1) (by decide) (by decide) b (ph 6 0 (cf b)) (ph 6 1 (cf b)) (by rw [ph_eq 1 0 (-1) z3 z4 z5 rfl rfl rfl]; simp; (exact Int.sub_eq_add_neg)) (by rw [ph_eq 0 1 1 z3 z4 z5 rfl rfl rfl]; simp)
    refine ⟨?_, g2⟩
    refine Eq.trans g1 ?_
    congr 1
    show _ = ph 6 0 (cf b) * ph 6 0 (cf b) + ph 6 0 (cf b) * ph 6 1 (cf b) + ph 6 1 (cf b) * ph 6 1 (cf b)
    grind
end Mine
namespace Mine
open Lean.Grind PyProof.Rows
abbrev CE := CommRing.Expr
theorem ce_eq (ctx : CommRing.Context Int) (a b : CE) (h : (a.toPoly_k.beq' b.toPoly_k) = true) : a.denote ctx = b.denote ctx := by
  rw [← CommRing.Expr.denote_toPoly ctx a, ← CommRing.Expr.denote_toPoly ctx b, ← CommRing.Expr.toPoly_k_eq_toPoly, ← CommRing.Expr.toPoly_k_eq_toPoly]
  rw [show a.toPoly_k = b.toPoly_k by simpa using h]
noncomputable def smI : Nat → (Nat → Int) → Int
  | 0, _ => 0
  | n + 1, f => smI n f + f n
theorem smI_cast {f : Nat → Int} : ∀ n, (smI n f : Rat) = sm n (fun i => (f i : Rat))
  | 0 => rfl
  | n + 1 => by rw [smI, sm, Rat.intCast_add, smI_cast n]
theorem smI_congr : ∀ {n : Nat} {f g : Nat → Int}, (∀ i, i < n → f i = g i) → smI n f = smI n g
  | 0, _, _, _ => rfl
  | n + 1, f, g, h => by rw [smI, smI, smI_congr (n := n) fun i hi => h i (Nat.lt_succ_of_lt hi), h n (Nat.lt_succ_self n)]
theorem smI_list (f : Nat → Int) : ∀ n, ((List.range n).map f).sum = smI n f
  | 0 => rfl
  | n + 1 => by rw [List.range_succ, List.map_append, List.sum_append, smI_list f n, smI]; simp
noncomputable def smE : Nat → (Nat → CE) → CE
  | 0, _ => .num 0
  | n + 1, f => .add (smE n f) (f n)
noncomputable def sgE : Nat → CE
  | 0 => .num 1
  | n + 1 => .neg (sgE n)
noncomputable def delE (t : Nat) (M : Nat → Nat → CE) : Nat → Nat → CE := fun i j => M (if i < t then i else i + 1) (j + 1)
noncomputable def dtE : Nat → (Nat → Nat → CE) → CE
  | 0, _ => .num 1
  | n + 1, M => smE (n + 1) fun i => .mul (.mul (sgE i) (M i 0)) (dtE n (delE i M))
theorem smE_den (ctx : CommRing.Context Int) (f : Nat → CE) : ∀ n, (smE n f).denote ctx = smI n (fun i => (f i).denote ctx)
  | 0 => rfl
  | n + 1 => by
    show (smE n f).denote ctx + (f n).denote ctx = _
    rw [smE_den ctx f n]; rfl
theorem sgE_den (ctx : CommRing.Context Int) : ∀ n, (((sgE n).denote ctx : Int) : Rat) = sgn n
  | 0 => rfl
  | n + 1 => by
    show ((- (sgE n).denote ctx : Int) : Rat) = - sgn n
    rw [Rat.intCast_neg, sgE_den ctx n]
theorem dtE_den (ctx : CommRing.Context Int) : ∀ (n : Nat) (M : Nat → Nat → CE), dt n (fun i j => (((M i j).denote ctx : Int) : Rat)) = (((dtE n M).denote ctx : Int) : Rat)
  | 0, _ => rfl
  | n + 1, M => by
    rw [dtE, smE_den, smI_cast, dt]
    refine sm_congr fun i _ => ?_
    show _ = (((sgE i).denote ctx * (M i 0).denote ctx * (dtE n (delE i M)).denote ctx : Int) : Rat)
    rw [Rat.intCast_mul, Rat.intCast_mul, sgE_den, ← dtE_den ctx n]; rfl
noncomputable def ctxI (r q : Nat → Int) : CommRing.Context Int := .branch 6 (.branch 3 (.branch 1 (.leaf (r 0)) (.branch 2 (.leaf (r 1)) (.leaf (r 2)))) (.branch 4 (.leaf (r 3)) (.branch 5 (.leaf (r 4)) (.leaf (r 5)))))
  (.branch 9 (.branch 7 (.leaf (q 0)) (.branch 8 (.leaf (q 1)) (.leaf (q 2)))) (.branch 10 (.leaf (q 3)) (.branch 11 (.leaf (q 4)) (.leaf (q 5)))))
theorem cas6 {P : Nat → Prop} (h0 : P 0) (h1 : P 1) (h2 : P 2) (h3 : P 3) (h4 : P 4) (h5 : P 5) : ∀ i, i < 6 → P i
  | 0, _ => h0
  | 1, _ => h1
  | 2, _ => h2
  | 3, _ => h3
  | 4, _ => h4
  | 5, _ => h5
  | n + 6, h => absurd h (by lia)
theorem var_r {r q : Nat → Int} : ∀ i : Nat, i < 6 → (CommRing.Expr.var i).denote (ctxI r q) = r i := cas6 rfl rfl rfl rfl rfl rfl
theorem var_q {r q : Nat → Int} : ∀ i : Nat, i < 6 → (CommRing.Expr.var (6 + i)).denote (ctxI r q) = q i := cas6 rfl rfl rfl rfl rfl rfl
noncomputable def rt (n c l : Nat) : Nat := if l ≤ c then c - l else n + c - l
theorem rt_lt' {n c l} (hc : c < n) (hl : l ≤ n) : rt n c l < n ∨ (l = 0 ∧ rt n c l = c) := by unfold rt; split <;> omega
theorem rt_lt {n c l} (hc : c < n) (hl : l ≤ n) : rt n c l < n := by unfold rt; split <;> omega
theorem circ_r {n : Nat} {r : Nat → Int} {l c : Nat} : circ n r 1 l c = r (rt n c l) := by
  unfold circ rt
  split
  · rfl
  · rw [Int.one_mul]
theorem okN.all {P : Nat → Prop} (h2 : P 2) (h3 : P 3) (h4 : P 4) (h6 : P 6) {n : Nat} (h : okN n) : P n := by
  rcases h with rfl | rfl | rfl | rfl <;> assumption
theorem rt_comm {n} (h : okN n) : ∀ c, c < n → ∀ l, l < n + 1 → ∀ i, i < n + 1 → rt n (rt n c l) i = rt n (rt n c i) l :=
  okN.all (P := fun n => ∀ c, c < n → ∀ l, l < n + 1 → ∀ i, i < n + 1 → rt n (rt n c l) i = rt n (rt n c i) l) (by decide +kernel) (by decide +kernel) (by decide +kernel) (by decide +kernel) h
theorem cyc_sm {n : Nat} {r q : Nat → Int} {s : Nat} : ∀ t, cycP n r q t s = smI t (fun t => r t * q ((s + n - t) % n))
  | 0 => rfl
  | t + 1 => by rw [cycP, smI, cyc_sm t]
noncomputable def cycE (n s : Nat) : CE := smE n fun t => .mul (.var t) (.var (6 + (s + n - t) % n))
theorem cycE_den {n : Nat} (h : okN n) {r q : Nat → Int} {s : Nat} : cyc n r q s = (cycE n s).denote (ctxI r q) := by
  have hn := h.le
  unfold cyc cycE
  rw [cyc_sm, smE_den]
  refine smI_congr fun t ht => ?_
  show _ = (CommRing.Expr.var t).denote (ctxI r q) * (CommRing.Expr.var (6 + (s + n - t) % n)).denote (ctxI r q)
  have := Nat.mod_lt (s + n - t) (by lia : n > 0)
  rw [var_r t (by lia), var_q ((s + n - t) % n) (by lia)]
noncomputable def mulE (n i j : Nat) : CE := smE n fun t => .mul (.var (rt n t i)) (.var (6 + rt n j t))
theorem comm_ok {n : Nat} (h : okN n) (r q : Nat → Int) (i j : Nat) (hi : i < n) (hj : j < n) : mulF n (circ n r 1) (circ n q 1) i j = circ n (cyc n r q) 1 i j := by
  have hn := h.le
  have e : mulF n (circ n r 1) (circ n q 1) i j = (mulE n i j).denote (ctxI r q) := by
    unfold mulF mulE
    rw [smI_list, smE_den]
    refine smI_congr fun t ht => ?_
    show _ = (CommRing.Expr.var (rt n t i)).denote (ctxI r q) * (CommRing.Expr.var (6 + rt n j t)).denote (ctxI r q)
    have h1 := rt_lt (l := i) ht (by (exact Nat.le_of_lt (by assumption)))
    have h2 := rt_lt (l := t) hj (by (exact Nat.le_of_lt (by assumption)))
    rw [var_r (rt n t i) (by lia), var_q (rt n j t) (by lia), circ_r, circ_r]
  rw [e, circ_r, cycE_den h]
  refine ce_eq _ _ _ ?_
  exact okN.all (P := fun n => ∀ i, i < n → ∀ j, j < n → ((mulE n i j).toPoly_k.beq' (cycE n (rt n j i)).toPoly_k) = true) (by decide +kernel) (by decide +kernel) (by decide +kernel) (by decide +kernel) h i hi j hj
theorem cyc_rows {n : Nat} (h : okN n) (r t : Nat → Int) (j : Nat) (hj : j < n) : cyc n r t j = smI n (fun l => t l * circ n r 1 l j) := by
  have hn := h.le
  have e : smI n (fun l => t l * circ n r 1 l j) = (smE n fun l => CommRing.Expr.mul (.var (6 + l)) (.var (rt n j l))).denote (ctxI r t) := by
    rw [smE_den]
    refine smI_congr fun l hl => ?_
    show _ = (CommRing.Expr.var (6 + l)).denote (ctxI r t) * (CommRing.Expr.var (rt n j l)).denote (ctxI r t)
    have h1 := rt_lt (l := l) hj (by (exact Nat.le_of_lt (by assumption)))
    rw [var_r (rt n j l) (by lia), var_q l (by lia), circ_r]
  rw [e, cycE_den h]
  refine ce_eq _ _ _ ?_
  exact okN.all (P := fun n => ∀ j, j < n → ((cycE n j).toPoly_k.beq' (smE n fun l => CommRing.Expr.mul (.var (6 + l)) (.var (rt n j l))).toPoly_k) = true) (by decide +kernel) (by decide +kernel) (by decide +kernel) (by decide +kernel) h j hj
noncomputable def atvE (n o s : Nat) : CE := ((List.range (n / o)).map fun j => CommRing.Expr.var (s + j * o)).foldr .add (.num 0)
noncomputable def formE (n o : Nat) : CE :=
  let a := atvE n o
  if o = 1 then a 0 else if o = 2 then .sub (a 0) (a 1) else if o = 3 then .add (.sub (.mul (.sub (a 0) (a 2)) (.sub (a 0) (a 2))) (.mul (.sub (a 0) (a 2)) (.sub (a 1) (a 2)))) (.mul (.sub (a 1) (a 2)) (.sub (a 1) (a 2)))
  else if o = 4 then .add (.pow (.sub (a 0) (a 2)) 2) (.pow (.sub (a 1) (a 3)) 2)
  else .add (.add (.pow (.sub (.sub (a 0) (a 3)) (.sub (a 2) (a 5))) 2) (.mul (.sub (.sub (a 0) (a 3)) (.sub (a 2) (a 5))) (.add (.sub (a 1) (a 4)) (.sub (a 2) (a 5))))) (.pow (.add (.sub (a 1) (a 4)) (.sub (a 2) (a 5))) 2)
noncomputable def prodE (n : Nat) : List Nat → CE → CE
  | [], p => p
  | o :: os, p => prodE n os (if n % o = 0 then .mul p (formE n o) else p)
theorem prodE_den {n : Nat} (h : okN n) {r q : Nat → Int} : prodF n r [1, 2, 3, 4, 6] 1 = (prodE n [1, 2, 3, 4, 6] (.num 1)).denote (ctxI r q) :=
  okN.all (P := fun n => prodF n r [1, 2, 3, 4, 6] 1 = (prodE n [1, 2, 3, 4, 6] (.num 1)).denote (ctxI r q)) (by kernel_rfl!) (by kernel_rfl!) (by kernel_rfl!) (by kernel_rfl!) h
noncomputable def cirE (n i j : Nat) : CE := .var (rt n j i)
theorem dt_circ {n : Nat} (h : okN n) (r : Nat → Int) : dt n (castM (circ n r 1)) = ((prodF n r [1, 2, 3, 4, 6] 1 : Int) : Rat) := by
  have hn := h.le
  have e : dt n (castM (circ n r 1)) = dt n (fun i j => (((cirE n i j).denote (ctxI r r) : Int) : Rat)) := dt_congr fun i j hi hj => by
    have h1 := rt_lt (l := i) hj (by (exact Nat.le_of_lt (by assumption)))
    unfold castM cirE
    rw [circ_r, var_r (rt n j i) (by lia)]
  rw [e, dtE_den, prodE_den h (q := r)]
  congr 1
  refine ce_eq _ _ _ ?_
  exact okN.all (P := fun n => ((dtE n (cirE n)).toPoly_k.beq' (prodE n [1, 2, 3, 4, 6] (.num 1)).toPoly_k) = true) (by decide +kernel) (by decide +kernel) (by decide +kernel) (by decide +kernel) h
noncomputable def plusE (m i j : Nat) : CE := .add (.var (rt m j i)) (.var (rt m j i + m))
noncomputable def lessE (m i j : Nat) : CE := if i ≤ j then .sub (.var (j - i)) (.var (j - i + m)) else .mul (.num (-1)) (.sub (.var (m + j - i)) (.var (m + j - i + m)))
theorem half_ok {n : Nat} (h : okN n) (h2 : n % 2 = 0) (r : Nat → Int) : dt (n / 2) (castM (circ (n / 2) (plusR n r) 1)) * dt (n / 2) (castM (circ (n / 2) (lessR n r) (-1))) = ((prodF n r [1, 2, 3, 4, 6] 1 : Int) : Rat) := by
  have hn := h.le
  have e1 : dt (n / 2) (castM (circ (n / 2) (plusR n r) 1)) = dt (n / 2) (fun i j => (((plusE (n / 2) i j).denote (ctxI r r) : Int) : Rat)) := dt_congr fun i j hi hj => by
    have h1 := rt_lt (l := i) hj (by (exact Nat.le_of_lt (by assumption)))
    show ((circ (n / 2) (plusR n r) 1 i j : Int) : Rat) = (((CommRing.Expr.var (rt (n / 2) j i)).denote (ctxI r r) + (CommRing.Expr.var (rt (n / 2) j i + n / 2)).denote (ctxI r r) : Int) : Rat)
    rw [circ_r, var_r (rt (n / 2) j i) (by lia), var_r (rt (n / 2) j i + n / 2) (by lia)]; rfl
  have e2 : dt (n / 2) (castM (circ (n / 2) (lessR n r) (-1))) = dt (n / 2) (fun i j => (((lessE (n / 2) i j).denote (ctxI r r) : Int) : Rat)) := dt_congr fun i j hi hj => by
    unfold castM circ lessE
    split
    · show ((lessR n r (j - i) : Int) : Rat) = (((CommRing.Expr.var (j - i)).denote (ctxI r r) - (CommRing.Expr.var (j - i + n / 2)).denote (ctxI r r) : Int) : Rat)
      rw [var_r (j - i) (by (clear hi; lia)), var_r (j - i + n / 2) (by (clear hi; lia))]; rfl
    · show (((-1) * lessR n r (n / 2 + j - i) : Int) : Rat) = (((-1) * ((CommRing.Expr.var (n / 2 + j - i)).denote (ctxI r r) - (CommRing.Expr.var (n / 2 + j - i + n / 2)).denote (ctxI r r)) : Int) : Rat)
      rw [var_r (n / 2 + j - i) (by omega), var_r (n / 2 + j - i + n / 2) (by (clear hi hj; omega))]; rfl
  rw [e1, e2, dtE_den, dtE_den, ← Rat.intCast_mul, prodE_den h (q := r)]
  congr 1
  show (CommRing.Expr.mul (dtE (n / 2) (plusE (n / 2))) (dtE (n / 2) (lessE (n / 2)))).denote (ctxI r r) = _
  refine ce_eq _ _ _ ?_
  exact okN.all (P := fun n => n % 2 = 0 → ((CommRing.Expr.mul (dtE (n / 2) (plusE (n / 2))) (dtE (n / 2) (lessE (n / 2)))).toPoly_k.beq' (prodE n [1, 2, 3, 4, 6] (.num 1)).toPoly_k) = true) (by decide +kernel) (by decide +kernel) (by decide +kernel) (by decide +kernel) h h2
noncomputable def phE (n o c : Nat) : CE :=
  let l := fun i => if i < n then CommRing.Expr.var i else .num 0
  .add (.add (.add (.add (.add (.mul (l 0) (.num (xo o 0 c))) (.mul (l 1) (.num (xo o 1 c)))) (.mul (l 2) (.num (xo o 2 c)))) (.mul (l 3) (.num (xo o 3 c)))) (.mul (l 4) (.num (xo o 4 c)))) (.mul (l 5) (.num (xo o 5 c)))
noncomputable def nrmE (o : Nat) (x y : CE) : CE := if o = 1 ∨ o = 2 then x else if o = 3 then .add (.sub (.mul x x) (.mul x y)) (.mul y y) else if o = 4 then .add (.mul x x) (.mul y y) else .add (.add (.mul x x) (.mul x y)) (.mul y y)
theorem form_nrm {n o : Nat} (hn : okN n) (ho : okO o) (hno : n % o = 0) {r : Nat → Int} : form n r o = nrm o (ph o 0 (cf (fl n r))) (ph o 1 (cf (fl n r))) := by
  have e : cf (fl n r) = fun i => if i < n then r i else 0 := funext fun i => cf_fl i
  rw [e]
  have key : ∀ o, okO o → form n r o = (formE n o).denote (ctxI r r) ∧ nrm o (ph o 0 fun i => if i < n then r i else 0) (ph o 1 fun i => if i < n then r i else 0) = (nrmE o (phE n o 0) (phE n o 1)).denote (ctxI r r) ∧ (n % o = 0 → ((formE n o).toPoly_k.beq' (nrmE o (phE n o 0) (phE n o 1)).toPoly_k) = true) := by
    refine okN.all (P := fun n => ∀ o, okO o → form n r o = (formE n o).denote (ctxI r r) ∧ nrm o (ph o 0 fun i => if i < n then r i else 0) (ph o 1 fun i => if i < n then r i else 0) = (nrmE o (phE n o 0) (phE n o 1)).denote (ctxI r r) ∧ (n % o = 0 → ((formE n o).toPoly_k.beq' (nrmE o (phE n o 0) (phE n o 1)).toPoly_k) = true)) ?_ ?_ ?_ ?_ hn
    all_goals
      intro o ho
      rcases ho with rfl | rfl | rfl | rfl | rfl <;> exact ⟨by kernel_rfl!, by kernel_rfl!, by decide +kernel⟩
  obtain ⟨e1, e2, e3⟩ := key o ho
  rw [e1, e2]
  exact ce_eq _ _ _ (e3 hno)
end Mine
namespace Mine
theorem ph_scale {o c : Nat} {k : Int} {u v : Nat → Int} (h : ∀ i, u i = k * v i) : ph o c u = k * ph o c v := by
  unfold ph; rw [h, h, h, h, h, h]; grind
theorem nrm_scale {o : Nat} (ho : okO o) {k x y : Int} : nrm o (k * x) (k * y) = k ^ ((cycl o).length - 1) * nrm o x y := by
  rcases ho with rfl | rfl | rfl | rfl | rfl
  · show k * x = k ^ 1 * x; grind
  · show k * x = k ^ 1 * x; grind
  · show k * x * (k * x) - k * x * (k * y) + k * y * (k * y) = k ^ 2 * (x * x - x * y + y * y); grind
  · show k * x * (k * x) + k * y * (k * y) = k ^ 2 * (x * x + y * y); grind
  · show k * x * (k * x) + k * x * (k * y) + k * y * (k * y) = k ^ 2 * (x * x + x * y + y * y); grind
theorem nrm_abs {o : Nat} {x y : Int} {B : Nat} (hx : x.natAbs ≤ B) (hy : y.natAbs ≤ B) (hB : B ≤ 1000) : (nrm o x y).natAbs < 2 ^ 64 := by
  have hm : ∀ a b : Int, a.natAbs ≤ B → b.natAbs ≤ B → (a * b).natAbs ≤ 1000000 := fun a b ha hb => by
    rw [Int.natAbs_mul]
    exact Nat.le_trans (Nat.mul_le_mul (Nat.le_trans ha hB) (Nat.le_trans hb hB)) (by decide)
  have key : ∀ a b c : Int, a.natAbs ≤ 1000000 → b.natAbs ≤ 1000000 → c.natAbs ≤ 1000000 → (a + b + c).natAbs < 2 ^ 64 := fun a b c ha hb hc =>
    Nat.lt_of_le_of_lt (Nat.le_trans (Int.natAbs_add_le _ _) (Nat.add_le_add (Nat.le_trans (Int.natAbs_add_le _ _) (Nat.add_le_add ha hb)) hc)) (by decide)
  have h1 := hm x x hx hx
  have h2 := hm x y hx hy
  have h3 := hm y y hy hy
  unfold nrm
  split
  · exact Nat.lt_of_le_of_lt (Nat.le_trans hx hB) (by decide)
  · split
    · rw [Int.sub_eq_add_neg]
      exact key _ _ _ h1 (by rw [Int.natAbs_neg]; exact h2) h3
    · split
      · have := key (x * x) 0 (y * y) h1 (by decide) h3
        rwa [Int.add_zero] at this
      · exact key _ _ _ h1 h2 h3
theorem ph_low {o : Nat} (ho : okO o) {l : Nat → Int} (hz : ∀ j, (cycl o).length - 1 ≤ j → l j = 0) : ∀ i, i < (cycl o).length - 1 → ph o i l = l i := by
  have z3 : l 3 = 0 := hz 3 (by rcases ho with rfl | rfl | rfl | rfl | rfl <;> decide)
  have z4 : l 4 = 0 := hz 4 (by rcases ho with rfl | rfl | rfl | rfl | rfl <;> decide)
  have z5 : l 5 = 0 := hz 5 (by rcases ho with rfl | rfl | rfl | rfl | rfl <;> decide)
  have z2 : l 2 = 0 := hz 2 (by rcases ho with rfl | rfl | rfl | rfl | rfl <;> decide)
  intro i hi
  rcases ho with rfl | rfl | rfl | rfl | rfl
  · have : i = 0 := Nat.lt_one_iff.mp hi
    rw [this, ph_eq 1 1 1 z3 z4 z5 rfl rfl rfl, z2, hz 1 (by decide)]; simp
  · have : i = 0 := Nat.lt_one_iff.mp hi
    rw [this, ph_eq 1 (-1) 1 z3 z4 z5 rfl rfl rfl, z2, hz 1 (by decide)]; simp
  · match i, hi with
    | 0, _ => rw [ph_eq 1 0 (-1) z3 z4 z5 rfl rfl rfl, z2]; simp
    | 1, _ => rw [ph_eq 0 1 (-1) z3 z4 z5 rfl rfl rfl, z2]; simp
  · match i, hi with
    | 0, _ => rw [ph_eq 1 0 (-1) z3 z4 z5 rfl rfl rfl, z2]; simp
    | 1, _ => rw [ph_eq 0 1 0 z3 z4 z5 rfl rfl rfl, z2]; simp
  · match i, hi with
    | 0, _ => rw [ph_eq 1 0 (-1) z3 z4 z5 rfl rfl rfl, z2]; simp
    | 1, _ => rw [ph_eq 0 1 1 z3 z4 z5 rfl rfl rfl, z2]; simp
theorem res_cyc {n o : Nat} (h : okN n) (ho : okO o) (hno : n % o = 0) {r : Nat → Int} (hr : ∀ i, (r i).natAbs ≤ 3) : ∃ m, rsOk m (cycl o) (fl n r) ∧ resP m (cycl o) (fl n r) = form n r o := by
  obtain ⟨f1, f2, f3, f4, f5, f6⟩ := cyc_facts ho
  have hcne : cycl o ≠ [] := by intro q; rw [q] at f1; simp at f1
  have hn := h.le
  have hfl := fl_len (n := n) (r := r)
  rw [form_nrm h ho hno]
  have hmap : (cycl o).map (fun x => x.fdiv (zcont (cycl o))) = cycl o := by rw [f5]; simp
  by_cases hf : fl n r = []
  · refine ⟨0, ⟨by (exact Nat.le_trans (by assumption) (Nat.le_of_ble_eq_true rfl)), by lia, fun _ q => absurd hf q⟩, ?_⟩
    unfold resP
    rw [if_pos (.inr hf), hf]
    have : ∀ c, ph o c (cf []) = 0 := fun c => by unfold ph; simp [cf_nil]
    rw [this, this]
    unfold nrm; simp
  · have hl := fl_lead hf
    have hpl := prim_lead hf hl
    have hpne : prim (fl n r) ≠ [] := by intro q; rw [q] at hpl; exact hpl rfl
    have hab : ∀ i, (cf (prim (fl n r)) i).natAbs ≤ 3 := fun i => Nat.le_trans (prim_abs hf hl i) (fl_abs hr i)
    have hc0 := zcont_ne hf hl
    have hc64 : (zcont (fl n r)).natAbs ≤ 3 := by
      have := zcont_abs hf hl
      have h2 := fl_abs (n := n) hr ((fl n r).length - 1)
      rw [← lead_cf] at h2; (exact Nat.le_trans (by assumption) (by assumption))
    have hs1 : Sz 64 (zcont (fl n r)) := by unfold Sz; (exact Nat.lt_of_le_of_lt (by assumption) (Nat.le_of_ble_eq_true rfl))
    have hs2 : Sz 64 (zcont (cycl o)) := by rw [f5]; unfold Sz; decide
    rw [ph_scale (fun i => prim_cf hf hl i), ph_scale (fun i => prim_cf hf hl i), nrm_scale ho]
    have hph : ∀ c, c < 2 → (ph o c (cf (prim (fl n r)))).natAbs ≤ 18 := fun c hc => ph_abs ho hc hab
    -- the loop from the monic polynomial
    have core : ∀ (m : Nat) (b : List Int), (∀ c, c < 2 → ph o c (cf b) = ph o c (cf (prim (fl n r)))) → b.length ≤ (cycl o).length → (b ≠ [] → lead b ≠ 0) → SzL 64 b → b.length < m →
        rrOk m (cycl o) b 1 1 1 ∧ rr m (cycl o) b 1 1 1 = nrm o (ph o 0 (cf (prim (fl n r)))) (ph o 1 (cf (prim (fl n r)))) := by
      intro m b hb1 hb2 hb3 hb4 hm
      obtain ⟨g1, g2⟩ := nrm_rows ho hb2
      obtain ⟨o1, o2⟩ := rr_monic (n := (cycl o).length - 1) (m := m) (a := cycl o) (b := b) (sg := 1) (.inl rfl) (by (exact Nat.sub_pos_of_lt (by assumption))) (by lia) (by lia) f4 (by lia) hb3 f6 hb4 (fun l c hl' hc => by
        obtain ⟨z, hz, hz2⟩ := g2 l c hl' hc
        refine ⟨z, hz, ?_⟩
        rw [hb1 0 (by decide), hb1 1 (by decide)] at hz2
        have := hph 0 (by decide)
        have := hph 1 (by decide)
        lia) hm
      refine ⟨o1, ?_⟩
      apply Rat.intCast_inj.mp
      rw [o2, g1, hb1 0 (by decide), hb1 1 (by decide), show ((1 : Int) : Rat) = 1 from rfl, Rat.one_mul]
    have hnab : Sz 1000 (nrm o (ph o 0 (cf (prim (fl n r)))) (ph o 1 (cf (prim (fl n r))))) := by
      have : Sz 64 (nrm o (ph o 0 (cf (prim (fl n r)))) (ph o 1 (cf (prim (fl n r))))) := nrm_abs (hph 0 (by decide)) (hph 1 (by decide)) (by decide)
      exact this.mono (by decide)
    by_cases q : (cycl o).length < (fl n r).length
    · obtain ⟨p1, p2, p3⟩ := ph_prem ho (a := prim (fl n r)) (by rw [prim_len]; (exact Nat.le_of_lt (by assumption))) (by rw [prim_len]; lia) (fun _ => hpl)
      have hR : ∀ i, (cf (prem (prim (fl n r)) (cycl o)) i).natAbs ≤ 18 := by
        intro i
        by_cases hi : i < (cycl o).length - 1
        · have hz : ∀ j, (cycl o).length - 1 ≤ j → cf (prem (prim (fl n r)) (cycl o)) j = 0 := fun j hj => cf_ge (by (clear hno f3 f4 f5 hn hfl hl hpl hc0 hc64 q p3 hi; lia))
          have hi2 : i < 2 := by lia
          have e : ph o i (cf (prem (prim (fl n r)) (cycl o))) = cf (prem (prim (fl n r)) (cycl o)) i := ph_low ho hz i hi
          rw [← e, p1 i hi2]; exact hph i hi2
        · rw [cf_ge (by lia)]; simp
      obtain ⟨o1, o2⟩ := core 10 (prem (prim (fl n r)) (cycl o)) p1 (by (exact Nat.le_of_lt (by assumption))) p3 (.of_abs hR (by decide)) (by (clear hno f3 f4 f5 hn hfl hl hpl hc0 hc64 q p3; lia))
      have s1 : rrNext (prim (fl n r)) (cycl o) 1 1 = prem (prim (fl n r)) (cycl o) := by
        unfold rrNext; rw [Int.one_pow]; simp
      have s2 : rrH (prim (fl n r)) (cycl o) 1 = 1 := by
        unfold rrH; rw [f3, Int.one_pow, Int.one_pow]; split <;> rfl
      have s3 : rrSg (prim (fl n r)) (cycl o) (rsSg (fl n r) (cycl o)) = 1 := by
        unfold rrSg rsSg; rw [prim_len]; split <;> rfl
      have hss : Sz 64 (rsSg (fl n r) (cycl o)) := by unfold rsSg; split <;> (unfold Sz; decide)
      have hrr : rr 11 (prim (fl n r)) (cycl o) 1 1 (rsSg (fl n r) (cycl o)) = nrm o (ph o 0 (cf (prim (fl n r)))) (ph o 1 (cf (prim (fl n r)))) := by
        rw [rr, if_neg (by (exact Nat.not_le_of_lt (by assumption))), s1, s2, s3, f3]; exact o2
      refine ⟨11, ⟨by (exact Nat.le_trans (by assumption) (Nat.le_of_ble_eq_true rfl)), by lia, fun _ _ => ?_⟩, ?_⟩
      · rw [if_pos q]
        refine ⟨hc0, by rw [f5]; decide, hs1, hs2, ?_, ?_⟩
        · rw [hmap]
          refine ⟨hpne, by rw [List.length_map]; lia, by rw [List.length_map]; (exact Nat.le_of_lt (by assumption)), .of_abs hab (by decide), f6, by unfold Sz; decide, by unfold Sz; decide, by decide, by decide, hss, fun _ => by rw [f3]; decide, fun _ => ?_⟩
          show rrOk 10 (cycl o) (rrNext (prim (fl n r)) (cycl o) 1 1) (lead (cycl o)) (rrH (prim (fl n r)) (cycl o) 1) (rrSg (prim (fl n r)) (cycl o) (rsSg (fl n r) (cycl o)))
          rw [s1, s2, s3, f3]; exact o1
        · rw [hmap]
          show Sz 1000 (rr 11 (prim (fl n r)) (cycl o) 1 1 (rsSg (fl n r) (cycl o)))
          rw [hrr]; exact hnab
      · unfold resP resq
        rw [if_neg (fun q => q.elim hcne hf), if_pos q, hmap, f5, Int.one_pow, Int.mul_one]
        show _ * rr 11 (prim (fl n r)) (cycl o) 1 1 (rsSg (fl n r) (cycl o)) = _
        rw [hrr]
    · obtain ⟨o1, o2⟩ := core 10 (prim (fl n r)) (fun _ _ => rfl) (by rw [prim_len]; (exact Nat.le_of_not_lt (by assumption))) (fun _ => hpl) (.of_abs hab (by decide)) (by rw [prim_len]; lia)
      refine ⟨10, ⟨by (exact Nat.le_trans (by assumption) (Nat.le_of_ble_eq_true rfl)), by lia, fun _ _ => ?_⟩, ?_⟩
      · rw [if_neg q]
        refine ⟨by rw [f5]; decide, hc0, hs2, hs1, ?_, ?_⟩
        · rw [hmap]; exact o1
        · rw [hmap]
          show Sz 1000 (rr 10 (cycl o) (prim (fl n r)) 1 1 1)
          rw [o2]; exact hnab
      · unfold resP resq
        rw [if_neg (fun q => q.elim hcne hf), if_neg q, hmap, f5, Int.one_pow, Int.one_mul]
        show _ * rr 10 (cycl o) (prim (fl n r)) 1 1 1 = _
        rw [o2]
end Mine
namespace Mine
theorem cq_nil {i} : cq [] i = 0 := by simp [cq]
theorem cq_ge {l : List Rat} {i} (h : l.length ≤ i) : cq l i = 0 := by simp [cq, List.getD_eq_getElem?_getD, List.getElem?_eq_none h]
theorem cq_c0 {x : Rat} {r : List Rat} : cq (x :: r) 0 = x := rfl
theorem cq_cs {x : Rat} {r : List Rat} {i : Nat} : cq (x :: r) (i + 1) = cq r i := rfl
theorem cq_qtr : ∀ (l : List Rat) (i : Nat), cq (qtr l) i = cq l i
  | [], i => rfl
  | x :: r, i => by
    have ih := cq_qtr r
    unfold qtr
    cases h : qtr r with
    | nil =>
      rw [h] at ih
      cases i with
      | zero =>
        by_cases h0 : x = 0
        · simp [h0, cq]
        · simp [h0, cq]
      | succ i =>
        have h1 := ih i
        rw [cq_nil] at h1
        rw [cq_cs, ← h1]
        by_cases h0 : x = 0
        · simp [h0, cq]
        · simp [h0, cq]
    | cons y t =>
      rw [h] at ih
      cases i with
      | zero => rfl
      | succ i => show cq (y :: t) i = _; rw [ih i]; rfl
theorem lq_qtr : ∀ {l : List Rat}, qtr l ≠ [] → lq (qtr l) ≠ 0
  | [], h => absurd rfl h
  | x :: r, h => by
    have ih := lq_qtr (l := r)
    unfold qtr at h ⊢
    cases ht : qtr r with
    | nil =>
      rw [ht] at h
      by_cases q : x = 0
      · simp [q] at h
      · simp [q, lq, cq]
    | cons y t =>
      rw [ht] at ih
      have := ih (by simp)
      simpa [lq, cq] using this
theorem cq_map {f : Rat → Rat} (h0 : f 0 = 0) {a : List Rat} {i} : cq (a.map f) i = f (cq a i) := getD_map0 h0
theorem cq_pad {a b : List Rat} {i} : cq (padQ a b) i = cq a i + cq b i := by
  unfold padQ
  by_cases h : i < max a.length b.length
  · have e : (List.range (max a.length b.length))[i]? = some i := by rw [List.getElem?_range h]
    unfold cq
    rw [List.getD_eq_getElem?_getD, List.getElem?_map, e]; rfl
  · rw [cq_ge (by simp; (exact Nat.le_of_not_lt (by assumption))), cq_ge (by lia), cq_ge (by lia)]; (exact (Rat.add_zero _).symm)
theorem cq_sub {a b : List Rat} {i} : cq (qsub a b) i = cq a i - cq b i := by
  unfold qsub qadd qneg
  rw [cq_qtr, cq_pad, cq_map (f := fun x => -x) (by (rfl))]; grind
theorem cq_scale {a : List Rat} {k i} : cq (qscale a k) i = cq a i * k := by
  unfold qscale
  split
  · rename_i h; rw [h, cq_nil]; (exact (Rat.mul_zero _).symm)
  · exact cq_map (f := fun x => x * k) (by (exact Rat.zero_mul _))
theorem cq_raise {a : List Rat} {n : Nat} : cq (qraise a n) = shk n (cq a) := by
  funext i
  unfold qraise shk
  split
  · rename_i h; subst h
    rw [cq_nil]; split
    · rfl
    · rw [cq_nil]
  · by_cases h : i < n
    · rw [if_pos h]; simp [cq, List.getD_eq_getElem?_getD, List.getElem?_append, h]
    · rw [if_neg h]; simp [cq, List.getD_eq_getElem?_getD, List.getElem?_append, h]
theorem cq_drop {l : List Rat} {i : Nat} : cq l.dropLast i = if i < l.length - 1 then cq l i else 0 := by
  unfold cq
  rw [List.getD_eq_getElem?_getD, List.getElem?_dropLast]
  split
  · rw [List.getD_eq_getElem?_getD]
  · rfl
theorem sub_len {a b : List Rat} : (qsub a b).length ≤ max a.length b.length := by
  unfold qsub qadd qneg
  have h1 := qtr_len (padQ a (b.map fun x => -x))
  have h2 : (padQ a (b.map fun x => -x)).length = max a.length b.length := by simp [padQ]
  lia
theorem sub_lq {a b : List Rat} (h : qsub a b ≠ []) : lq (qsub a b) ≠ 0 := by
  unfold qsub qadd at h ⊢; exact lq_qtr h
theorem cq_step {b rest : List Rat} (hb : b ≠ []) (hl : lq b ≠ 0) (h : b.length ≤ rest.length) (i : Nat) : cq (dvStep b rest) i = cq rest i - lq rest / lq b * shk (rest.length - b.length) (cq b) i := by
  have hbp : 0 < b.length := List.length_pos_iff.mpr hb
  unfold dvStep
  rw [cq_sub, cq_raise, cq_drop]
  unfold shk
  by_cases q : i < rest.length - b.length
  · rw [if_pos q, if_pos (by omega), if_pos q]; (simp)
  · rw [if_neg q, if_neg q, cq_scale, cq_drop]
    by_cases q2 : i < rest.length - 1
    · rw [if_pos q2, if_pos (by lia)]; grind
    · rw [if_neg q2, if_neg (by lia)]
      by_cases q3 : i = rest.length - 1
      · have e1 : cq rest i = lq rest := by rw [q3]; rfl
        have e2 : cq b (i - (rest.length - b.length)) = lq b := by
          unfold lq; congr 1; lia
        rw [e1, e2]; grind
      · rw [cq_ge (l := rest) (by lia), cq_ge (l := b) (by lia)]; (simp)
theorem step_lq {b rest : List Rat} (h : dvStep b rest ≠ []) : lq (dvStep b rest) ≠ 0 := by
  unfold dvStep at h ⊢; exact sub_lq h
theorem step_len {b rest : List Rat} (hb : b ≠ []) (h : b.length ≤ rest.length) : (dvStep b rest).length < rest.length := by
  have hbp : 0 < b.length := List.length_pos_iff.mpr hb
  unfold dvStep
  have h1 := sub_len (a := rest.dropLast) (b := qraise (qscale b.dropLast (lq rest / lq b)) (rest.length - b.length))
  have h2 := qraise_len (l := qscale b.dropLast (lq rest / lq b)) (n := rest.length - b.length)
  have h3 := qscale_len (l := b.dropLast) (x := lq rest / lq b)
  rw [List.length_dropLast] at h1 h3
  lia
theorem cq_set {l : List Rat} {k i : Nat} {x : Rat} (hk : k < l.length) : cq (l.set k x) i = if i = k then x else cq l i := by
  unfold cq
  rw [List.getD_eq_getElem?_getD, List.getElem?_set]
  by_cases q : k = i
  · subst q; simp [hk]
  · rw [if_neg q, if_neg (Ne.symm q), List.getD_eq_getElem?_getD]
noncomputable def cvn (N : Nat) (q v : Nat → Rat) (s : Nat) : Rat := sm N (fun i => q i * shk i v s)
theorem mulP_eq {a b : List Rat} : ∀ (t s : Nat), mulP a b t s = cvn t (cq a) (cq b) s
  | 0, _ => rfl
  | t + 1, s => by
    unfold cvn
    rw [mulP, mulP_eq t s, sm]
    unfold cvn
    congr 1
    unfold shk
    by_cases h : t ≤ s
    · rw [if_pos h, if_neg (by (exact Nat.not_lt_of_le (by assumption)))]
    · rw [if_neg h, if_pos (by (exact Nat.lt_of_not_le (by assumption)))]; (exact (Rat.mul_zero _).symm)
theorem cq_mul {a b : List Rat} (s : Nat) : cq (qmul a b) s = cvn a.length (cq a) (cq b) s := by
  unfold qmul
  split
  · rename_i h
    rw [cq_nil]
    unfold cvn
    refine (sm_zero fun i _ => ?_).symm
    rcases h with rfl | rfl
    · rw [cq_nil]; (exact Rat.zero_mul _)
    · unfold shk; split
      · (exact Rat.mul_zero _)
      · rw [cq_nil]; (exact Rat.mul_zero _)
  · by_cases h : s < a.length + b.length - 1
    · have : (List.range (a.length + b.length - 1))[s]? = some s := by rw [List.getElem?_range h]
      show List.getD _ s 0 = _
      rw [List.getD_eq_getElem?_getD, List.getElem?_map, this]
      exact mulP_eq _ _
    · rw [cq_ge (by simp; omega)]
      unfold cvn
      refine (sm_zero fun i hi => ?_).symm
      unfold shk
      split
      · (exact Rat.mul_zero _)
      · rw [cq_ge (l := b) (by omega)]; (exact Rat.mul_zero _)
theorem cvn_cut {N M : Nat} {q v : Nat → Rat} {s : Nat} (h : M ≤ N) (hq : ∀ i, M ≤ i → q i = 0) : cvn N q v s = cvn M q v s := by
  unfold cvn; exact sm_cut h fun l hl => by rw [hq l hl]; (exact Rat.zero_mul _)
theorem len_of {p : List Rat} {t : Nat} (hl : p ≠ [] → lq p ≠ 0) (h1 : cq p t ≠ 0) (h2 : ∀ l, t < l → cq p l = 0) : p.length = t + 1 := by
  have h3 : t < p.length := by
    apply Classical.byContradiction
    intro q; exact h1 (cq_ge (by (exact Nat.le_of_not_lt (by assumption))))
  have hne : p ≠ [] := by intro q; rw [q] at h3; simp at h3
  have h4 := hl hne
  unfold lq at h4
  apply Classical.byContradiction
  intro q
  exact h4 (h2 _ (by lia))
theorem cq_toQ {l : List Int} : cq (toQ l) = cfq l := by
  funext i
  unfold cq toQ cfq cf
  rw [List.getD_eq_getElem?_getD, List.getD_eq_getElem?_getD, List.getElem?_map]
  cases l[i]? <;> simp
end Mine
namespace Mine
noncomputable def FrD (D : Int) (B : Nat) (u : Nat → Rat) : Prop := ∀ i, ∃ z : Int, u i * (D : Rat) = (z : Rat) ∧ Sz B z
theorem FrD.mono {D B B' u} (h : FrD D B u) (hb : B ≤ B') : FrD D B' u := fun i => by
  obtain ⟨z, h1, h2⟩ := h i; exact ⟨z, h1, h2.mono hb⟩
theorem FrD.szq {D : Int} {B : Nat} {x : Rat} {z : Int} (hD : D ≠ 0) (sD : Sz B D) (h : x * (D : Rat) = (z : Rat)) (sz : Sz B z) : SzQ B x := by
  have hden : (x.den : Int) ≠ 0 := by have := x.den_nz; omega
  have e1 : x * ((x.den : Int) : Rat) = (x.num : Rat) := by
    have e := Rat.num_divInt_den x
    rw [Rat.divInt_eq_div] at e
    have hq : ((x.den : Int) : Rat) ≠ 0 := q0 hden
    generalize (x.num : Rat) = p at *
    generalize ((x.den : Int) : Rat) = d at *
    grind
  have e2 : x.num * D = z * (x.den : Int) := by
    apply Rat.intCast_inj.mp
    rw [Rat.intCast_mul, Rat.intCast_mul, ← e1, ← h]; grind
  have e3 : x.num.natAbs * D.natAbs = z.natAbs * x.den := by
    have := congrArg Int.natAbs e2
    rwa [Int.natAbs_mul, Int.natAbs_mul, Int.natAbs_natCast] at this
  have cop := x.reduced
  refine ⟨?_, ?_⟩
  · unfold Sz
    by_cases hz : z = 0
    · subst hz
      have : x.num.natAbs * D.natAbs = 0 := by rw [e3]; simp
      rcases Nat.mul_eq_zero.mp this with q | q
      · rw [q]; exact Nat.pow_pos (by decide)
      · omega
    · have d1 : x.num.natAbs ∣ z.natAbs := Nat.Coprime.dvd_of_dvd_mul_right cop ⟨D.natAbs, e3.symm⟩
      have := Nat.le_of_dvd (by omega) d1
      unfold Sz at sz; omega
  · unfold Sz
    rw [Int.natAbs_natCast]
    have d1 : x.den ∣ D.natAbs := Nat.Coprime.dvd_of_dvd_mul_left cop.symm ⟨z.natAbs, by rw [e3, Nat.mul_comm]⟩
    have := Nat.le_of_dvd (by omega) d1
    unfold Sz at sD; omega
theorem FrD.szp {D : Int} {B : Nat} {l : List Rat} (hD : D ≠ 0) (sD : Sz B D) (h : FrD D B (cq l)) : SzP B l := fun i => by
  obtain ⟨z, h1, h2⟩ := h i
  exact FrD.szq hD sD h1 h2
noncomputable def Fr (B : Nat) (u : Nat → Rat) : Prop := ∃ D : Int, D ≠ 0 ∧ Sz B D ∧ FrD D B u
theorem Fr.mono {B B' u} (h : Fr B u) (hb : B ≤ B') : Fr B' u := by
  obtain ⟨D, h1, h2, h3⟩ := h; exact ⟨D, h1, h2.mono hb, h3.mono hb⟩
theorem Fr.szp {B : Nat} {l : List Rat} (h : Fr B (cq l)) : SzP B l := by
  obtain ⟨D, h1, h2, h3⟩ := h; exact h3.szp h1 h2
theorem cvn_fr {D E : Int} {B C : Nat} {q v : Nat → Rat} (hq : FrD D B q) (hv : FrD E C v) (s : Nat) : ∀ N, ∃ z : Int, cvn N q v s * ((D * E : Int) : Rat) = (z : Rat) ∧ Sz (B + C + N) z
  | 0 => ⟨0, by unfold cvn; rw [sm]; show (0 : Rat) * _ = 0; grind, Sz.zero⟩
  | N + 1 => by
    obtain ⟨z, h1, h2⟩ := cvn_fr hq hv s N
    obtain ⟨w, h3, h4⟩ := hq N
    have hsh : ∃ y : Int, shk N v s * (E : Rat) = (y : Rat) ∧ Sz C y := by
      unfold shk; split
      · exact ⟨0, by show (0 : Rat) * _ = 0; grind, Sz.zero⟩
      · exact hv _
    obtain ⟨y, h5, h6⟩ := hsh
    refine ⟨z + w * y, ?_, ?_⟩
    · unfold cvn at h1 ⊢
      rw [sm, Rat.intCast_add, ← h1, Rat.intCast_mul, Rat.intCast_mul, ← h3, ← h5]; grind
    · exact h2.add ((h4.mul h6).mono (by omega))
theorem sub_fr {A B C N : Nat} {D : Int} {u q v : Nat → Rat} (hu : Fr A u) (hD : D ≠ 0) (sD : Sz B D) (hq : FrD D B q) (hv : Fr C v) : Fr (A + B + C + N + 1) (fun s => u s - cvn N q v s) := by
  obtain ⟨X, x1, x2, x3⟩ := hu
  obtain ⟨E, e1, e2, e3⟩ := hv
  refine ⟨X * (D * E), Int.mul_ne_zero x1 (Int.mul_ne_zero hD e1), (x2.mul (sD.mul e2)).mono (by omega), fun s => ?_⟩
  obtain ⟨z, h1, h2⟩ := cvn_fr hq e3 s N
  obtain ⟨w, h3, h4⟩ := x3 s
  refine ⟨w * (D * E) - X * z, ?_, ?_⟩
  · rw [Rat.intCast_sub, Rat.intCast_mul w, Rat.intCast_mul X z, ← h1, ← h3, Rat.intCast_mul X]; grind
  · rw [Int.sub_eq_add_neg]
    exact (Sz.add (m := A + B + C + N) ((h4.mul (sD.mul e2)).mono (by omega)) ((x2.mul h2).neg.mono (by omega))).mono (by omega)
theorem cvn_zero {N : Nat} {q v : Nat → Rat} {s : Nat} (h : ∀ i, i < N → q i = 0) : cvn N q v s = 0 := by
  unfold cvn; exact sm_zero fun i hi => by rw [h i hi]; grind
theorem cvn_set {N k : Nat} {q q' v : Nat → Rat} {x : Rat} (hk : k < N) (h0 : q k = 0) (h : ∀ i, q' i = if i = k then x else q i) (s : Nat) : cvn N q' v s = cvn N q v s + x * shk k v s := by
  have e : cvn N q' v s = sm N (fun i => q i * shk i v s + (if i = k then x * shk k v s else 0)) := by
    unfold cvn
    refine sm_congr fun i _ => ?_
    rw [h]
    by_cases e : i = k
    · subst e; rw [if_pos rfl, if_pos rfl, h0]; grind
    · rw [if_neg e, if_neg e]; grind
  rw [e, sm_add, sm_single (f := fun i => if i = k then x * shk k v s else 0) hk (fun i _ hne => if_neg hne), if_pos rfl]; rfl
structure DvR (n : Nat) (a f vb : Nat → Rat) (b : List Rat) (L K : Nat) (rest fd : List Rat) (w : Nat → Rat) (q r : List Rat) : Prop where
  o1 : r.length < b.length
  o2 : r ≠ [] → lq r ≠ 0
  o3 : q.length ≤ L
  o4 : ∃ w' : Nat → Rat, Rp n (n + 1) a f (cq r) w' ∧ ∀ l, w' l = w l + cvn L (cq fd) vb l - cvn L (cq q) vb l
  o5 : ∃ D' : Int, D' ≠ 0 ∧ Sz K D' ∧ FrD D' K (cq q) ∧ FrD D' K (cq r)
  o6 : ∀ i, rest.length < b.length + i → cq q i = cq fd i
  o7 : b.length ≤ rest.length → cq q (rest.length - b.length) = lq rest / lq b
  o8 : cq r 0 = 0 → cq b 0 = 0 → cq rest 0 = 0
theorem bitsT {B β k m K : Nat} (h : B + (k + 1) * (β + 1) ≤ K) (hm : m ≤ k) : B + β + 1 + m * (β + 1) ≤ K := by
  have := Nat.mul_le_mul_right (β + 1) hm
  rw [Nat.add_mul, Nat.one_mul] at h
  omega
theorem dv_stop {n : Nat} {a f vb : Nat → Rat} {b : List Rat} {L K : Nat} {rest fd : List Rat} {w : Nat → Rat} {D : Int} {B : Nat} (h1 : rest.length < b.length) (h2 : Rp n (n + 1) a f (cq rest) w) (h3 : rest ≠ [] → lq rest ≠ 0) (h4 : fd.length = L)
    (h5 : D ≠ 0) (h6 : Sz B D) (h7 : FrD D B (cq rest)) (h8 : FrD D B (cq fd)) (hK : B ≤ K) : DvR n a f vb b L K rest fd w (qtr fd) rest := by
  have e : cq (qtr fd) = cq fd := funext (cq_qtr fd)
  exact ⟨h1, h3, Nat.le_trans (qtr_len fd) (Nat.le_of_eq h4), ⟨w, h2, fun l => by rw [e]; grind⟩, ⟨D, h5, h6.mono hK, by rw [e]; exact h8.mono hK, h7.mono hK⟩, fun _ _ => by rw [e], fun q => absurd q (Nat.not_le_of_lt h1), fun q _ => q⟩
theorem dv_main {n : Nat} {a f vb : Nat → Rat} {b : List Rat} {T δ L β P K : Nat} {E : Int} (hn : 0 < n) (hn6 : n ≤ 6) (hb : b ≠ []) (hl : lq b ≠ 0) (rb : Rp n (n + 1) a f (cq b) vb) (sb : ∀ l, T < l → vb l = 0) (hT : T + δ + b.length ≤ n + 1) (hL : δ < L) (hKP : K ≤ P)
    (hE : E ≠ 0) (sE : Sz β E) (fE : FrD E β (cq b)) : ∀ (fuel : Nat) (rest fd : List Rat) (w : Nat → Rat) (D : Int) (B : Nat), rest.length < b.length + fuel → rest.length ≤ b.length + δ → Rp n (n + 1) a f (cq rest) w → (rest ≠ [] → lq rest ≠ 0) →
      fd.length = L → (∀ i, b.length + i ≤ rest.length → cq fd i = 0) → D ≠ 0 → Sz B D → FrD D B (cq rest) → FrD D B (cq fd) → B + (rest.length + 1 - b.length) * (β + 1) ≤ K →
      dvOk P L b fuel rest ∧ DvR n a f vb b L K rest fd w (dv b fuel rest fd).1 (dv b fuel rest fd).2
  | 0, rest, fd, w, D, B, h1, h2, h3, h4, h5, h6, h7, h8, h9, h10, h11 =>
    ⟨⟨by clear h11; omega, h1⟩, dv_stop h1 h3 h4 h5 h7 h8 h9 h10 (Nat.le_trans (Nat.le_add_right _ _) h11)⟩
  | fuel + 1, rest, fd, w, D, B, h1, h2, h3, h4, h5, h6, h7, h8, h9, h10, h11 => by
    have hBK : B ≤ K := Nat.le_trans (Nat.le_add_right _ _) h11
    have hsz : SzP P rest := (h9.szp h7 h8).mono (Nat.le_trans hBK hKP)
    have h100 : rest.length ≤ 100 := by clear h11 hBK; omega
    unfold dv dvOk
    by_cases q : b.length ≤ rest.length
    · rw [if_pos q]
      have hlt := step_len hb q
      have hcs := cq_step hb hl q
      have hsub : rest.length + 1 - b.length = rest.length - b.length + 1 := Nat.sub_add_comm q
      rw [hsub] at h11
      have hkk : b.length + (rest.length - b.length) = rest.length := Nat.add_sub_cancel' q
      generalize rest.length - b.length = k at *
      have hkδ : k ≤ δ := Nat.le_of_add_le_add_left (a := b.length) (by rw [hkk]; exact h2)
      have hTk : T + k + b.length ≤ n + 1 := Nat.le_trans (Nat.add_le_add_right (Nat.add_le_add_left hkδ _) _) hT
      have hbp : 0 < b.length := List.length_pos_iff.mpr hb
      generalize hx : lq rest / lq b = x at *
      obtain ⟨zt, t1, t2⟩ := h9 (rest.length - 1)
      obtain ⟨y, y1, y2⟩ := fE (b.length - 1)
      change lq rest * (D : Rat) = (zt : Rat) at t1
      change lq b * (E : Rat) = (y : Rat) at y1
      have hy : y ≠ 0 := by
        intro e
        rw [e] at y1
        rcases Rat.mul_eq_zero.mp (y1.trans rfl) with e | e
        · exact hl e
        · exact q0 hE e
      have hxy : x * (y : Rat) = lq rest * E := by rw [← y1, ← hx, ← Rat.mul_assoc, Rat.div_mul_cancel hl]
      have hfd : ∀ i, cq (fd.set k x) i = if i = k then x else cq fd i := fun i => cq_set (by rw [h5]; exact Nat.lt_of_le_of_lt hkδ hL)
      have hD1 : ((D * y : Int) : Rat) = (D : Rat) * (y : Rat) := Rat.intCast_mul _ _
      have f1 : FrD (D * y) (B + β + 1) (cq (dvStep b rest)) := fun i => by
        obtain ⟨z, z1, z2⟩ := h9 i
        have hsh : ∃ p : Int, shk k (cq b) i * (E : Rat) = (p : Rat) ∧ Sz β p := by
          unfold shk; split
          · exact ⟨0, Rat.zero_mul _, Sz.zero⟩
          · exact fE _
        obtain ⟨p, p1, p2⟩ := hsh
        refine ⟨z * y - zt * p, ?_, ?_⟩
        · rw [hcs, hD1, Rat.intCast_sub, Rat.intCast_mul, Rat.intCast_mul, ← z1, ← t1, ← p1]
          generalize shk k (cq b) i = sb at *
          have : (cq rest i - x * sb) * ((D : Rat) * (y : Rat)) = cq rest i * D * y - (x * y) * sb * D := by grind
          rw [this, hxy]; grind
        · rw [Int.sub_eq_add_neg]
          exact ((z2.mul y2)).add (t2.mul p2).neg
      have f2 : FrD (D * y) (B + β + 1) (cq (fd.set k x)) := fun i => by
        rw [hfd]
        by_cases e : i = k
        · rw [if_pos e]
          refine ⟨zt * E, ?_, (t2.mul sE).mono (Nat.le_add_right _ _)⟩
          rw [hD1, Rat.intCast_mul, ← t1]
          have : x * ((D : Rat) * (y : Rat)) = (x * y) * D := by grind
          rw [this, hxy]; grind
        · rw [if_neg e]
          obtain ⟨z, z1, z2⟩ := h10 i
          exact ⟨z * y, by rw [hD1, Rat.intCast_mul, ← z1, Rat.mul_assoc], (z2.mul y2).mono (Nat.le_add_right _ _)⟩
      have hw := (h3.lin (rb.shk (m := b.length) (T := T) hn (fun c hc => cq_ge hc) sb k (by rw [Nat.add_comm]; exact Nat.le_trans (Nat.add_le_add_right (Nat.le_add_left k T) _) hTk) (Nat.le_of_succ_le_succ (Nat.le_trans (Nat.add_le_add_left hbp (T + k)) hTk))) 1 (-x)).congr (u' := cq (dvStep b rest)) (v' := fun l => 1 * w l + -x * shk k vb l) (fun c => by rw [hcs]; grind) (fun _ => rfl)
      have hlk : (dvStep b rest).length < b.length + k := by rw [hkk]; exact hlt
      have hup : ∀ i, (dvStep b rest).length < b.length + i ∨ i < k := fun i => (Nat.lt_or_ge i k).elim .inr fun e => .inl (Nat.lt_of_lt_of_le hlk (Nat.add_le_add_left e _))
      obtain ⟨o0, o⟩ := dv_main hn hn6 hb hl rb sb hT hL hKP hE sE fE fuel (dvStep b rest) (fd.set k x) _ (D * y) (B + β + 1) (Nat.lt_of_lt_of_le hlt (Nat.le_of_lt_succ h1)) (Nat.le_trans (Nat.le_of_lt hlt) h2) hw step_lq (by rw [List.length_set]; exact h5) (fun i hi => by
        rw [hfd, if_neg (fun e => absurd (Nat.lt_of_le_of_lt hi hlk) (by rw [e]; exact Nat.lt_irrefl _))]; exact h6 i (Nat.le_trans hi (Nat.le_of_lt hlt))) (Int.mul_ne_zero h7 hy) ((h8.mul y2).mono (Nat.le_add_right _ _)) f1 f2 (bitsT h11 (Nat.sub_le_of_le_add (by rw [Nat.add_comm k]; exact hlk)))
      have hk6 : cq (dv b fuel (dvStep b rest) (fd.set k x)).1 k = x := by rw [o.o6 k hlk, hfd, if_pos rfl]
      refine ⟨⟨hsz, h100, fun _ => ⟨Nat.lt_of_le_of_lt hkδ hL, o0⟩⟩, ⟨o.o1, o.o2, o.o3, ?_, o.o5, fun i hi => ?_, fun _ => ?_, fun e1 e2 => ?_⟩⟩
      · obtain ⟨w', o4, o5⟩ := o.o4
        refine ⟨w', o4, fun l => ?_⟩
        rw [o5, cvn_set (q := cq fd) (k := k) (Nat.lt_of_le_of_lt hkδ hL) (h6 k (Nat.le_of_eq hkk)) hfd]; grind
      · have hik : k < i := Nat.lt_of_add_lt_add_left (n := b.length) (by rw [hkk]; exact hi)
        rw [o.o6 i (Nat.lt_trans hlt hi), hfd, if_neg (Nat.ne_of_gt hik)]
      · rw [← hkk, Nat.add_sub_cancel_left]; exact hk6.trans hx.symm
      · have := o.o8 e1 e2
        rw [hcs] at this
        have e3 : shk k (cq b) 0 = 0 := by
          unfold shk; split
          · rfl
          · rw [Nat.zero_sub]; exact e2
        rw [e3, Rat.mul_zero, Rat.sub_eq_add_neg] at this
        rwa [show (-0 : Rat) = 0 from rfl, Rat.add_zero] at this
    · rw [if_neg q]
      exact ⟨⟨hsz, h100, fun e => absurd e q⟩, dv_stop (Nat.lt_of_not_le q) h3 h4 h5 h7 h8 h9 h10 hBK⟩
end Mine
namespace Mine
structure EI (n : Nat) (a f : Nat → Rat) (β : Nat) (x y : T3) : Prop where
  lx : x.1.length ≤ n + 1
  lxy : y.1.length < x.1.length
  qx : x.1 ≠ [] → lq x.1 ≠ 0
  qy : y.1 ≠ [] → lq y.1 ≠ 0
  rx : Rp n (n + 1) a f (cq x.1) (cq x.2.1)
  ry : Rp n (n + 1) a f (cq y.1) (cq y.2.1)
  l1 : x.2.1.length + x.1.length ≤ n + 1
  l2 : y.2.1.length + x.1.length = n + 2
  q2 : lq y.2.1 ≠ 0
  l3 : x.2.2.length + x.1.length ≤ n + 2
  l4 : y.2.2.length + x.1.length ≤ n + 2
  f0 : Fr β (cq x.1)
  f1 : Fr β (cq x.2.1)
  f2 : Fr β (cq x.2.2)
  g0 : Fr β (cq y.1)
  g1 : Fr β (cq y.2.1)
  g2 : Fr β (cq y.2.2)
theorem cq_repl {L i : Nat} : cq (List.replicate L 0) i = 0 := by
  unfold cq
  rw [List.getD_eq_getElem?_getD, List.getElem?_replicate]
  split <;> rfl
theorem mul_len {a b : List Rat} : (qmul a b).length ≤ a.length + b.length - 1 := by unfold qmul; split <;> simp
theorem bits3 {δ β P : Nat} (hd : δ ≤ 6) (hP : (δ + 4) * (β + 1) + 5 ≤ P) : β ≤ (δ + 4) * (β + 1) + 5 ∧ β + (δ + 1) * (β + 1) ≤ (δ + 4) * (β + 1) + 5 ∧ β + (δ + 1) * (β + 1) ≤ P ∧ (∀ t, t ≤ δ + 1 → β + (δ + 1) * (β + 1) + β + t ≤ P) ∧
    β + (β + (δ + 1) * (β + 1)) + β + (δ + 1) + 1 ≤ (δ + 4) * (β + 1) + 5 := by
  have e5 : (δ + 4) * (β + 1) = (δ + 1) * (β + 1) + 3 * (β + 1) := by rw [← Nat.add_mul]
  have e6 : (δ + 1) * (β + 1) = δ * (β + 1) + (β + 1) := by rw [Nat.add_mul, Nat.one_mul]
  have e7 : δ ≤ δ * (β + 1) := Nat.le_mul_of_pos_right _ (Nat.succ_pos _)
  generalize δ * (β + 1) = u at *
  rw [e6] at e5 ⊢
  rw [e5] at hP ⊢
  clear e5 e6
  refine ⟨by omega, by omega, by omega, fun t ht => by omega, by omega⟩
theorem lens3 {n a b c T δ : Nat} (h1 : a + T = n + 1) (h2 : a = b + δ) (h3 : c + a ≤ n + 2) : c ≤ T + 1 ∧ T + δ + b = n + 1 := by omega
theorem len6 {T δ y n : Nat} (h : 0 < y) (h2 : T + δ + y = n + 1) (h3 : n ≤ 6) : δ ≤ 6 := by omega
theorem EI.next {n : Nat} {a f : Nat → Rat} {β P : Nat} {x y : T3} (h : EI n a f β x y) (hn : 0 < n) (hn6 : n ≤ 6) (hy : y.1 ≠ []) (hP : (x.1.length - y.1.length + 4) * (β + 1) + 5 ≤ P) :
    EI n a f ((x.1.length - y.1.length + 4) * (β + 1) + 5) y (exNext x y) ∧ dvOk P (x.1.length + 1 - y.1.length) y.1 (x.1.length + 1) x.1 ∧ (dvQ x y).1.length ≤ 100 ∧ SzP P (dvQ x y).1 ∧
      (∀ t s, SzQ P (mulP (dvQ x y).1 y.2.1 t s)) ∧ (∀ t s, SzQ P (mulP (dvQ x y).1 y.2.2 t s)) ∧ (cq (exNext x y).1 0 = 0 → cq y.1 0 = 0 → cq x.1 0 = 0) := by
  obtain ⟨lx, lxy, qx, qy, rx, ry, l1, l2, q2, l3, l4, f0, f1, f2, g0, g1, g2⟩ := h
  obtain ⟨T, hT⟩ : ∃ T, x.1.length + T = n + 1 := ⟨_, Nat.add_sub_cancel' lx⟩
  obtain ⟨δ, hδ⟩ : ∃ δ, x.1.length = y.1.length + δ := ⟨_, (Nat.add_sub_cancel' (Nat.le_of_lt lxy)).symm⟩
  have hδ' : x.1.length - y.1.length = δ := by rw [hδ, Nat.add_sub_cancel_left]
  have hLe : x.1.length + 1 - y.1.length = δ + 1 := by rw [hδ, Nat.add_assoc, Nat.add_sub_cancel_left]
  have hx : x.1 ≠ [] := by intro q; rw [q] at lxy; exact Nat.not_lt_zero _ lxy
  have hδ1 : 1 ≤ δ := by rw [hδ] at lxy; exact Nat.lt_of_add_lt_add_left (n := y.1.length) lxy
  have hylen : y.2.1.length = T + 1 := Nat.add_right_cancel (m := x.1.length) (by rw [l2, Nat.add_right_comm, Nat.add_comm T, hT])
  have hxlen : x.2.1.length ≤ T := Nat.le_of_add_le_add_left (a := x.1.length) (by rw [hT, Nat.add_comm]; exact l1)
  obtain ⟨h3, hTy⟩ := lens3 hT hδ l3
  obtain ⟨h4, _⟩ := lens3 hT hδ l4
  rw [hδ'] at hP ⊢
  obtain ⟨b1, b2, b3, b4, b5⟩ := bits3 (len6 (List.length_pos_iff.mpr hy) hTy hn6) hP
  clear lx lxy l1 l2 l3 l4 hT hP
  obtain ⟨D, D1, D2, D3⟩ := f0
  obtain ⟨E, E1, E2, E3⟩ := g0
  have main := dv_main (n := n) (a := a) (f := f) (vb := cq y.2.1) (b := y.1) (T := T) (δ := δ) (L := δ + 1) (β := β) (P := P) (K := β + (δ + 1) * (β + 1)) (E := E) hn hn6 hy (qy hy) ry (fun l hl => cq_ge (by rw [hylen]; exact hl)) (Nat.le_of_eq hTy) (Nat.lt_succ_self _) b3 E1 E2 E3
    (x.1.length + 1) x.1 (List.replicate (δ + 1) 0) (cq x.2.1) D β (Nat.lt_of_lt_of_le (Nat.lt_succ_self _) (Nat.le_add_left _ _)) (Nat.le_of_eq hδ) rx qx List.length_replicate (fun _ _ => cq_repl) D1 D2 D3 (fun i => ⟨0, by rw [cq_repl]; exact Rat.zero_mul _, Sz.zero⟩) (by rw [hLe]; exact Nat.le_refl _)
  obtain ⟨o0, o1, o2, o3, ⟨w', o4, o5⟩, ⟨D', d1, d2, d3, d4⟩, o6, o7, o8⟩ := main
  have hQ : dvQ x y = dv y.1 (x.1.length + 1) x.1 (List.replicate (δ + 1) 0) := by unfold dvQ; rw [hLe]
  rw [hLe]
  unfold exNext
  rw [hQ]
  generalize dv y.1 (x.1.length + 1) x.1 (List.replicate (δ + 1) 0) = QR at *
  obtain ⟨q, r⟩ := QR
  replace o7 : cq q δ = lq x.1 / lq y.1 := by
    have := o7 (by rw [hδ]; exact Nat.le_add_right _ _)
    rwa [hδ'] at this
  clear hQ hLe hδ' o6
  replace o1 : r.length < y.1.length := o1
  replace o3 : q.length ≤ δ + 1 := o3
  have hqz : ∀ i, q.length ≤ i → cq q i = 0 := fun i hi => cq_ge hi
  have hcv : ∀ v s, cvn q.length (cq q) v s = cvn (δ + 1) (cq q) v s := fun v s => (cvn_cut o3 hqz).symm
  have hleft : ∀ l, cq (qsub x.2.1 (qmul q y.2.1)) l = cq x.2.1 l - cvn (δ + 1) (cq q) (cq y.2.1) l := fun l => by rw [cq_sub, cq_mul, hcv]
  have hright : ∀ l, cq (qsub x.2.2 (qmul q y.2.2)) l = cq x.2.2 l - cvn (δ + 1) (cq q) (cq y.2.2) l := fun l => by rw [cq_sub, cq_mul, hcv]
  have hw : ∀ l, w' l = cq (qsub x.2.1 (qmul q y.2.1)) l := fun l => by
    rw [o5, hleft, cvn_zero (q := cq (List.replicate (δ + 1) 0)) (fun i _ => cq_repl), Rat.add_zero]
  have htop : cq q δ ≠ 0 := by
    rw [o7]
    have h1 := qx hx
    have h2 := qy hy
    intro e
    have : lq x.1 = lq x.1 / lq y.1 * lq y.1 := (Rat.div_mul_cancel h2).symm
    rw [e, Rat.zero_mul] at this
    exact h1 this
  have shz : ∀ i l, T + i < l → shk i (cq y.2.1) l = 0 := fun i l hl => by
    unfold shk
    rw [if_neg (Nat.not_lt_of_lt (Nat.lt_of_le_of_lt (Nat.le_add_left _ _) hl))]
    exact cq_ge (by rw [hylen]; exact Nat.le_sub_of_add_le (by rw [Nat.add_right_comm]; exact hl))
  have cvT : cvn (δ + 1) (cq q) (cq y.2.1) (T + δ) = cq q δ * lq y.2.1 := by
    unfold cvn
    rw [sm_single (t := δ) (Nat.lt_succ_self _) (fun i hi hne => by
      rw [shz i _ (Nat.add_lt_add_left (Nat.lt_of_le_of_ne (Nat.le_of_lt_succ hi) hne) _), Rat.mul_zero])]
    congr 1
    unfold shk lq
    rw [if_neg (Nat.not_lt_of_le (Nat.le_add_left _ _)), hylen, Nat.add_sub_cancel, Nat.add_sub_cancel]
  have lft_len : (qsub x.2.1 (qmul q y.2.1)).length = T + δ + 1 := by
    refine len_of sub_lq ?_ fun l hl => ?_
    · rw [hleft, cvT, cq_ge (Nat.le_trans hxlen (Nat.le_add_right _ _)), Rat.sub_eq_add_neg, Rat.zero_add]
      intro e
      have : cq q δ * lq y.2.1 = 0 := by rw [← Rat.neg_neg (cq q δ * lq y.2.1), e]; rfl
      rcases Rat.mul_eq_zero.mp this with e | e
      · exact htop e
      · exact q2 e
    · rw [hleft, cq_ge (Nat.le_trans hxlen (Nat.le_trans (Nat.le_add_right _ δ) (Nat.le_of_lt hl)))]
      unfold cvn
      rw [sm_zero fun i hi => by
        rw [shz i _ (Nat.lt_of_le_of_lt (Nat.add_le_add_left (Nat.le_of_lt_succ hi) _) hl), Rat.mul_zero], Rat.sub_self]
  have sfr := fun (u v : Nat → Rat) (hu : Fr β u) (hv : Fr β v) => (sub_fr (A := β) (B := β + (δ + 1) * (β + 1)) (C := β) (N := δ + 1) hu d1 d2 d3 hv).mono b5
  have szm : ∀ v : List Rat, Fr β (cq v) → ∀ t s, SzQ P (mulP q v t s) := by
    intro v hv t s
    obtain ⟨G, G1, G2, G3⟩ := hv
    rw [mulP_eq]
    have key : ∀ t, t ≤ δ + 1 → SzQ P (cvn t (cq q) (cq v) s) := by
      intro t ht
      obtain ⟨z, z1, z2⟩ := cvn_fr d3 G3 s t
      exact (FrD.szq (B := β + (δ + 1) * (β + 1) + β + t) (Int.mul_ne_zero d1 G1) ((d2.mul G2).mono (Nat.le_add_right _ _)) z1 z2).mono (b4 t ht)
    by_cases ht : t ≤ δ + 1
    · exact key t ht
    · rw [cvn_cut (M := δ + 1) (Nat.le_of_lt (Nat.lt_of_not_le ht)) (fun i hi => hqz i (Nat.le_trans o3 hi))]
      exact key _ (Nat.le_refl _)
  have hrl : (qsub x.2.2 (qmul q y.2.2)).length ≤ T + δ + 1 := by
    refine Nat.le_trans (sub_len (a := x.2.2) (b := qmul q y.2.2)) (Nat.max_le.mpr ⟨Nat.le_trans h3 (Nat.succ_le_succ (Nat.le_add_right _ _)), ?_⟩)
    refine Nat.le_trans (mul_len (a := q) (b := y.2.2)) (Nat.sub_le_of_le_add (Nat.le_trans (Nat.add_le_add o3 h4) (Nat.le_of_eq ?_)))
    rw [Nat.add_add_add_comm, Nat.add_comm δ T, Nat.add_assoc (T + δ)]
  have yl : y.1.length + (T + 1) ≤ n + 1 := by
    clear hδ; omega
  have cl : ∀ c : Nat, c ≤ T + δ + 1 → c + y.1.length ≤ n + 2 := fun c hc => Nat.le_trans (Nat.add_le_add_right hc _) (Nat.le_of_eq (by rw [Nat.add_right_comm, hTy]))
  refine ⟨⟨Nat.le_trans (Nat.le_add_right _ _) yl, o1, qy, o2, ry, o4.congr (fun _ => rfl) hw, by rw [hylen, Nat.add_comm]; exact yl, by show (qsub x.2.1 (qmul q y.2.1)).length + _ = _; rw [lft_len, Nat.add_right_comm, hTy], ?_, cl _ (Nat.le_trans h4 (Nat.succ_le_succ (Nat.le_add_right _ _))), cl _ hrl,
    ⟨E, E1, E2.mono b1, E3.mono b1⟩, g1.mono b1, g2.mono b1, ⟨D', d1, d2.mono b2, d4.mono b2⟩, ?_, ?_⟩, o0, ?_, (d3.szp d1 d2).mono b3, szm _ g1, szm _ g2, o8⟩
  · refine sub_lq ?_
    intro e; rw [e] at lft_len; cases lft_len
  · obtain ⟨G, G1, G2, G3⟩ := sfr _ _ f1 g1
    exact ⟨G, G1, G2, fun i => by rw [hleft]; exact G3 i⟩
  · obtain ⟨G, G1, G2, G3⟩ := sfr _ _ f2 g2
    exact ⟨G, G1, G2, fun i => by rw [hright]; exact G3 i⟩
  · show q.length ≤ 100
    clear hδ yl; omega
theorem EI.okt {n : Nat} {a f : Nat → Rat} {β P : Nat} {x y : T3} (h : EI n a f β x y) (hn6 : n ≤ 6) (hP : β ≤ P) : OkT P x ∧ OkT P y := by
  obtain ⟨lx, lxy, qx, qy, rx, ry, l1, l2, q2, l3, l4, f0, f1, f2, g0, g1, g2⟩ := h
  exact ⟨⟨f0.szp.mono hP, f1.szp.mono hP, f2.szp.mono hP, by lia, by lia, by lia, qx⟩, ⟨g0.szp.mono hP, g1.szp.mono hP, g2.szp.mono hP, by lia, by lia, by lia, qy⟩⟩
theorem five {δ : Nat} (h : 1 ≤ δ) : δ + 4 ≤ 5 ^ δ := by
  obtain ⟨k, rfl⟩ : ∃ k, δ = k + 1 := ⟨δ - 1, by lia⟩
  clear h
  induction k with
  | zero => decide
  | succ k ih => rw [Nat.pow_succ]; lia
theorem ex_ok {n : Nat} {a f : Nat → Rat} {P : Nat} (hn : 0 < n) (hn6 : n ≤ 6) : ∀ (fuel : Nat) (x y : T3) (β : Nat), EI n a f β x y → y.1.length ≤ fuel → (β + 3) * 5 ^ x.1.length ≤ P →
    exOk P fuel x y ∧ (∃ β' y', EI n a f β' (exS fuel x y) y' ∧ y'.1 = []) ∧ (cq (exS fuel x y).1 0 = 0 → cq x.1 0 = 0 ∧ cq y.1 0 = 0) := by
  have stop : ∀ (x y : T3) (β : Nat), EI n a f β x y → y.1 = [] → (∃ β' y', EI n a f β' x y' ∧ y'.1 = []) ∧ (cq x.1 0 = 0 → cq x.1 0 = 0 ∧ cq y.1 0 = 0) := fun x y β h e => ⟨⟨β, y, h, e⟩, fun q => ⟨q, by rw [e]; exact cq_nil⟩⟩
  intro fuel
  induction fuel with
  | zero =>
    intro x y β h hf hP
    have e : y.1 = [] := List.eq_nil_of_length_eq_zero (by lia)
    have hb : β ≤ P := by
      have : β + 3 ≤ (β + 3) * 5 ^ x.1.length := Nat.le_mul_of_pos_right _ (Nat.pow_pos (by decide))
      lia
    exact ⟨⟨(h.okt hn6 hb).1, e⟩, stop x y β h e⟩
  | succ fuel ih =>
    intro x y β h hf hP
    have hb : β ≤ P := by
      have : β + 3 ≤ (β + 3) * 5 ^ x.1.length := Nat.le_mul_of_pos_right _ (Nat.pow_pos (by decide))
      lia
    obtain ⟨k1, k2⟩ := h.okt hn6 hb
    unfold exS
    by_cases e : y.1 = []
    · rw [if_pos e]
      exact ⟨⟨k1, k2, fun q => absurd e q⟩, stop x y β h e⟩
    · rw [if_neg e]
      have hlt := h.lxy
      have hpot : ((x.1.length - y.1.length + 4) * (β + 1) + 5 + 3) * 5 ^ y.1.length ≤ (β + 3) * 5 ^ x.1.length := by
        have h5 := five (δ := x.1.length - y.1.length) (by lia)
        have h6 : (x.1.length - y.1.length + 4) * (β + 1) + 5 + 3 ≤ (x.1.length - y.1.length + 4) * (β + 3) := by
          have : (x.1.length - y.1.length + 4) * (β + 3) = (x.1.length - y.1.length + 4) * (β + 1) + (x.1.length - y.1.length + 4) * 2 := by rw [← Nat.mul_add]
          lia
        have h7 : 5 ^ x.1.length = 5 ^ (x.1.length - y.1.length) * 5 ^ y.1.length := by rw [← Nat.pow_add]; congr 1; lia
        rw [h7, ← Nat.mul_assoc]
        refine Nat.mul_le_mul_right _ (Nat.le_trans h6 ?_)
        rw [Nat.mul_comm]
        exact Nat.mul_le_mul_left _ h5
      have hP2 : (x.1.length - y.1.length + 4) * (β + 1) + 5 ≤ P := by
        have : (x.1.length - y.1.length + 4) * (β + 1) + 5 + 3 ≤ ((x.1.length - y.1.length + 4) * (β + 1) + 5 + 3) * 5 ^ y.1.length := Nat.le_mul_of_pos_right _ (Nat.pow_pos (by decide))
        lia
      obtain ⟨n1, n2, n3, n4, n5, n6, n7⟩ := h.next hn hn6 e hP2
      obtain ⟨i1, i2, i3⟩ := ih y (exNext x y) _ n1 (by have := n1.lxy; lia) (by lia)
      refine ⟨⟨k1, k2, fun _ => ⟨n2, n3, n4, n5, n6, i1⟩⟩, i2, fun q => ?_⟩
      obtain ⟨j1, j2⟩ := i3 q
      exact ⟨n7 j2 j1, j1⟩
end Mine
namespace Mine
theorem cq_one {l : Nat} : cq [1] l = if l = 0 then 1 else 0 := by
  cases l with
  | zero => rfl
  | succ l => rw [if_neg (by (exact Nat.succ_ne_zero _))]; exact cq_ge (by simp)
theorem lq_toQ {l : List Int} : lq (toQ l) = (lead l : Rat) := by
  unfold lq
  rw [cq_toQ, lead_cf]
  unfold cfq toQ
  rw [List.length_map]
theorem toQ_len {l : List Int} : (toQ l).length = l.length := by simp [toQ]
theorem fr_ints {l : List Int} (h : ∀ i, (cf l i).natAbs ≤ 3) : Fr 2 (cq (toQ l)) := by
  refine ⟨1, by decide, by unfold Sz; decide, fun i => ⟨cf l i, ?_, ?_⟩⟩
  · rw [cq_toQ]; unfold cfq; rw [show ((1 : Int) : Rat) = 1 from rfl]; (exact Rat.mul_one _)
  · unfold Sz; have := h i; (exact Nat.lt_succ_of_le (by assumption))
theorem fr_one : Fr 2 (cq [1]) := by
  refine ⟨1, by decide, by unfold Sz; decide, fun i => ?_⟩
  rw [cq_one]
  split
  · exact ⟨1, by rw [show ((1 : Int) : Rat) = 1 from rfl]; (exact Rat.mul_one _), by unfold Sz; decide⟩
  · exact ⟨0, by rw [show ((1 : Int) : Rat) = 1 from rfl, show ((0 : Int) : Rat) = 0 from rfl]; (exact Rat.zero_mul _), Sz.zero⟩
theorem fr_nil : Fr 2 (cq []) := by
  refine ⟨1, by decide, by unfold Sz; decide, fun i => ⟨0, ?_, Sz.zero⟩⟩
  rw [cq_nil, show ((1 : Int) : Rat) = 1 from rfl, show ((0 : Int) : Rat) = 0 from rfl]; (exact Rat.zero_mul _)
noncomputable def rowsF (n : Nat) (r : Nat → Int) : Nat → Nat → Rat := pw n (cfq (wh n)) (red n (cfq (wh n)) (cfq (fl n r)))
theorem rowsF_eq {n : Nat} (h : okN n) {r : Nat → Int} {l c : Nat} (hl : l ≤ n) (hc : c < n) : rowsF n r l c = castM (circ n r 1) l c := by
  have hz : cfq (fl n r) n = 0 := cfq_ge fl_len
  have key : ∀ t, t < n → cfq (fl n r) t = (r t : Rat) := fun t ht => by unfold cfq; rw [cf_fl, if_pos ht]
  unfold rowsF
  rw [circ_rows h l hl c hc]
  unfold castM circ
  split
  · rw [red_low hz, key _ (by (exact Nat.lt_of_le_of_lt (Nat.sub_le _ _) (by assumption)))]
  · rw [red_low hz, key _ (by (clear hc; omega)), Int.one_mul]
theorem wh_abs {n : Nat} (h : okN n) (i : Nat) : (cf (wh n) i).natAbs ≤ 3 := by
  obtain ⟨wl, w0, w1, w2, _⟩ := wh_facts h
  by_cases h0 : i = 0
  · subst h0; rw [w0]; decide
  · by_cases h1 : i < n
    · rw [w2 i (by (exact Nat.pos_of_ne_zero (by assumption))) h1]; decide
    · by_cases h2 : i = n
      · subst h2; rw [w1]; decide
      · rw [cf_ge (by lia)]; decide
theorem ei_top {n : Nat} (h : okN n) {r : Nat → Int} (hr : ∀ i, (r i).natAbs ≤ 3) : EI n (cfq (wh n)) (red n (cfq (wh n)) (cfq (fl n r))) 2 (toQ (wh n), [], [1]) (toQ (fl n r), [1], []) := by
  obtain ⟨wl, w0, w1, w2, _⟩ := wh_facts h
  have hfl := fl_len (n := n) (r := r)
  have hlw : lead (wh n) = 1 := by rw [lead_cf, wl]; exact w1
  have hq : cfq (wh n) n = 1 := by unfold cfq; rw [w1]; rfl
  have hn := h.le
  refine ⟨?_, ?_, fun _ => ?_, fun hne => ?_, fun c hc => ?_, fun c hc => ?_, ?_, ?_, ?_, ?_, ?_, fr_ints (wh_abs h), fr_nil, fr_one, fr_ints (fl_abs hr), fr_one, fr_nil⟩
  · show (toQ (wh n)).length ≤ _; rw [toQ_len]; (exact Nat.le_of_eq (by assumption))
  · show (toQ (fl n r)).length < (toQ (wh n)).length; rw [toQ_len, toQ_len]; lia
  · show lq (toQ (wh n)) ≠ 0; rw [lq_toQ, hlw]; decide
  · show lq (toQ (fl n r)) ≠ 0
    rw [lq_toQ]
    refine q0 (fl_lead fun e => hne ?_)
    show toQ (fl n r) = []
    rw [e]; rfl
  · show red n _ (cq (toQ (wh n))) c = _
    rw [cq_toQ, sm_zero fun _ _ => by rw [cq_nil]; (exact Rat.zero_mul _)]
    unfold red; rw [hq]; grind
  · show red n _ (cq (toQ (fl n r))) c = sm _ (fun l => cq [1] l * _)
    rw [cq_toQ, sm_single (t := 0) (by (exact Nat.succ_pos _)) (fun l _ hne => by rw [cq_one, if_neg hne]; (exact Rat.zero_mul _)), cq_one, if_pos rfl, Rat.one_mul]; rfl
  · show 0 + (toQ (wh n)).length ≤ _; rw [toQ_len]; lia
  · show 1 + (toQ (wh n)).length = _; rw [toQ_len]; lia
  · show lq [1] ≠ 0
    decide
  · show 1 + (toQ (wh n)).length ≤ _; rw [toQ_len]; lia
  · show 0 + (toQ (wh n)).length ≤ _; rw [toQ_len]; lia
theorem ex_top {n : Nat} (h : okN n) {r : Nat → Int} (hr : ∀ i, (r i).natAbs ≤ 3) : exOk 400000 9 (toQ (fl n r), [1], []) (toQ (wh n), [], [1]) ∧
    (∃ β y', EI n (cfq (wh n)) (red n (cfq (wh n)) (cfq (fl n r))) β (exS 9 (toQ (fl n r), [1], []) (toQ (wh n), [], [1])) y' ∧ y'.1 = []) ∧ cq (exS 9 (toQ (fl n r), [1], []) (toQ (wh n), [], [1])).1 0 ≠ 0 := by
  have E := ei_top h hr
  obtain ⟨wl, w0, w1, w2, _⟩ := wh_facts h
  have hfl := fl_len (n := n) (r := r)
  have hn := h.le
  obtain ⟨k1, k2⟩ := E.okt hn.2 (P := 400000) (by decide)
  obtain ⟨i1, i2, i3⟩ := ex_ok (P := 400000) (by lia) hn.2 8 _ _ 2 E (by show (toQ (fl n r)).length ≤ 8; rw [toQ_len]; lia) (by
    show (2 + 3) * 5 ^ (toQ (wh n)).length ≤ _
    rw [toQ_len, wl]
    have : 5 ^ (n + 1) ≤ 5 ^ 7 := Nat.pow_le_pow_right (by decide) (by lia)
    lia)
  have hne : toQ (wh n) ≠ [] := by intro e; have := congrArg List.length e; rw [toQ_len, wl] at this; simp at this
  have hlt : ¬ (toQ (wh n)).length ≤ (toQ (fl n r)).length := by rw [toQ_len, toQ_len]; lia
  have hL : (toQ (fl n r)).length + 1 - (toQ (wh n)).length = 0 := by rw [toQ_len, toQ_len]; (clear w0 w1 hn hlt; omega)
  have hdv : dvQ (toQ (fl n r), [1], []) (toQ (wh n), [], [1]) = ([], toQ (fl n r)) := by
    unfold dvQ
    simp only []
    rw [hL, dv, if_neg hlt]; rfl
  have hnx : exNext (toQ (fl n r), [1], []) (toQ (wh n), [], [1]) = (toQ (fl n r), [1], []) := by
    unfold exNext
    rw [hdv]
    have e0 : (1 : Rat) + 0 = 1 := by (exact Rat.add_zero _)
    have e1 : qsub [1] (qmul [] []) = [1] := by
      simp [qsub, qadd, qneg, qmul, padQ, qtr, List.range_succ]
      rw [e0, if_neg (by decide)]
    have e2 : qsub [] (qmul [] [1]) = [] := by simp [qsub, qadd, qneg, qmul, padQ, qtr]
    simp only [e1, e2]
  have hz : ∀ v t s, mulP [] v t s = 0 := fun v t s => by
    rw [mulP_eq]; exact cvn_zero fun i _ => cq_nil
  have hs0 : SzQ 400000 0 := SzQ.zero (by decide)
  have hex : exS 9 (toQ (fl n r), [1], []) (toQ (wh n), [], [1]) = exS 8 (toQ (wh n), [], [1]) (toQ (fl n r), [1], []) := by
    rw [exS, if_neg (show ¬ (toQ (wh n), ([] : List Rat), ([1] : List Rat)).1 = [] from hne), hnx]
  rw [hex]
  refine ⟨⟨k2, k1, fun _ => ⟨?_, ?_, ?_, ?_, ?_, ?_⟩⟩, i2, fun q => ?_⟩
  · show dvOk _ _ (toQ (wh n)) ((toQ (fl n r)).length + 1) (toQ (fl n r))
    unfold dvOk
    refine ⟨k2.z0, k2.l0, fun q => absurd q hlt⟩
  · rw [hdv]; simp
  · rw [hdv]; intro i; show SzQ _ (cq [] i); rw [cq_nil]; exact hs0
  · rw [hdv]; intro t s; rw [hz]; exact hs0
  · rw [hdv]; intro t s; rw [hz]; exact hs0
  · rw [hnx]; exact i1
  · have := (i3 q).1
    change cq (toQ (wh n)) 0 = 0 at this
    rw [cq_toQ] at this
    unfold cfq at this
    rw [w0] at this
    revert this; decide
theorem ex_unit {n : Nat} (h : okN n) {r : Nat → Int} {β : Nat} {x y : T3} (E : EI n (cfq (wh n)) (red n (cfq (wh n)) (cfq (fl n r))) β x y) (hy : y.1 = []) (h0 : dt n (castM (circ n r 1)) ≠ 0) : x.1.length = 1 := by
  have hn := h.le
  have hlx := E.lxy
  rw [hy] at hlx
  apply Classical.byContradiction
  intro q
  have hlx2 : 2 ≤ x.1.length := by simp at hlx; lia
  have hl := E.lx
  have h2 := E.l2
  apply h0
  have := D_null E.ry (T := n + 1 - x.1.length) (by (clear hn hlx q; omega)) (by (clear hn hlx q; lia)) (fun c => by rw [hy]; exact cq_nil) (fun l hl => cq_ge (by (clear hn hlx q hlx2; omega))) (by
    have := E.q2
    unfold lq at this
    rwa [show y.2.1.length - 1 = n + 1 - x.1.length by (clear hn hlx q hlx2; lia)] at this)
  rw [← this]
  exact dt_congr fun i j hi hj => (rowsF_eq h (by (exact Nat.le_of_lt (by assumption))) hj).symm
theorem dt_span2 {n t : Nat} {M : Nat → Nat → Rat} {c : Nat → Rat} (ht : t < n) : ∀ k, k ≤ n → dt n (upd M t (fun j => sm k (fun l => c l * M l j))) = (if t < k then c t else 0) * dt n M
  | 0, _ => by
    rw [if_neg (by (exact Nat.not_lt_zero _))]
    have := dt_zrow (n := n) (t := t) (M := upd M t (fun j => sm 0 (fun l => c l * M l j))) ht (fun j _ => by rw [upd_at]; rfl)
    rw [this]; (exact (Rat.zero_mul _).symm)
  | k + 1, hk => by
    have e : (fun j => sm (k + 1) (fun l => c l * M l j)) = fun j => 1 * sm k (fun l => c l * M l j) + c k * M k j := by funext j; simp only [sm]; (simp)
    rw [e, dt_lin ht, dt_span2 ht k (by (exact Nat.le_of_lt (by assumption)))]
    by_cases q : t = k
    · subst q
      rw [upd_self, if_neg (by (exact Nat.lt_irrefl _)), if_pos (by (exact Nat.le_refl _))]; grind
    · rw [dt_same (M := upd M t (M k)) ht (by (assumption) : k < n) q (fun c => by rw [upd_at, upd_ne (Ne.symm q)])]
      by_cases q2 : t < k
      · rw [if_pos q2, if_pos (by (exact Nat.lt_succ_of_lt (by assumption)))]; grind
      · rw [if_neg q2, if_neg (by lia)]; grind
end Mine
namespace Mine
noncomputable def Spn (n : Nat) (F : Nat → Nat → Rat) (u : Nat → Rat) : Prop := ∃ α : Nat → Rat, ∀ j, j < n → u j = sm n (fun i => α i * F i j)
theorem Spn.row {n F i} (hi : i < n) : Spn n F (F i) := ⟨fun l => if l = i then 1 else 0, fun j _ => by
  rw [sm_single (t := i) hi (fun l _ hne => by show (if l = i then (1 : Rat) else 0) * _ = 0; rw [if_neg hne]; (exact Rat.zero_mul _))]
  show _ = (if i = i then (1 : Rat) else 0) * _
  rw [if_pos rfl, Rat.one_mul]⟩
theorem Spn.lin {n F u v} (h : Spn n F u) (h' : Spn n F v) (x y : Rat) : Spn n F (fun j => x * u j + y * v j) := by
  obtain ⟨α, h1⟩ := h
  obtain ⟨β, h2⟩ := h'
  refine ⟨fun i => x * α i + y * β i, fun j hj => ?_⟩
  show x * u j + y * v j = sm n (fun i => (x * α i + y * β i) * F i j)
  rw [h1 j hj, h2 j hj, ← sm_lin]
  exact sm_congr fun i _ => by grind
theorem Spn.congr {n F u v} (h : Spn n F u) (e : ∀ j, j < n → v j = u j) : Spn n F v := by
  obtain ⟨α, h1⟩ := h
  exact ⟨α, fun j hj => by rw [e j hj, h1 j hj]⟩
theorem Spn.zero {n F} : Spn n F (fun _ => 0) := ⟨fun _ => 0, fun j _ => (sm_zero fun i _ => by (exact Rat.zero_mul _)).symm⟩
theorem Spn.sum {n F} {α : Nat → Rat} {G : Nat → Nat → Rat} : ∀ k, (∀ i, i < k → Spn n F (G i)) → Spn n F (fun j => sm k (fun i => α i * G i j))
  | 0, _ => Spn.zero
  | k + 1, h => ((Spn.sum (α := α) k fun i hi => h i (by (exact Nat.lt_succ_of_lt (by assumption)))).lin (h k (by (exact Nat.le_refl _))) 1 (α k)).congr fun j _ => by rw [sm]; (simp)
theorem Spn.trans {n F G u} (h : Spn n G u) (h' : ∀ i, i < n → Spn n F (G i)) : Spn n F u := by
  obtain ⟨α, h1⟩ := h
  exact (Spn.sum (α := α) n h').congr h1
noncomputable def Ker (n ρ : Nat) (k u : Nat → Rat) : Prop := ∀ c, c < n → sm (ρ + 1) (fun l => k l * u (rt n c l)) = 0
theorem Ker.lin {n ρ : Nat} {k u v : Nat → Rat} (h : Ker n ρ k u) (h' : Ker n ρ k v) (x y : Rat) : Ker n ρ k (fun j => x * u j + y * v j) := fun c hc => by
  have h1 := h c hc
  have h2 := h' c hc
  have : sm (ρ + 1) (fun l => k l * (x * u (rt n c l) + y * v (rt n c l))) = x * sm (ρ + 1) (fun l => k l * u (rt n c l)) + y * sm (ρ + 1) (fun l => k l * v (rt n c l)) := by
    rw [← sm_lin]; exact sm_congr fun i _ => by grind
  rw [this, h1, h2]; grind
theorem Ker.congr {n ρ : Nat} {k u v : Nat → Rat} (h : Ker n ρ k u) (hρ : ρ ≤ n) (e : ∀ j, j < n → v j = u j) : Ker n ρ k v := fun c hc => by
  rw [← h c hc]
  exact sm_congr fun l hl => by rw [e _ (rt_lt hc (by lia))]
theorem Ker.kill {n ρ : Nat} {k u : Nat → Rat} (h : Ker n ρ k u) (hρ : ρ ≤ n) (hk : k ρ ≠ 0) (hu : ∀ l, l < ρ → l < n → u l = 0) : ∀ m t, t < n → n ≤ t + m → u t = 0 := by
  intro m
  induction m with
  | zero => intro t ht h1; lia
  | succ m ih =>
    intro t ht h1
    by_cases q : t < ρ
    · exact hu t q ht
    · have key : ∀ c, c < n → rt n c ρ = t → (∀ l, l < ρ → u (rt n c l) = 0) → u t = 0 := by
        intro c hc e hl
        have := h c hc
        rw [sm, sm_zero fun l hl' => by rw [hl l hl']; (exact Rat.mul_zero _), e] at this
        have h2 : k ρ * u t = 0 := by grind
        rcases Rat.mul_eq_zero.mp h2 with q | q
        · exact absurd q hk
        · exact q
      by_cases q2 : t + ρ < n
      · refine key (t + ρ) q2 (by unfold rt; rw [if_pos (by (exact Nat.le_add_left _ _))]; (exact Nat.add_sub_cancel ..)) fun l hl => ?_
        have : rt n (t + ρ) l = t + ρ - l := by unfold rt; rw [if_pos (by lia)]
        rw [this]
        exact ih _ (by (exact Nat.lt_of_le_of_lt (Nat.sub_le _ _) (by assumption))) (by lia)
      · refine key (t + ρ - n) (by omega) (by unfold rt; rw [if_neg (by (clear hρ h1 q; omega))]; (clear hρ h1; omega)) fun l hl => ?_
        unfold rt
        split
        · exact hu _ (by (clear hρ h1 q hl; omega)) (by (clear hρ h1 hl; omega))
        · exact ih _ (by (clear hρ h1 q q2 hl; omega)) (by lia)
theorem ech_ok {n ρ : Nat} {k G : Nat → Rat} (hρ : ρ ≤ n) (hk : k ρ ≠ 0) (hG : G 0 ≠ 0) : ∀ (f c : Nat) (F : Nat → Nat → Rat) (pv : List Nat), c + f = n → pv.length = min c ρ → (∀ i l, i < n → l < min c ρ → F i l = if i = l then 1 else 0) →
    (∀ i, i < n → Ker n ρ k (F i)) → (∀ t, t < ρ → Spn n F (shk t G)) → EchQ n f c F pv (fun pv => pv.length = ρ)
  | 0, c, F, pv, hc, hp, _, _, _ => by show pv.length = ρ; lia
  | f + 1, c, F, pv, hc, hp, hu, hK, hS => by
    unfold EchQ
    by_cases q : c < ρ
    · have hm : min c ρ = c := by (clear hρ hc hp; lia)
      rw [hm] at hp hu
      rw [hp]
      refine ⟨fun hz => ?_, fun i h1 h2 h3 _ => ?_⟩
      · exfalso
        obtain ⟨α, hα⟩ := hS c q
        have ha : ∀ j, j < c → α j = 0 := fun j hj => by
          have := hα j (by lia)
          rw [sm_single (t := j) (by lia) (fun i hi hne => by rw [hu i j hi hj, if_neg hne]; (exact Rat.mul_zero _)), hu j j (by lia) hj, if_pos rfl] at this
          have e : shk c G j = 0 := by unfold shk; rw [if_pos hj]
          rw [e] at this; (lia)
        have := hα c (by (exact Nat.lt_of_lt_of_le (by assumption) (by assumption)))
        rw [sm_zero fun i hi => by
          by_cases q2 : i < c
          · rw [ha i q2]; (exact Rat.zero_mul _)
          · rw [hz i (by (exact Nat.le_of_not_lt (by assumption))) hi]; (exact Rat.mul_zero _)] at this
        have e : shk c G c = G 0 := by unfold shk; rw [if_neg (by (exact Nat.lt_irrefl _)), Nat.sub_self]
        rw [e] at this
        exact hG this
      · have hA : ∀ a, a < n → ∃ a', a' < n ∧ swpQ c i F a = F a' ∧ (a < c → a' = a) ∧ (c ≤ a → c ≤ a') := fun a ha => by
          unfold swpQ
          by_cases q1 : a = i
          · exact ⟨c, by (exact Nat.lt_of_lt_of_le (by assumption) (by assumption)), by rw [if_pos q1], fun _ => by (clear hρ hc q h2 ha; lia), fun _ => Nat.le_refl _⟩
          · by_cases q2 : a = c
            · exact ⟨i, h2, by rw [if_neg q1, if_pos q2], fun _ => by (clear hρ hc q h1 h2 ha q1; lia), fun _ => h1⟩
            · exact ⟨a, ha, by rw [if_neg q1, if_neg q2], fun _ => rfl, fun h => h⟩
        have hA' : ∀ a, a < n → ∃ a', a' < n ∧ F a = swpQ c i F a' := fun a ha => by
          unfold swpQ
          by_cases q1 : a = i
          · subst q1
            by_cases q2 : c = a
            · exact ⟨a, ha, by rw [if_pos rfl, q2]⟩
            · exact ⟨c, by (exact Nat.lt_of_lt_of_le (by assumption) (by assumption)), by rw [if_neg q2, if_pos rfl]⟩
          · by_cases q2 : a = c
            · exact ⟨i, h2, by rw [if_pos rfl, q2]⟩
            · exact ⟨a, ha, by rw [if_neg q1, if_neg q2]⟩
        have hAc : swpQ c i F c = F i := by
          unfold swpQ
          by_cases q1 : c = i
          · rw [if_pos q1, q1]
          · rw [if_neg q1, if_pos rfl]
        generalize hAe : swpQ c i F = A at *
        have hp0 : A c c ≠ 0 := by rw [hAc]; exact h3
        have hAu : ∀ a l, a < n → l < c → A a l = if a = l then 1 else 0 := fun a l ha hl => by
          obtain ⟨a', e1, e2, e3, e4⟩ := hA a ha
          rw [e2, hu a' l e1 hl]
          by_cases q1 : a < c
          · rw [e3 q1]
          · have := e4 (by (exact Nat.le_of_not_lt (by assumption)))
            rw [if_neg (by (clear hρ hc q h1 h2 ha e1 e3 e4 q1; lia)), if_neg (by (clear hρ hc q h1 h2 ha e1 e3 e4 this; lia))]
        have hAK : ∀ a, a < n → Ker n ρ k (A a) := fun a ha => by
          obtain ⟨a', e1, e2, _⟩ := hA a ha
          rw [e2]; exact hK a' e1
        have hB : ∀ a j, nrmQ c c A a j = if a = c then A c j / A c c else A a j := fun a j => rfl
        have hC : ∀ a j, clrQ c c (nrmQ c c A) a j = if a = c then nrmQ c c A a j else nrmQ c c A a j - nrmQ c c A a c * nrmQ c c A c j := fun a j => rfl
        have hBc : ∀ j, nrmQ c c A c j = A c j / A c c := fun j => by rw [hB, if_pos rfl]
        have hBn : ∀ a j, a ≠ c → nrmQ c c A a j = A a j := fun a j h => by rw [hB, if_neg h]
        have hCc : ∀ j, clrQ c c (nrmQ c c A) c j = A c j / A c c := fun j => by rw [hC, if_pos rfl, hBc]
        have hCn : ∀ a j, a ≠ c → clrQ c c (nrmQ c c A) a j = A a j - A a c * (A c j / A c c) := fun a j h => by rw [hC, if_neg h, hBn a j h, hBn a c h, hBc]
        refine ech_ok hρ hk hG f (c + 1) _ (pv ++ [c]) (by lia) (by rw [List.length_append, hp]; simp; lia) (fun a l ha hl => ?_) (fun a ha => ?_) (fun t ht => ?_)
        · by_cases e : l < c
          · have z : A c l = 0 := by rw [hAu c l (by (exact Nat.lt_of_lt_of_le (by assumption) (by assumption))) e, if_neg (by (exact Nat.ne_of_gt (by assumption)))]
            by_cases q1 : a = c
            · subst q1
              rw [hCc, z, if_neg (by (exact Nat.ne_of_gt (by assumption)))]; (exact Rat.zero_mul _)
            · rw [hCn a l q1, z, hAu a l ha e]
              split <;> grind
          · have : l = c := by (clear hρ hc h1 h2 ha; lia)
            subst this
            by_cases q1 : a = l
            · subst q1
              rw [hCc, if_pos rfl]; grind
            · rw [hCn a l q1, if_neg q1]; grind
        · by_cases q1 : a = c
          · subst q1
            exact ((hAK a ha).lin (hAK a ha) (A a a)⁻¹ 0).congr hρ fun j _ => by rw [hCc]; grind
          · exact ((hAK a ha).lin (hAK c (by (exact Nat.lt_of_lt_of_le (by assumption) (by assumption)))) 1 (-(A a c * (A c c)⁻¹))).congr hρ fun j _ => by rw [hCn a j q1]; grind
        · refine (hS t ht).trans fun a ha => ?_
          obtain ⟨a', e1, e2⟩ := hA' a ha
          rw [e2]
          by_cases q1 : a' = c
          · subst q1
            exact ((Spn.row (F := clrQ a' a' (nrmQ a' a' A)) e1).lin Spn.zero (A a' a') 0).congr fun j _ => by rw [hCc]; grind
          · exact ((Spn.row (F := clrQ c c (nrmQ c c A)) e1).lin (Spn.row (by (exact Nat.lt_of_lt_of_le (by assumption) (by assumption)) : c < n)) 1 (A a' c)).congr fun j _ => by rw [hCc, hCn _ _ q1]; grind
    · have hm : min c ρ = ρ := by (clear hρ hc hp; lia)
      rw [hm] at hp hu
      have hzero : ∀ i, ρ ≤ i → i < n → F i c = 0 := fun i h1 h2 =>
        (hK i h2).kill hρ hk (fun l hl _ => by rw [hu i l h2 hl, if_neg (by lia)]) n c (by lia) (by (exact Nat.le_add_left _ _))
      rw [hp]
      refine ⟨fun _ => ech_ok hρ hk hG f (c + 1) F pv (by lia) (by (clear hρ hm; lia)) (fun i l hi hl => hu i l hi (by (clear hρ hp hm hi; lia))) hK hS, fun i h1 h2 h3 _ => absurd (hzero i h1 h2) h3⟩
end Mine
namespace Mine
theorem EchQ.mono {n : Nat} {R R' : List Nat → Prop} (hR : ∀ pv, R pv → R' pv) : ∀ (f c : Nat) (F : Nat → Nat → Rat) (pv : List Nat), EchQ n f c F pv R → EchQ n f c F pv R'
  | 0, _, _, _, h => hR _ h
  | f + 1, c, F, pv, h => ⟨fun q => EchQ.mono hR f _ _ _ (h.1 q), fun i h1 h2 h3 h4 => EchQ.mono hR f _ _ _ (h.2 i h1 h2 h3 h4)⟩
theorem circ_rt {n : Nat} {r : Nat → Int} {l c : Nat} : castM (circ n r 1) l c = (r (rt n c l) : Rat) := by unfold castM; rw [circ_r]
theorem rows_per {n : Nat} (h : okN n) {r : Nat → Int} : ∀ l c, c < n → rowsF n r (n + l) c = rowsF n r l c
  | 0, c, hc => by
    rw [Nat.add_zero, rowsF_eq h (Nat.le_refl _) hc, rowsF_eq h (Nat.zero_le _) hc, circ_rt, circ_rt]
    unfold rt
    rw [if_neg (by (exact Nat.not_le_of_lt (by assumption))), if_pos (by (exact Nat.zero_le _))]
    congr 2; (exact Nat.add_sub_cancel_left ..)
  | l + 1, c, hc => by
    show shf (rowsF n r (n + l)) c - rowsF n r (n + l) (n - 1) * _ = shf (rowsF n r l) c - rowsF n r l (n - 1) * _
    rw [rows_per h l (n - 1) (by omega)]
    congr 1
    unfold shf
    split
    · rfl
    · exact rows_per h l (c - 1) (by (exact Nat.lt_of_le_of_lt (Nat.sub_le _ _) (by assumption)))
theorem rows_spn {n : Nat} (h : okN n) {r : Nat → Int} : ∀ (m l : Nat), l < m → Spn n (castM (circ n r 1)) (rowsF n r l)
  | 0, l, hl => by (exact absurd (by assumption) (Nat.not_lt_zero _))
  | m + 1, l, hl => by
    have hn := h.le
    by_cases q : l < n
    · exact (Spn.row q).congr fun j hj => rowsF_eq h (by (exact Nat.le_of_lt (by assumption))) hj
    · refine (rows_spn h m (l - n) (by lia)).congr fun j hj => ?_
      rw [← rows_per h (l - n) j hj]; congr 1; lia
theorem rank_ok {n : Nat} (h : okN n) {r : Nat → Int} {β : Nat} {x y : T3} (E : EI n (cfq (wh n)) (red n (cfq (wh n)) (cfq (fl n r))) β x y) (hy : y.1 = []) (h0 : cq x.1 0 ≠ 0) :
    EchQ n n 0 (castM (circ n r 1)) [] (fun pv => pv.length = n + 1 - x.1.length) := by
  have hn := h.le
  have hlx := E.lxy
  rw [hy] at hlx
  have hlx1 : 1 ≤ x.1.length := by simp at hlx; (assumption)
  have hl := E.lx
  have h2 := E.l2
  have h1 := E.l1
  have hk : cq y.2.1 (n + 1 - x.1.length) ≠ 0 := by
    have := E.q2
    unfold lq at this
    rwa [show y.2.1.length - 1 = n + 1 - x.1.length by (clear hn hlx hlx1 h1; lia)] at this
  refine ech_ok (k := cq y.2.1) (G := cq x.1) (by (clear hn hlx h1; lia)) hk h0 n 0 _ [] (by (exact Nat.add_comm ..)) (by simp) (fun i l hi hl => by (exact absurd (by assumption) (Nat.not_lt_zero _))) (fun i hi c hc => ?_) (fun t ht => ?_)
  · have hr := E.ry (rt n c i) (rt_lt hc (by (exact Nat.le_of_lt (by assumption))))
    have hz : red n (cfq (wh n)) (cq y.1) (rt n c i) = 0 := by
      rw [hy]
      rw [red_low cq_nil, cq_nil]
    rw [hz, sm_cut (k := n + 1 - x.1.length + 1) (by (clear hn hlx h1 hi hc; lia)) (fun l hl => by rw [cq_ge (by (clear hn hlx hlx1 h1 hi hc; omega))]; (exact Rat.zero_mul _))] at hr
    rw [hr]
    refine sm_congr fun l hl => ?_
    show _ * _ = cq y.2.1 l * rowsF n r l (rt n c i)
    rw [rowsF_eq h (by (clear hn hlx h1 hi hc; lia)) (rt_lt hc (by (exact Nat.le_of_lt (by assumption)))), circ_rt, circ_rt, rt_comm h c hc l (by (clear hn hlx h1 hi hc; lia)) i (by (exact Nat.lt_succ_of_lt (by assumption)))]
  · have hx : Rp n (2 * n + 1) (cfq (wh n)) (red n (cfq (wh n)) (cfq (fl n r))) (cq x.1) (cq x.2.1) := fun c hc => by
      rw [E.rx c hc, sm_cut (k := n + 1) (n := 2 * n + 1) (by lia) (fun l hl => by rw [cq_ge (by (clear hn hlx ht hc; lia))]; (exact Rat.zero_mul _))]
    have hs := hx.shk (m := x.1.length) (T := n) (by lia) (fun c hc => cq_ge hc) (fun l hl => cq_ge (by (clear hn hlx ht; lia))) t (by (clear hn hlx hlx1 h1; lia)) (by (clear hn hlx h1; lia))
    refine (Spn.sum (F := castM (circ n r 1)) (α := shk t (cq x.2.1)) (G := rowsF n r) (2 * n + 1) fun i _ => rows_spn h (i + 1) i (by (exact Nat.le_refl _))).congr fun j hj => ?_
    rw [← red_low (n := n) (a := cfq (wh n)) (u := shk t (cq x.1)) (by unfold shk; rw [if_neg (by (clear hn hlx h1 hj; lia))]; exact cq_ge (by (clear hn hlx h1 hj; omega))) j]
    exact hs j hj
end Mine
namespace Mine
theorem atv_abs {n o s : Nat} {r : Nat → Int} (hr : ∀ i, (r i).natAbs ≤ 3) : (atv n o r s).natAbs ≤ n / o * 3 := by
  unfold atv
  have key : ∀ l : List Nat, ((l.map fun j => r (s + j * o)).sum).natAbs ≤ l.length * 3 := by
    intro l
    induction l with
    | nil => simp
    | cons x l ih =>
      simp only [List.map_cons, List.sum_cons, List.length_cons]
      have h1 := Int.natAbs_add_le (r (s + x * o)) ((l.map fun j => r (s + j * o)).sum)
      have h2 := hr (s + x * o)
      lia
  have := key (List.range (n / o))
  rwa [List.length_range] at this
theorem cycP_abs {n : Nat} {r q : Nat → Int} (hr : ∀ i, (r i).natAbs ≤ 3) (hq : ∀ i, (q i).natAbs ≤ 3) (s : Nat) : ∀ t, (cycP n r q t s).natAbs ≤ t * 9
  | 0 => by simp [cycP]
  | t + 1 => by
    rw [cycP]
    have h1 := cycP_abs hr hq s t (n := n)
    have h2 : (r t * q ((s + n - t) % n)).natAbs ≤ 9 := by
      rw [Int.natAbs_mul]
      exact Nat.le_trans (Nat.mul_le_mul (hr _) (hq _)) (by decide)
    have h3 := Int.natAbs_add_le (cycP n r q t s) (r t * q ((s + n - t) % n))
    lia
theorem scale_len {l : List Rat} {x : Rat} (h : x ≠ 0) : (qscale l x).length = l.length := by unfold qscale; rw [if_neg h]; simp
theorem inv_ne {x : Rat} (h : x ≠ 0) : x⁻¹ ≠ 0 := by
  intro q
  have : x * x⁻¹ = 1 := by grind
  rw [q] at this
  revert this
  (simp)
theorem whole_q {num : Int} {x : Rat} {z : Int} (h : (num : Rat) * x = (z : Rat)) : num * x.num = z * (x.den : Int) := by
  have hden : (x.den : Int) ≠ 0 := by have := x.den_nz; lia
  apply Rat.intCast_inj.mp
  rw [Rat.intCast_mul, Rat.intCast_mul, ← h]
  have e := Rat.num_divInt_den x
  rw [Rat.divInt_eq_div] at e
  have hq : ((x.den : Int) : Rat) ≠ 0 := q0 hden
  generalize (x.num : Rat) = p at *
  generalize ((x.den : Int) : Rat) = d at *
  generalize (num : Rat) = m at *
  grind
theorem plain {n : Nat} {r q : Nat → Int} (h : okN n) (hr' : ∀ i, -3 ≤ r i ∧ r i ≤ 3) (hq' : ∀ i, -3 ≤ q i ∧ q i ≤ 3) : ∃ num P f X, LawOk n r q num P f X := by
  have hn := h.le
  have hr : ∀ i, (r i).natAbs ≤ 3 := fun i => by have := hr' i; (clear hn; omega)
  have hq : ∀ i, (q i).natAbs ≤ 3 := fun i => by have := hq' i; (clear hn; omega)
  have hcirc : ∀ i j, (circ n r 1 i j).natAbs ≤ 3 := fun i j => by
    unfold circ
    split
    · exact hr _
    · rw [Int.one_mul]; exact hr _
  obtain ⟨num, hnum, hnb⟩ : Wz (fac n * 100 ^ n) (dt n (castM (circ n r 1))) := Wz.dt fun i j hi hj => ⟨circ n r 1 i j, rfl, Nat.le_trans (hcirc i j) (by decide)⟩
  have hprod : prodF n r [1, 2, 3, 4, 6] 1 = num := by
    apply Rat.intCast_inj.mp
    rw [← dt_circ h, hnum]
  have hsn : Sz 64 num := by
    have := natFac n hn.2
    unfold Sz; (exact Nat.lt_of_le_of_lt (by assumption) (by assumption))
  obtain ⟨t1, ⟨β, y', E, hy⟩, t3⟩ := ex_top h hr
  generalize hX0 : exS 9 (toQ (fl n r), [1], []) (toQ (wh n), [], [1]) = X0 at *
  have hlxy := E.lxy
  rw [hy] at hlxy
  have hx1 : 1 ≤ X0.1.length := by simp at hlxy; (assumption)
  have hx2 := E.lx
  have hx3 := E.l1
  have hne : X0.1 ≠ [] := by intro e; rw [e] at hx1; simp at hx1
  have hg := E.qx hne
  have hgi := inv_ne hg
  have hX : exR X0 = (qscale X0.1 (lq X0.1)⁻¹, qscale X0.2.1 (lq X0.1)⁻¹, qscale X0.2.2 (lq X0.1)⁻¹) := by unfold exR; rw [if_neg hne]
  have hlen1 : (exR X0).1.length = X0.1.length := by rw [hX]; exact scale_len hgi
  have hlen2 : (exR X0).2.1.length = X0.2.1.length := by rw [hX]; exact scale_len hgi
  have hs : ∀ l, cq (exR X0).2.1 l = cq X0.2.1 l * (lq X0.1)⁻¹ := fun l => by rw [hX]; exact cq_scale
  -- the factor times the determinant
  have hsum : num ≠ 0 → ∀ c, c < n → sm n (fun l => cq (exR X0).2.1 l * castM (circ n r 1) l c) = if c = 0 then 1 else 0 := by
    intro h0 c hc
    have hu : X0.1.length = 1 := ex_unit h E hy (by rw [hnum]; exact q0 h0)
    have hrx := E.rx c hc
    rw [red_low (cq_ge (by lia)), sm_cut (k := n) (by (exact Nat.le_succ _)) (fun l hl => by rw [cq_ge (by lia)]; (exact Rat.zero_mul _))] at hrx
    have e1 : sm n (fun l => cq (exR X0).2.1 l * castM (circ n r 1) l c) = (lq X0.1)⁻¹ * cq X0.1 c := by
      rw [hrx, ← sm_mul]
      refine sm_congr fun l hl => ?_
      rw [hs]
      show _ = _ * (_ * rowsF n r l c)
      rw [rowsF_eq h (by (exact Nat.le_of_lt (by assumption))) hc]; grind
    rw [e1]
    by_cases hc0 : c = 0
    · subst hc0
      have : cq X0.1 0 = lq X0.1 := by unfold lq; rw [hu]
      rw [this, if_pos rfl]; grind
    · rw [if_neg hc0, cq_ge (by lia)]; (exact Rat.mul_zero _)
  have hwhole : num ≠ 0 → ∀ l, l < n → ∃ z : Int, (num : Rat) * cq (exR X0).2.1 l = (z : Rat) := by
    intro h0 l hl
    have e := dt_span2 (n := n) (t := l) (M := castM (circ n r 1)) (c := cq (exR X0).2.1) hl n (Nat.le_refl _)
    rw [if_pos hl, hnum] at e
    obtain ⟨z, hz, _⟩ : Wz (fac n * 100 ^ n) (dt n (upd (castM (circ n r 1)) l (fun j => sm n (fun m => cq (exR X0).2.1 m * castM (circ n r 1) m j)))) := Wz.dt fun i j hi hj => by
      by_cases e : i = l
      · subst e
        rw [upd_at, hsum h0 j hj]
        split
        · exact Wz.one.mono (by decide)
        · exact Wz.zero
      · rw [upd_ne e]
        exact ⟨circ n r 1 i j, rfl, Nat.le_trans (hcirc i j) (by decide)⟩
    exact ⟨z, by rw [← hz, e]; (exact Rat.mul_comm _ _)⟩
  have hden : ∀ x : Rat, (x.den : Int) ≠ 0 := fun x => by have := x.den_nz; lia
  refine ⟨num, 400000, 9, exR X0, ⟨fun i => ?_, fun i => ?_, hsn, ?_, hprod, fun o ho hno => ⟨fun s hs => ?_, ?_⟩, fun o ho hno => res_cyc h ho hno hr, res_wh h hr hnum, fun h2 => ?_, by decide, by decide, t1, by rw [hX0], by lia, ?_, fun i j hi hj => comm_ok h r q i j hi hj, fun i hi => ?_, fun h0 => by lia, fun h0 x hx => ?_, fun h0 i j hi hj => ?_⟩⟩
  · unfold Sz; have := hr i; (exact Nat.lt_of_le_of_lt (by assumption) (Nat.le_of_ble_eq_true rfl))
  · unfold Sz; have := hq i; (exact Nat.lt_of_le_of_lt (by assumption) (Nat.le_of_ble_eq_true rfl))
  · exact det_ok hn.2 (fun i j _ _ => Nat.le_trans (hcirc i j) (by decide)) hnum
  · have h1 := atv_abs (n := n) (o := o) (s := s) hr
    have h2 : n / o ≤ n := Nat.div_le_self _ _
    unfold Sz; lia
  · rw [form_nrm h ho hno]
    have hb := fun c hc => ph_abs (o := o) (c := c) (l := cf (fl n r)) (B := 3) ho hc (fl_abs hr)
    exact nrm_abs (B := 18) (hb 0 (by decide)) (hb 1 (by decide)) (by decide)
  · have hp : ∀ i, (plusR n r i).natAbs ≤ 6 := fun i => by
      unfold plusR
      have := hr i
      have := hr (i + n / 2)
      (clear hn hnb hprod hlxy hx1 hx2 hx3 hlen1 hlen2 hsum hwhole h2; omega)
    have hl : ∀ i, (lessR n r i).natAbs ≤ 6 := fun i => by
      unfold lessR
      have := hr i
      have := hr (i + n / 2)
      (clear hn hnb hprod hlxy hx1 hx2 hx3 hlen1 hlen2 hsum hwhole h2; omega)
    have c1 : ∀ i j, (circ (n / 2) (plusR n r) 1 i j).natAbs ≤ 6 := fun i j => by
      unfold circ
      split
      · exact hp _
      · rw [Int.one_mul]; exact hp _
    have c2 : ∀ i j, (circ (n / 2) (lessR n r) (-1) i j).natAbs ≤ 6 := fun i j => by
      unfold circ
      split
      · exact hl _
      · rw [Int.natAbs_mul, show (-1 : Int).natAbs = 1 from rfl, Nat.one_mul]; exact hl _
    have hn2 : n / 2 ≤ 6 := by lia
    obtain ⟨d1, e1, b1⟩ : Wz (fac (n / 2) * 100 ^ (n / 2)) (dt (n / 2) (castM (circ (n / 2) (plusR n r) 1))) := Wz.dt fun i j hi hj => ⟨_, rfl, Nat.le_trans (c1 i j) (by decide)⟩
    obtain ⟨d2, e2, b2⟩ : Wz (fac (n / 2) * 100 ^ (n / 2)) (dt (n / 2) (castM (circ (n / 2) (lessR n r) (-1)))) := Wz.dt fun i j hi hj => ⟨_, rfl, Nat.le_trans (c2 i j) (by decide)⟩
    refine ⟨d1, d2, det_ok hn2 (fun i j _ _ => Nat.le_trans (c1 i j) (by decide)) e1, det_ok hn2 (fun i j _ _ => Nat.le_trans (c2 i j) (by decide)) e2, ?_, ?_⟩
    · apply Rat.intCast_inj.mp
      rw [Rat.intCast_mul, ← e1, ← e2, half_ok h h2, hprod]
    · have := natFac (n / 2) hn2
      unfold Sz; (exact Nat.lt_of_le_of_lt (by assumption) (by assumption))
  · refine EchQ.mono (fun pv hpv => ?_) _ _ _ _ (rank_ok h E hy t3)
    rw [hlen1]
    have : pv.length = n + 1 - X0.1.length := hpv
    (clear hnb hprod hx1 hx3 hlen1 hlen2 hsum hwhole this; omega)
  · have := cycP_abs (n := n) hr hq i n
    unfold Sz
    show (cycP n r q n i).natAbs < _
    lia
  · obtain ⟨l, hl, rfl⟩ := List.getElem_of_mem hx
    have e : (exR X0).2.1[l] = cq (exR X0).2.1 l := by unfold cq; rw [List.getD_eq_getElem?_getD, List.getElem?_eq_getElem hl]; rfl
    rw [e]
    obtain ⟨z, hz⟩ := hwhole h0 l (by lia)
    rw [whole_q hz, Int.mul_fmod_left]
  · rw [comm_ok h r _ i j hi hj]
    have ht : ∀ l, l < n → ((turnR num (exR X0).2.1 l : Int) : Rat) = (num : Rat) * cq (exR X0).2.1 l := fun l hl => by
      unfold turnR
      by_cases q1 : l < (exR X0).2.1.length
      · rw [if_pos q1]
        obtain ⟨z, hz⟩ := hwhole h0 l hl
        rw [whole_q hz, Int.mul_fdiv_cancel _ (hden _), hz]
      · rw [if_neg q1, cq_ge (by (exact Nat.le_of_not_lt (by assumption))), Rat.mul_zero]; rfl
    have hc : ∀ m, m < n → cyc n r (turnR num (exR X0).2.1) m = oneR num m := fun m hm => by
      apply Rat.intCast_inj.mp
      rw [cyc_rows h r _ m hm, smI_cast]
      have e1 : sm n (fun l => ((turnR num (exR X0).2.1 l * circ n r 1 l m : Int) : Rat)) = (num : Rat) * sm n (fun l => cq (exR X0).2.1 l * castM (circ n r 1) l m) := by
        rw [← sm_mul]
        refine sm_congr fun l hl => ?_
        rw [Rat.intCast_mul, ht l hl]
        show _ * castM (circ n r 1) l m = _
        (exact Rat.mul_assoc _ _ _)
      rw [e1, hsum h0 m hm]
      unfold oneR
      by_cases q1 : m = 0
      · rw [if_pos q1, if_pos q1, Rat.mul_one]
      · rw [if_neg q1, if_neg q1, Rat.mul_zero]; rfl
    unfold circ
    split
    · exact hc _ (by (exact Nat.lt_of_le_of_lt (Nat.sub_le _ _) (by assumption)))
    · rw [hc _ (by (clear hn hnb hprod hlxy hx1 hx2 hx3 hlen1 hlen2 hsum hwhole h0 hj; omega))]
end Mine
theorem PySem.Challenge.cw_xm0097_01_holds : PySem.Challenge.rw_xm0097_01.Holds := by
  exact Mine.opened fun _ _ _ h hr hq => Mine.plain h hr hq
