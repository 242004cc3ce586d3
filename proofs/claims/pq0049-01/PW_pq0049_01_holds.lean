import PyProof.Rows.All
import Wide.All
import OpenK.AllK
import Wide.FinOn
import PySem.Challenge.RW_pq0049_01
set_option compiler.extract_closed false
section
open PySem PySem.W PyProof.Rows
set_option Elab.async false
set_option maxRecDepth 100000
set_option maxHeartbeats 8000000
namespace Mine
def keepAt (is : List Nat) (b : List Stmt) : List Stmt := is.filterMap fun i => b[i]?
abbrev rowW : RowW := OpenRow.toRowW PySem.Challenge.rw_pq0049_01.row
def view : Program := { rowW.prog with main := { rowW.prog.main with body := keepAt [1, 2, 3, 4, 6, 7, 9, 10, 11, 12, 13, 14, 15, 16, 17, 18, 19, 20, 21, 22, 23, 24, 25, 26, 27, 28, 29, 30, 31, 33, 34, 35, 36, 37, 38, 39, 40, 41, 42, 43, 44, 45] rowW.prog.main.body } }
theorem law_said : PySem.Challenge.rw_pq0049_01.wellSaid = true := by
  rw [PySem.W.Fast.te9446332074065402090]
  kernel_rfl
noncomputable def runT (ST : SharedT → Thread → Option (SharedT × Thread)) (OK : Thread → Bool) : Nat → SharedT → Thread → Option SharedT
  | 0, _, _ => none
  | n + 1, s, t => match through t with
    | true => some s
    | false => match OK t with
      | false => none
      | true => match ST s t with
        | some (s', t') => runT ST OK n s' t'
        | none => none
theorem runT_of {tb : String → Option Builtin} {p : Program} {w : World} {n₀ : Nat} {ann : Option Value} : ∀ {n : Nat} {s r : SharedT} {t : Thread},
    runT (stepT (denote tb) p w) (stepOk n₀ ann) n s t = some r → topRun tb p w n₀ ann n s.abs t = some r.abs
  | 0, _, _, _, h => by cases h
  | n + 1, s, r, t, h => by
    unfold runT at h
    unfold topRun
    cases he : through t with
    | true => rw [he] at h; cases h; rfl
    | false =>
      rw [he] at h
      cases hk : stepOk n₀ ann t with
      | false => rw [hk] at h; cases h
      | true =>
        rw [hk] at h
        cases hs : stepT (denote tb) p w s t with
        | none => rw [hs] at h; cases h
        | some q => obtain ⟨s₂, t₂⟩ := q; rw [hs] at h; rw [stepT_spec hs]; exact runT_of h
noncomputable def treeOf (l : List Obj) : BT := (l.foldl (fun (a : BT × Nat) o => (a.1.ins a.2 o, a.2 + 1)) (.nil, 0)).1
noncomputable def bootT (w : World) (os : OsState) : SharedT := ⟨treeOf (boot_heap w.params).objs.toList, (boot_heap w.params).objs.size, (boot_heap w.params).life, #[], boot_drawn, boot_toks, os⟩
theorem bootT_abs (w : World) (os : OsState) : (bootT w os).abs = ⟨boot_heap w.params, #[], boot_drawn, boot_toks, os⟩ := by kernel_rfl
theorem leftO_boot {p q : Program} {loose : List Str} {Xt : Shared → Bool} {α : Type} {Yf : Shared → α} {Ya : World → α} {N : Nat} {g0 : Bool}
    {ST : (Code → Sem PySem.Fin) → Program → World → SharedT → Thread → Option (SharedT × Thread)} {OK : Nat → Option Value → Thread → Bool} {DE : (String → Option Builtin) → Code → Sem PySem.Fin} {tb : String → Option Builtin} {OS : Program → List Str → List Str → (Shared → Bool) → Bool → Shared → _}
    (hS : @stepT = ST) (hK : @stepOk = OK) (hD : @denote = DE) (htb : treeTable = tb) (hO : @openSeen = OS) (e : opening p = plainProg p.main.scope.names) (hN : Nat.ble 600 N = true) (f : ∀ s, fenceModules? p s = some s)
    (rest : ∀ (w : World) (os : OsState), (match (boot_heap w.params).isNs mainGlobals with
      | true => (runT (ST (DE tb) p w) (OK (boot_heap w.params).objs.size ((boot_heap w.params).nsMap mainGlobals "__annotations__")) N (bootT w os) (topStub p)).bind fun r => match staticsOk (importedModules p.main.body) (boot_heap w.params) r.abs.heap && namesBound p r.abs.heap && gensDone r.abs && laidKept (boot_heap w.params) r.abs.heap with
        | true => some (OS q loose (importedModules p.main.body) Xt g0 r.abs, Yf r.abs)
        | false => none
      | false => none) = some (openGood q loose, Ya w)) : LeftO p q loose Xt Yf Ya N g0 := fun w => by
  subst hS; subst hK; subst hD; subst htb; subst hO
  obtain ⟨⟨h, gs, d, k, os⟩, eo, e'⟩ := Option.map_eq_some_iff.mp (boot_open e hN f w)
  obtain ⟨rfl, rfl, rfl, rfl⟩ : h = boot_heap w.params ∧ gs = #[] ∧ d = boot_drawn ∧ k = boot_toks := by simpa using e'
  have r := rest w os
  unfold openEnds
  rw [eo]
  show (topFrom treeTable p w N _).map _ = _
  unfold topFrom
  dsimp only
  cases hn : (boot_heap w.params).isNs mainGlobals with
  | false => rw [hn] at r; cases r
  | true =>
    rw [hn] at r
    dsimp only at r
    show Option.map _ ((topRun treeTable p w (boot_heap w.params).objs.size ((boot_heap w.params).nsMap mainGlobals "__annotations__") N ⟨boot_heap w.params, #[], boot_drawn, boot_toks, os⟩ (topStub p)).bind _) = _
    cases ht : runT (stepT (denote treeTable) p w) (stepOk (boot_heap w.params).objs.size ((boot_heap w.params).nsMap mainGlobals "__annotations__")) N (bootT w os) (topStub p) with
    | none => rw [ht] at r; cases r
    | some s₁ =>
      rw [ht] at r
      have ht' := runT_of ht
      rw [bootT_abs] at ht'
      rw [ht']
      simp only [Option.bind_some] at r ⊢
      cases hb : staticsOk (importedModules p.main.body) (boot_heap w.params) s₁.abs.heap && namesBound p s₁.abs.heap && gensDone s₁.abs && laidKept (boot_heap w.params) s₁.abs.heap with
      | false => rw [hb] at r; cases r
      | true => rw [hb] at r; exact r
local macro_rules | `(tactic| o_law) => `(tactic| refine holds_law law_said fun said => ?_)
local macro_rules | `(tactic| o_head $H) => `(tactic| (
  refine holds_open (q := view) (loose := []) (Xt := fun s => xlAt view [] s && recOk (RowW.records rowW) s) (XP := XL view []) (Yf := Hook.obs $H) (Ya := Hook.val $H) (YP := Hook.says $H) (N := 4918) ?hl (Hook.of $H) (Hook.keeps $H) (fun s e => xl_of s (Bool.and_eq_true_iff.mp e).1) XL.keeps (by rfl) (by rfl) (by rfl) (fun s e => recFacts_of (Bool.and_eq_true_iff.mp e).2) (by rfl) (by assumption) (by decide +kernel) ⟨rfl, rfl, rfl, rfl, rfl, by decide +kernel⟩ ?hw ?hc
  (case hl => exact leftO_boot PySem.W.Fast.te10156331382660048174 PySem.W.Fast.te6613529449190102663 PySem.W.Fast.te11892475500146522536 PySem.W.Fast.te14364793385576792824 PySem.W.Fast.te4187177175401517315 (by kernel_rfl) rfl (fun s => by kernel_rfl) fun w os => by kernel_rfl)))
open_top hd for PySem.Challenge.rw_pq0049_01
end Mine
end
local macro_rules | `(tactic| omega) => `(tactic| first | decide | lia)
section
set_option tactic.hygienic false
open PySem PySem.W PyProof.Rows PySem.Spec PySem.Calls
set_option Elab.async false
set_option maxRecDepth 100000
set_option autoImplicit false
namespace Mine

inductive V where
  | none
  | bool (b : Bool)
  | int (i : Int)
  | str (x : Str)
  | tup (l : List V)
  | list (l : List V)
  | obj (i : Nat)
  | fn (v : Value)

inductive MO where
  | list (l : List V)
  | dict (es : List (Str × V))
  | inst (d : Nat)

noncomputable abbrev St := List MO

mutual
noncomputable def VR (h : Heap) (hid : List Addr) : V → Value → Prop
  | .none, v => v = .none
  | .bool b, v => v = .bool b
  | .int i, v => ∃ t, v = .int i t
  | .str x, v => ∃ t, v = .str x t
  | .tup ds, v => ∃ a xs n, v = .ref a ∧ IsT h a (List.toArray xs) n ∧ a ∉ hid ∧ VRs h hid ds xs
  | .list ds, v => ∃ a xs n, v = .ref a ∧ IsL h a (List.toArray xs) n ∧ a ∉ hid ∧ VRs h hid ds xs
  | .obj i, v => ∃ a, v = .ref a ∧ hid[i]? = some a
  | .fn u, v => v = u
noncomputable def VRs (h : Heap) (hid : List Addr) : List V → List Value → Prop
  | [], [] => True
  | d :: ds, v :: vs => VR h hid d v ∧ VRs h hid ds vs
  | [], _ :: _ => False
  | _ :: _, [] => False
end

theorem VRs.length {h : Heap} {hid : List Addr} : ∀ {ds : List V} {vs : List Value}, VRs h hid ds vs → ds.length = vs.length
  | [], [], _ => rfl
  | _ :: _, _ :: _, x => by
    rw [VRs] at x
    rw [List.length_cons, List.length_cons, VRs.length x.2]
  | [], _ :: _, x => by rw [VRs] at x; exact x.elim
  | _ :: _, [], x => by rw [VRs] at x; exact x.elim

theorem VRs.get {h : Heap} {hid : List Addr} : ∀ {ds : List V} {vs : List Value} {i : Nat} {d : V}, VRs h hid ds vs → ds[i]? = some d → ∃ v, vs[i]? = some v ∧ VR h hid d v
  | d :: ds, v :: vs, 0, d', x, e => by
    rw [VRs] at x
    cases e
    exact ⟨v, rfl, x.1⟩
  | d :: ds, v :: vs, i + 1, d', x, e => by
    rw [VRs] at x
    obtain ⟨v', e', r⟩ := VRs.get (i := i) x.2 (by simpa using e)
    exact ⟨v', by simpa using e', r⟩
  | [], [], _, _, _, e => by simp at e
  | [], _ :: _, _, _, x, _ => by rw [VRs] at x; exact x.elim
  | _ :: _, [], _, _, x, _ => by rw [VRs] at x; exact x.elim

theorem VRs.append {h : Heap} {hid : List Addr} : ∀ {ds ds' : List V} {vs vs' : List Value}, VRs h hid ds vs → VRs h hid ds' vs' → VRs h hid (ds ++ ds') (vs ++ vs')
  | [], _, [], _, _, y => y
  | d :: ds, _, v :: vs, _, x, y => by
    rw [VRs] at x
    show VRs h hid (d :: (ds ++ _)) (v :: (vs ++ _))
    rw [VRs]
    exact ⟨x.1, VRs.append x.2 y⟩
  | [], _, _ :: _, _, x, _ => by rw [VRs] at x; exact x.elim
  | _ :: _, _, [], _, x, _ => by rw [VRs] at x; exact x.elim

theorem VRs.drop {h : Heap} {hid : List Addr} : ∀ (n : Nat) {ds : List V} {vs : List Value}, VRs h hid ds vs → VRs h hid (ds.drop n) (vs.drop n)
  | 0, _, _, x => by simpa using x
  | n + 1, [], [], _ => by simp [VRs]
  | n + 1, d :: ds, v :: vs, x => by
    rw [VRs] at x
    exact VRs.drop n x.2
  | _ + 1, [], _ :: _, x => by rw [VRs] at x; exact x.elim
  | _ + 1, _ :: _, [], x => by rw [VRs] at x; exact x.elim

theorem VRs.take {h : Heap} {hid : List Addr} : ∀ (n : Nat) {ds : List V} {vs : List Value}, VRs h hid ds vs → VRs h hid (ds.take n) (vs.take n)
  | 0, _, _, _ => by simp [VRs]
  | n + 1, [], [], _ => by simp [VRs]
  | n + 1, d :: ds, v :: vs, x => by
    rw [VRs] at x
    show VRs h hid (d :: ds.take n) (v :: vs.take n)
    rw [VRs]
    exact ⟨x.1, VRs.take n x.2⟩
  | _ + 1, [], _ :: _, x => by rw [VRs] at x; exact x.elim
  | _ + 1, _ :: _, [], x => by rw [VRs] at x; exact x.elim

theorem VRs.nil {h : Heap} {hid : List Addr} : VRs h hid [] [] := by rw [VRs]; trivial
theorem VRs.cons {h : Heap} {hid : List Addr} {d : V} {v : Value} {ds : List V} {vs : List Value} (x : VR h hid d v) (y : VRs h hid ds vs) : VRs h hid (d :: ds) (v :: vs) := by
  rw [VRs]; exact ⟨x, y⟩

noncomputable def notSeq (o : Obj) : Prop := ∀ xs n, o.data ≠ .seq xs n

noncomputable def isDct (o : Obj) : Prop := ∃ es ep, o.data = .dict es ep
noncomputable def SameD (o o' : Obj) : Prop := o' = o ∨ (isDct o ∧ o'.cls = o.cls ∧ o'.dict = o.dict ∧ o'.data = o.data)
theorem SameD.refl (o : Obj) : SameD o o := .inl rfl
theorem SameD.data {o o' : Obj} (x : SameD o o') : o'.data = o.data := x.elim (fun e => by rw [e]) fun e => e.2.2.2
theorem SameD.trans {a b c : Obj} (x : SameD a b) (y : SameD b c) : SameD a c := by
  rcases x with rfl | x
  · exact y
  · rcases y with rfl | y
    · exact .inr x
    · exact .inr ⟨x.1, y.2.1.trans x.2.1, y.2.2.1.trans x.2.2.1, y.2.2.2.trans x.2.2.2⟩

structure Evo (ex : List Addr) (h h' : Heap) : Prop where
  alive : ∀ b o, h.get? b = some o → ∃ o', h'.get? b = some o'
  keep : ∀ b o, h.get? b = some o → b ∉ ex → ∃ o', h'.get? b = some o' ∧ SameD o o'
theorem Evo.refl (ex : List Addr) (h : Heap) : Evo ex h h := ⟨fun _ o e => ⟨o, e⟩, fun _ o e _ => ⟨o, e, SameD.refl o⟩⟩
theorem Evo.mono {ex ex' : List Addr} {h h' : Heap} (x : Evo ex h h') (m : ∀ a, a ∈ ex → a ∈ ex') : Evo ex' h h' := ⟨x.alive, fun b o e n => x.keep b o e fun q => n (m _ q)⟩
theorem Evo.of_keep {ex : List Addr} {h h' : Heap} (k : ∀ b o, h.get? b = some o → h'.get? b = some o) : Evo ex h h' := ⟨fun b o e => ⟨o, k b o e⟩, fun b o e _ => ⟨o, k b o e, SameD.refl o⟩⟩
theorem Evo.of_stays {ex : List Addr} {h h' : Heap} (k : ∀ b o, h.get? b = some o → h'.get? b = some o) (_hs : h.objs.size ≤ h'.objs.size) : Evo ex h h' := Evo.of_keep k
theorem Evo.of_sameBut {ex : List Addr} {a : Addr} {h h' : Heap} (k : Heap.SameBut a h h') (ha : a ∈ ex) (hx : ∃ o, h'.get? a = some o) : Evo ex h h' :=
  ⟨fun b o e => if hb : b = a then by rw [hb]; exact hx else ⟨o, (k.2 b hb).trans e⟩, fun b o e n => ⟨o, (k.2 b fun q => n (q ▸ ha)).trans e, SameD.refl o⟩⟩
theorem Evo.trans {ex ex' : List Addr} {h h₁ h₂ : Heap} (x : Evo ex h h₁) (y : Evo ex' h₁ h₂) (hn : ∀ a, a ∈ ex' → (∃ o, h.get? a = some o) → a ∈ ex) : Evo ex h h₂ :=
  ⟨fun b o e => let ⟨o₁, e₁⟩ := x.alive b o e; y.alive b o₁ e₁, fun b o e n => by
    obtain ⟨o₁, e₁, s₁⟩ := x.keep b o e n
    obtain ⟨o₂, e₂, s₂⟩ := y.keep b o₁ e₁ fun q => n (hn b q ⟨o, e⟩)
    exact ⟨o₂, e₂, s₁.trans s₂⟩⟩

noncomputable def Ext (hid : List Addr) (h : Heap) (hid' : List Addr) : Prop := ∃ new, hid' = hid ++ new ∧ ∀ a ∈ new, h.get? a = none
theorem Ext.refl (hid : List Addr) (h : Heap) : Ext hid h hid := ⟨[], by simp, fun _ h => nomatch h⟩
theorem Ext.trans {hid hid₁ hid₂ : List Addr} {h h₁ : Heap} (x : Ext hid h hid₁) (y : Ext hid₁ h₁ hid₂) (hn : ∀ b o, h.get? b = some o → ∃ o', h₁.get? b = some o') : Ext hid h hid₂ := by
  obtain ⟨a, rfl, ha⟩ := x
  obtain ⟨b, rfl, hb⟩ := y
  refine ⟨a ++ b, by simp, fun q hq => ?_⟩
  rcases List.mem_append.mp hq with hq | hq
  · exact ha q hq
  · cases e : h.get? q with
    | none => rfl
    | some o =>
      obtain ⟨o', e'⟩ := hn q o e
      rw [hb q hq] at e'; cases e'
theorem Ext.old {hid hid' : List Addr} {h : Heap} {a : Addr} {o : Obj} (x : Ext hid h hid') (ha : h.get? a = some o) (hm : a ∈ hid') : a ∈ hid := by
  obtain ⟨b, rfl, hb⟩ := x
  rcases List.mem_append.mp hm with hm | hm
  · exact hm
  · rw [hb a hm] at ha; cases ha
theorem Ext.get {hid hid' : List Addr} {h : Heap} {i a : Nat} (x : Ext hid h hid') (hg : hid[i]? = some a) : hid'[i]? = some a := by
  obtain ⟨b, rfl, _⟩ := x
  rw [List.getElem?_append_left (List.getElem?_eq_some_iff.mp hg).1]; exact hg
theorem Ext.mem {hid hid' : List Addr} {h : Heap} {a : Nat} (x : Ext hid h hid') (hm : a ∈ hid) : a ∈ hid' := by
  obtain ⟨b, rfl, _⟩ := x
  exact List.mem_append_left _ hm

theorem evo_seq {ex own : List Addr} {h h' : Heap} {a : Addr} {o : Obj} {xs : Array Value} {n : Nat} (x : Evo (own ++ ex) h h') (hn : ∀ b ∈ own, ∀ o, h.get? b = some o → notSeq o) (ha : a ∉ ex)
    (hd : o.data = .seq xs n) (e : h.get? a = some o) : h'.get? a = some o := by
  obtain ⟨o', e', hs⟩ := x.keep a o e fun q => by
    rcases List.mem_append.mp q with q | q
    · exact hn a q o e _ _ hd
    · exact ha q
  rcases hs with rfl | hs
  · exact e'
  · obtain ⟨⟨es, ep, q⟩, _⟩ := hs
    rw [hd] at q; cases q
theorem evo_tup {ex own : List Addr} {h h' : Heap} {a : Addr} {xs : Array Value} {n : Nat} (x : Evo (own ++ ex) h h') (hn : ∀ b ∈ own, ∀ o, h.get? b = some o → notSeq o) (ha : a ∉ ex) (t : IsT h a xs n) : IsT h' a xs n :=
  evo_seq x hn ha rfl t
theorem evo_list {ex own : List Addr} {h h' : Heap} {a : Addr} {xs : Array Value} {n : Nat} (x : Evo (own ++ ex) h h') (hn : ∀ b ∈ own, ∀ o, h.get? b = some o → notSeq o) (ha : a ∉ ex) (t : IsL h a xs n) : IsL h' a xs n :=
  evo_seq x hn ha rfl t

noncomputable def SeqK (hid : List Addr) (h h' : Heap) : Prop := ∀ b o xs n, h.get? b = some o → o.data = .seq xs n → b ∉ hid → h'.get? b = some o
theorem SeqK.of_evo {own hid : List Addr} {h h' : Heap} (x : Evo (own ++ hid) h h') (hn : ∀ b ∈ own, ∀ o, h.get? b = some o → notSeq o) : SeqK hid h h' :=
  fun _ _ _ _ e hd hb => evo_seq x hn hb hd e

mutual
theorem VR.seqk {hid hid' : List Addr} {h h' : Heap} (x : SeqK hid h h') (y : Ext hid h hid') : ∀ {d : V} {v : Value}, VR h hid d v → VR h' hid' d v
  | .none, _, r => by rw [VR] at r ⊢; exact r
  | .bool _, _, r => by rw [VR] at r ⊢; exact r
  | .int _, _, r => by rw [VR] at r ⊢; exact r
  | .str _, _, r => by rw [VR] at r ⊢; exact r
  | .fn _, _, r => by rw [VR] at r ⊢; exact r
  | .obj _, _, r => by
    rw [VR] at r ⊢
    obtain ⟨a, e, hi⟩ := r
    exact ⟨a, e, y.get hi⟩
  | .tup ds, _, r => by
    rw [VR] at r ⊢
    obtain ⟨a, xs, n, e, t, hm, rs⟩ := r
    exact ⟨a, xs, n, e, x _ _ _ _ t rfl hm, fun q => hm (y.old t q), VRs.seqk x y rs⟩
  | .list ds, _, r => by
    rw [VR] at r ⊢
    obtain ⟨a, xs, n, e, t, hm, rs⟩ := r
    exact ⟨a, xs, n, e, x _ _ _ _ t rfl hm, fun q => hm (y.old t q), VRs.seqk x y rs⟩
theorem VRs.seqk {hid hid' : List Addr} {h h' : Heap} (x : SeqK hid h h') (y : Ext hid h hid') : ∀ {ds : List V} {vs : List Value}, VRs h hid ds vs → VRs h' hid' ds vs
  | [], [], _ => VRs.nil
  | d :: ds, v :: vs, r => by
    rw [VRs] at r
    exact VRs.cons (VR.seqk x y r.1) (VRs.seqk x y r.2)
  | [], _ :: _, r => by rw [VRs] at r; exact r.elim
  | _ :: _, [], r => by rw [VRs] at r; exact r.elim
end
theorem VR.evo {own hid hid' : List Addr} {h h' : Heap} (x : Evo (own ++ hid) h h') (hn : ∀ b ∈ own, ∀ o, h.get? b = some o → notSeq o) (y : Ext hid h hid') {d : V} {v : Value} (r : VR h hid d v) : VR h' hid' d v := VR.seqk (SeqK.of_evo x hn) y r
theorem VRs.evo {own hid hid' : List Addr} {h h' : Heap} (x : Evo (own ++ hid) h h') (hn : ∀ b ∈ own, ∀ o, h.get? b = some o → notSeq o) (y : Ext hid h hid') {ds : List V} {vs : List Value} (r : VRs h hid ds vs) : VRs h' hid' ds vs := VRs.seqk (SeqK.of_evo x hn) y r

noncomputable def MO.vals : MO → List V
  | .list ds => ds
  | .dict es => es.map (·.2)
  | .inst _ => []
mutual
noncomputable def below (k : Nat) : V → Prop
  | .none => True
  | .bool _ => True
  | .int _ => True
  | .str _ => True
  | .fn _ => True
  | .obj i => i < k
  | .tup l => belows k l
  | .list l => belows k l
noncomputable def belows (k : Nat) : List V → Prop
  | [] => True
  | d :: ds => below k d ∧ belows k ds
end
mutual
theorem VR.below {h : Heap} {hid : List Addr} : ∀ {d : V} {v : Value}, VR h hid d v → Mine.below hid.length d
  | .none, _, _ => by rw [Mine.below]; trivial
  | .bool _, _, _ => by rw [Mine.below]; trivial
  | .int _, _, _ => by rw [Mine.below]; trivial
  | .str _, _, _ => by rw [Mine.below]; trivial
  | .fn _, _, _ => by rw [Mine.below]; trivial
  | .obj _, _, r => by
    rw [VR] at r; rw [Mine.below]
    obtain ⟨a, _, hi⟩ := r
    exact (List.getElem?_eq_some_iff.mp hi).1
  | .tup ds, _, r => by
    rw [VR] at r; rw [Mine.below]
    obtain ⟨a, xs, n, _, _, _, rs⟩ := r
    exact VRs.below rs
  | .list ds, _, r => by
    rw [VR] at r; rw [Mine.below]
    obtain ⟨a, xs, n, _, _, _, rs⟩ := r
    exact VRs.below rs
theorem VRs.below {h : Heap} {hid : List Addr} : ∀ {ds : List V} {vs : List Value}, VRs h hid ds vs → belows hid.length ds
  | [], [], _ => by rw [belows]; trivial
  | d :: ds, v :: vs, r => by
    rw [VRs] at r; rw [belows]
    exact ⟨VR.below r.1, VRs.below r.2⟩
  | [], _ :: _, r => by rw [VRs] at r; exact r.elim
  | _ :: _, [], r => by rw [VRs] at r; exact r.elim
end
mutual
theorem VR.drop {h : Heap} {hid new : List Addr} : ∀ {d : V} {v : Value}, VR h (hid ++ new) d v → Mine.below hid.length d → VR h hid d v
  | .none, _, r, _ => by rw [VR] at r ⊢; exact r
  | .bool _, _, r, _ => by rw [VR] at r ⊢; exact r
  | .int _, _, r, _ => by rw [VR] at r ⊢; exact r
  | .str _, _, r, _ => by rw [VR] at r ⊢; exact r
  | .fn _, _, r, _ => by rw [VR] at r ⊢; exact r
  | .obj _, _, r, b => by
    rw [VR] at r ⊢; rw [Mine.below] at b
    obtain ⟨a, e, hi⟩ := r
    rw [List.getElem?_append_left b] at hi
    exact ⟨a, e, hi⟩
  | .tup ds, _, r, b => by
    rw [VR] at r ⊢; rw [Mine.below] at b
    obtain ⟨a, xs, n, e, t, hm, rs⟩ := r
    exact ⟨a, xs, n, e, t, fun q => hm (List.mem_append_left _ q), VRs.drop_ rs b⟩
  | .list ds, _, r, b => by
    rw [VR] at r ⊢; rw [Mine.below] at b
    obtain ⟨a, xs, n, e, t, hm, rs⟩ := r
    exact ⟨a, xs, n, e, t, fun q => hm (List.mem_append_left _ q), VRs.drop_ rs b⟩
theorem VRs.drop_ {h : Heap} {hid new : List Addr} : ∀ {ds : List V} {vs : List Value}, VRs h (hid ++ new) ds vs → belows hid.length ds → VRs h hid ds vs
  | [], [], _, _ => VRs.nil
  | d :: ds, v :: vs, r, b => by
    rw [VRs] at r; rw [belows] at b
    exact VRs.cons (VR.drop r.1 b.1) (VRs.drop_ r.2 b.2)
  | [], _ :: _, r, _ => by rw [VRs] at r; exact r.elim
  | _ :: _, [], r, _ => by rw [VRs] at r; exact r.elim
end
end Mine
end
section
set_option tactic.hygienic false
open PySem PySem.W PyProof.Rows PySem.Spec PySem.Calls
set_option Elab.async false
set_option maxRecDepth 100000
set_option autoImplicit false
namespace Mine

structure ClsOk (K : Frag) (C : Addr) : Prop where
  get : plainGet K C "" = true
  hasD : hasDictIn K C = true
  set : findIn K (.ref C) "__setattr__" = some (some (.builtin "object.__setattr__"))
  over : plainOver K C = true

structure Wd where
  prog : Program
  w : World
  K : Frag
  hT : Heap
  p : Program
  loose : List Str
  mean : ExcName → Option Value
  mg : Str → Option Value
  mb : Str → Option Value
  X : K.In hT
  T : Top p loose mean mg mb hT
  C : Addr
  hC : ClsOk K C

noncomputable def EntR (W : Wd) (h : Heap) (hid : List Addr) : List (Str × V) → List DictEntry → Prop
  | [], [] => True
  | (x, d) :: es, e :: l => (∃ t, e.key = .str x t) ∧ e.hash = PyData.keyHash W.w.params x ∧ VR h hid d e.val ∧ EntR W h hid es l
  | [], _ :: _ => False
  | _ :: _, [] => False

noncomputable def ObjR (W : Wd) (h : Heap) (hid : List Addr) (a : Addr) : MO → Prop
  | .list ds => ∃ xs n, h.get? a = some (listOf (List.toArray xs) n) ∧ VRs h hid ds xs
  | .dict es => ∃ l n, h.get? a = some (dictOf l n) ∧ EntR W h hid es l
  | .inst d => ∃ dx, hid[d]? = some dx ∧ h.get? a = some (instObj W.C dx)

structure SR (W : Wd) (σ : St) (hid : List Addr) (h : Heap) : Prop where
  len : hid.length = σ.length
  nd : hid.Nodup
  obj : ∀ (i : Nat) (o : MO), σ[i]? = some o → ∃ a, hid[i]? = some a ∧ ObjR W h hid a o
  new : ∀ a ∈ hid, W.hT.get? a = none

theorem EntR.seqk {W : Wd} {hid hid' : List Addr} {h h' : Heap} (x : SeqK hid h h') (y : Ext hid h hid') : ∀ {es : List (Str × V)} {l : List DictEntry}, EntR W h hid es l → EntR W h' hid' es l
  | [], [], _ => trivial
  | (_, _) :: _, _ :: _, r => ⟨r.1, r.2.1, VR.seqk x y r.2.2.1, EntR.seqk x y r.2.2.2⟩
  | [], _ :: _, r => r.elim
  | _ :: _, [], r => by rcases ‹Str × V› with ⟨_, _⟩; exact r.elim
theorem EntR.evo {W : Wd} {own hid hid' : List Addr} {h h' : Heap} (x : Evo (own ++ hid) h h') (hn : ∀ b ∈ own, ∀ o, h.get? b = some o → notSeq o) (y : Ext hid h hid') {es : List (Str × V)} {l : List DictEntry} (r : EntR W h hid es l) : EntR W h' hid' es l := EntR.seqk (SeqK.of_evo x hn) y r

theorem ObjR.seqk {W : Wd} {hid hid' : List Addr} {h h' : Heap} (x : SeqK hid h h') (y : Ext hid h hid') {a : Addr}
    (k : ∀ o, h.get? a = some o → h'.get? a = some o) : ∀ {o : MO}, ObjR W h hid a o → ObjR W h' hid' a o
  | .list _, ⟨xs, n, e, r⟩ => ⟨xs, n, k _ e, VRs.seqk x y r⟩
  | .dict _, ⟨l, n, e, r⟩ => ⟨l, n, k _ e, EntR.seqk x y r⟩
  | .inst _, ⟨dx, e, r⟩ => ⟨dx, y.get e, k _ r⟩
theorem ObjR.evo {W : Wd} {own hid hid' : List Addr} {h h' : Heap} (x : Evo (own ++ hid) h h') (hn : ∀ b ∈ own, ∀ o, h.get? b = some o → notSeq o) (y : Ext hid h hid') {a : Addr}
    (k : ∀ o, h.get? a = some o → h'.get? a = some o) {o : MO} (r : ObjR W h hid a o) : ObjR W h' hid' a o := ObjR.seqk (SeqK.of_evo x hn) y k r

noncomputable def MO.below (k : Nat) : MO → Prop
  | .list ds => belows k ds
  | .dict es => belows k (es.map (·.2))
  | .inst d => d < k
theorem EntR.below {W : Wd} {h : Heap} {hid : List Addr} : ∀ {es : List (Str × V)} {l : List DictEntry}, EntR W h hid es l → belows hid.length (es.map (·.2))
  | [], _, _ => by rw [List.map_nil, belows]; trivial
  | (_, _) :: _, _ :: _, r => by rw [List.map_cons, belows]; exact ⟨VR.below r.2.2.1, EntR.below r.2.2.2⟩
  | (_, _) :: _, [], r => r.elim
theorem EntR.drop {W : Wd} {h : Heap} {hid new : List Addr} : ∀ {es : List (Str × V)} {l : List DictEntry}, EntR W h (hid ++ new) es l → belows hid.length (es.map (·.2)) → EntR W h hid es l
  | [], [], _, _ => trivial
  | (_, _) :: _, _ :: _, r, b => by
    rw [List.map_cons, belows] at b
    exact ⟨r.1, r.2.1, VR.drop r.2.2.1 b.1, EntR.drop r.2.2.2 b.2⟩
  | [], _ :: _, r, _ => r.elim
  | (_, _) :: _, [], r, _ => r.elim
theorem ObjR.below {W : Wd} {h : Heap} {hid : List Addr} {a : Addr} : ∀ {o : MO}, ObjR W h hid a o → o.below hid.length
  | .list _, ⟨_, _, _, r⟩ => VRs.below r
  | .dict _, ⟨_, _, _, r⟩ => EntR.below r
  | .inst _, ⟨_, e, _⟩ => (List.getElem?_eq_some_iff.mp e).1
theorem ObjR.drop {W : Wd} {h : Heap} {hid new : List Addr} {a : Addr} : ∀ {o : MO}, ObjR W h (hid ++ new) a o → o.below hid.length → ObjR W h hid a o
  | .list _, ⟨xs, n, e, r⟩, b => ⟨xs, n, e, VRs.drop_ r b⟩
  | .dict _, ⟨l, n, e, r⟩, b => ⟨l, n, e, EntR.drop r b⟩
  | .inst _, ⟨dx, e, r⟩, b => ⟨dx, by rw [List.getElem?_append_left b] at e; exact e, r⟩

theorem ObjR.there {W : Wd} {h : Heap} {hid : List Addr} {a : Addr} : ∀ {o : MO}, ObjR W h hid a o → ∃ ob, h.get? a = some ob ∧ (∀ vs, ob.data ≠ .fields vs)
  | .list _, ⟨_, _, e, _⟩ => ⟨_, e, fun _ q => by cases q⟩
  | .dict _, ⟨_, _, e, _⟩ => ⟨_, e, fun _ q => by cases q⟩
  | .inst _, ⟨_, _, e⟩ => ⟨_, e, fun _ q => by cases q⟩

theorem SR.there {W : Wd} {σ : St} {hid : List Addr} {h : Heap} (x : SR W σ hid h) {a : Addr} (ha : a ∈ hid) : ∃ ob, h.get? a = some ob ∧ (∀ vs, ob.data ≠ .fields vs) := by
  obtain ⟨i, hi, e⟩ := List.getElem_of_mem ha
  have hl : i < σ.length := x.len ▸ hi
  obtain ⟨a', e', r⟩ := x.obj i σ[i] (List.getElem?_eq_getElem hl)
  rw [List.getElem?_eq_getElem hi] at e'
  obtain rfl : a = a' := e.symm.trans (Option.some.inj e')
  exact r.there
theorem SR.lt {W : Wd} {σ : St} {hid : List Addr} {h : Heap} (x : SR W σ hid h) {a : Addr} (ha : a ∈ hid) : a < h.objs.size := let ⟨_, e, _⟩ := x.there ha; Heap.lt_size e

theorem SR.keepS {W : Wd} {σ : St} {hid : List Addr} {h h' : Heap} (x : SR W σ hid h) (y : SeqK hid h h') (k : ∀ a ∈ hid, ∀ o, h.get? a = some o → h'.get? a = some o) : SR W σ hid h' :=
  ⟨x.len, x.nd, fun i o e => let ⟨a, e', r⟩ := x.obj i o e; ⟨a, e', r.seqk y (Ext.refl _ _) (k a (List.mem_of_getElem? e'))⟩, x.new⟩
theorem SR.keep {W : Wd} {σ : St} {own hid : List Addr} {h h' : Heap} (x : SR W σ hid h) (y : Evo (own ++ hid) h h') (hn : ∀ b ∈ own, ∀ o, h.get? b = some o → notSeq o) (k : ∀ a ∈ hid, ∀ o, h.get? a = some o → h'.get? a = some o) : SR W σ hid h' := x.keepS (SeqK.of_evo y hn) k

theorem SR.belows {W : Wd} {σ : St} {hid : List Addr} {h : Heap} (x : SR W σ hid h) {i : Nat} {o : MO} (e : σ[i]? = some o) : o.below σ.length := by
  obtain ⟨a, _, r⟩ := x.obj i o e
  rw [← x.len]; exact r.below

theorem SR.drop {W : Wd} {σ τ : St} {hid new : List Addr} {h : Heap} (x : SR W (σ ++ τ) (hid ++ new) h) (hl : hid.length = σ.length) (b : ∀ (i : Nat) (o : MO), σ[i]? = some o → o.below σ.length) : SR W σ hid h := by
  refine ⟨hl, (List.nodup_append.mp x.nd).1, fun i o e => ?_, fun a ha => x.new a (List.mem_append_left _ ha)⟩
  have hi := (List.getElem?_eq_some_iff.mp e).1
  obtain ⟨a, e', r⟩ := x.obj i o (by rw [List.getElem?_append_left hi]; exact e)
  refine ⟨a, by rw [List.getElem?_append_left (hl ▸ hi)] at e'; exact e', r.drop (hl ▸ b i o e)⟩

structure Post (W : Wd) (own : List Addr) (h : Heap) (hid : List Addr) (h' : Heap) (hid' : List Addr) (σ' : St) : Prop where
  evo : Evo (own ++ hid) h h'
  ext : Ext hid h hid'
  sr : SR W σ' hid' h'
  base : W.hT.StaysIn h'

theorem Post.refl {W : Wd} {own hid : List Addr} {σ : St} {h : Heap} (x : SR W σ hid h) (b : W.hT.StaysIn h) : Post W own h hid h hid σ := ⟨Evo.refl _ _, Ext.refl _ _, x, b⟩
theorem Post.trans {W : Wd} {own hid hid₁ hid₂ : List Addr} {σ₁ σ₂ : St} {h h₁ h₂ : Heap} (x : Post W own h hid h₁ hid₁ σ₁) (y : Post W own h₁ hid₁ h₂ hid₂ σ₂) : Post W own h hid h₂ hid₂ σ₂ :=
  ⟨x.evo.trans y.evo fun a ha hl => by
    rcases List.mem_append.mp ha with q | q
    · exact List.mem_append_left _ q
    · exact List.mem_append_right _ (x.ext.old hl.choose_spec q), x.ext.trans y.ext x.evo.alive, y.sr, y.base⟩
theorem Post.wider {W : Wd} {own own' hid hid' : List Addr} {σ' : St} {h h' : Heap} (x : Post W own h hid h' hid' σ') (m : ∀ a, a ∈ own → a ∈ own') : Post W own' h hid h' hid' σ' :=
  ⟨x.evo.mono fun a ha => (List.mem_append.mp ha).elim (fun q => List.mem_append_left _ (m a q)) fun q => List.mem_append_right _ q, x.ext, x.sr, x.base⟩

theorem grow_post' {W : Wd} {own hid : List Addr} {σ : St} {h h' : Heap} (x : SR W σ hid h) (b : W.hT.StaysIn h) (k : ∀ b o, h.get? b = some o → h'.get? b = some o) : Post W own h hid h' hid σ :=
  ⟨(Evo.of_keep k), Ext.refl _ _, x.keep (own := []) (Evo.of_keep k) (fun _ q => nomatch q) fun a _ o e => k a o e, fun a o e => k a o (b a o e)⟩
theorem grow_post {W : Wd} {own hid : List Addr} {σ : St} {h h' : Heap} (x : SR W σ hid h) (b : W.hT.StaysIn h) (k : ∀ b o, h.get? b = some o → h'.get? b = some o) (_hs : h.objs.size ≤ h'.objs.size) : Post W own h hid h' hid σ := grow_post' x b k

theorem funFrames_of {base h h' : Heap} (k : ∀ b o, h.get? b = some o → (∀ vs, o.data ≠ .fields vs) → ∃ o', h'.get? b = some o' ∧ ∀ vs, o'.data ≠ .fields vs) : ∀ {l : List Env}, h.FunFrames base l → h'.FunFrames base l
  | [], _ => trivial
  | _ :: _, ⟨hk, ⟨L, o, hf, hn, ho, hd⟩, hr⟩ => by
    obtain ⟨o', ho', hd'⟩ := k L o ho hd
    exact ⟨hk, ⟨L, o', hf, hn, ho', hd'⟩, funFrames_of k hr⟩

structure FF (W : Wd) (fr : List Env) (hid : List Addr) (h : Heap) : Prop where
  ff : h.FunFrames W.hT fr
  dict : ∀ L ∈ fr.filterMap (·.frame), L ∉ hid ∧ ∃ o es ep, h.get? L = some o ∧ o.data = .dict es ep

noncomputable def ownOf' (e : Env) : List Addr := e.locals :: e.cells.map (·.2)

noncomputable def NameAt (e : Env) (h : Heap) (m : Str → Option Value) (x : Str) (v : Value) : Prop :=
  (e.kindOf x = some .local ∧ m x = some v) ∨ ((e.kindOf x = some .cell ∨ e.kindOf x = some .free) ∧ ∃ c, e.cells.lookup x = some c ∧ h.IsCell c (some v))

noncomputable abbrev Loc := Nat → Option V

structure Inv (W : Wd) (e : Env) (tbl : List Str) (loc : Loc) (fr : List Env) (hid : List Addr) (σ : St) (h : Heap) : Prop where
  base : W.hT.StaysIn h
  ff : FF W fr hid h
  sr : SR W σ hid h
  kind : e.scope.kind = .function
  glob : e.globals = mainGlobals
  bi : e.builtins = builtinsNs
  locs : ∃ m, h.Ns e.locals m ∧ ∀ (i : Nat) (x : Str) (d : V), tbl[i]? = some x → loc i = some d → ∃ v, NameAt e h m x v ∧ VR h hid d v
  nd : (ownOf' e).Nodup
  own : ∀ a ∈ ownOf' e, W.hT.get? a = none ∧ a ∉ hid
  cells : ∀ c ∈ e.cells.map (·.2), ∃ v, h.IsCell c v

theorem Inv.notSeq {W : Wd} {e : Env} {tbl : List Str} {loc : Loc} {fr : List Env} {hid : List Addr} {σ : St} {h : Heap} (I : Inv W e tbl loc fr hid σ h) : ∀ b ∈ ownOf' e, ∀ o, h.get? b = some o → notSeq o := by
  intro b hb o ho
  rcases List.mem_cons.mp hb with rfl | hb
  · obtain ⟨m, ⟨o', es, ep, e', hd, _⟩, _⟩ := I.locs
    rw [ho] at e'; cases e'
    intro xs n q; rw [hd] at q; cases q
  · obtain ⟨v, o', e', hd⟩ := I.cells b hb
    rw [ho] at e'; cases e'
    intro xs n q; rw [hd] at q; cases q

theorem isCell_evo {ex : List Addr} {h h' : Heap} {c : Addr} {v : Option Value} (x : Evo ex h h') (hc : c ∉ ex) (y : h.IsCell c v) : h'.IsCell c v := by
  obtain ⟨o, e, hd⟩ := y
  obtain ⟨o', e', hs⟩ := x.keep c o e hc
  exact ⟨o', e', hs.data.trans hd⟩
theorem ns_evo {ex : List Addr} {h h' : Heap} {c : Addr} {m : Str → Option Value} (x : Evo ex h h') (hc : c ∉ ex) (y : h.Ns c m) : h'.Ns c m := by
  obtain ⟨o, es, ep, e, hd, r⟩ := y
  obtain ⟨o', e', hs⟩ := x.keep c o e hc
  exact ⟨o', es, ep, e', hs.data.trans hd, r⟩
theorem lookup_mem {α β : Type} [BEq α] [LawfulBEq α] : ∀ {l : List (α × β)} {x : α} {c : β}, l.lookup x = some c → c ∈ l.map (·.2)
  | [], _, _, e => by cases e
  | (y, d) :: l, x, c, e => by
    rw [List.lookup_cons] at e
    split at e
    · cases e; exact .head _
    · exact .tail _ (lookup_mem e)

theorem ff_post {W : Wd} {fr : List Env} {hid hid' : List Addr} {σ' : St} {h h' : Heap} (f : FF W fr hid h) (y : Post W [] h hid h' hid' σ') : FF W fr hid' h' := by
  refine ⟨funFrames_of (fun b o e hd => ?_) f.ff, fun L hL => ?_⟩
  · by_cases hb : b ∈ hid
    · exact y.sr.there (y.ext.mem hb)
    · obtain ⟨o', e', hs⟩ := y.evo.keep b o e (by simpa using hb)
      exact ⟨o', e', fun vs => hs.data ▸ hd vs⟩
  · obtain ⟨hn, o, es, ep, e, hd⟩ := f.dict L hL
    obtain ⟨o', e', hs⟩ := y.evo.keep L o e (by simpa using hn)
    exact ⟨fun q => hn (y.ext.old e q), o', es, ep, e', hs.data.trans hd⟩

theorem Inv.post {W : Wd} {e : Env} {tbl : List Str} {loc : Loc} {fr : List Env} {hid hid' : List Addr} {σ σ' : St} {h h' : Heap} (I : Inv W e tbl loc fr hid σ h) (y : Post W [] h hid h' hid' σ') : Inv W e tbl loc fr hid' σ' h' where
  base := y.base
  ff := ff_post I.ff y
  sr := y.sr
  kind := I.kind
  glob := I.glob
  bi := I.bi
  locs := by
    obtain ⟨m, hm, hl⟩ := I.locs
    refine ⟨m, ns_evo y.evo (by simpa using (I.own _ (.head _)).2) hm, fun i x d ht hd => ?_⟩
    obtain ⟨v, na, r⟩ := hl i x d ht hd
    refine ⟨v, ?_, VR.evo y.evo (fun _ q => nomatch q) y.ext r⟩
    rcases na with ⟨hk, hx⟩ | ⟨hk, c, hc, hv⟩
    · exact .inl ⟨hk, hx⟩
    · exact .inr ⟨hk, c, hc, isCell_evo y.evo (by simpa using (I.own c (.tail _ (lookup_mem hc))).2) hv⟩
  nd := I.nd
  own := fun a ha => ⟨(I.own a ha).1, fun q => (I.own a ha).2 (by
    rcases List.mem_cons.mp ha with rfl | ha
    · obtain ⟨m, ⟨o, es, ep, e', _⟩, _⟩ := I.locs; exact y.ext.old e' q
    · obtain ⟨v, o, e', _⟩ := I.cells a ha; exact y.ext.old e' q)⟩
  cells := fun c hc => by
    obtain ⟨v, hv⟩ := I.cells c hc
    exact ⟨v, isCell_evo y.evo (by simpa using (I.own c (.tail _ hc)).2) hv⟩

inductive Xc where
  | limit
  | text (spot : Int)

structure AOK (A : Around) (fr : List Env) (n : Nat) : Prop where
  frames : A.frames = some fr
  handled : A.handled = none
  depth : A.depth + n < recursionLimit
  units : A.units + 16 * n + 64 < cLine
theorem AOK.mono {A : Around} {fr : List Env} {n n' : Nat} (x : AOK A fr n) (h : n' ≤ n) : AOK A fr n' := ⟨x.frames, x.handled, by have := x.depth; omega, by have := x.units; omega⟩

noncomputable def SpotR (x : Xc) (l : List DictEntry) : Prop := match x with | .limit => True | .text spot => ∃ t, getL "spot" l = some (some (.int spot t))
inductive TrT (h₀ h : Heap) (ea : Addr) (vs : Array Value) : Prop
  | mk (T : Addr) (oT : Obj) (ts : Array Value) (t1 : vs[1]? = some (.ref T)) (t2 : h₀.get? T = none) (t3 : T ≠ ea) (t4 : h.get? T = some oT) (t5 : oT.data = .fields ts) (t6 : ts[3]? = some .none)
noncomputable def TrR (h₀ h : Heap) (ea : Addr) (vs : Array Value) : Prop := vs[1]? = some .none ∨ TrT h₀ h ea vs
inductive ExR (cls : Xc → Addr) (h₀ h : Heap) (x : Xc) (ea : Addr) : Prop
  | mk (new : h₀.get? ea = none) (oe : Obj) (vs : Array Value) (dx : Addr) (l : List DictEntry) (n : Nat) (a0 : Value) (e1 : h.get? ea = some oe) (e2 : oe.cls = .ref (cls x)) (e3 : oe.data = .fields vs) (e4 : vs[0]? = some a0) (e5 : oe.dict = some dx) (e6 : h₀.get? dx = none) (e7 : h.get? dx = some (dictOf l n)) (e8 : SpotR x l) (e9 : TrR h₀ h ea vs)
theorem none_back0 {h h' : Heap} (k : ∀ b o, h.get? b = some o → ∃ o', h'.get? b = some o') {a : Addr} (ha : h'.get? a = none) : h.get? a = none := by
  cases e : h.get? a with
  | none => rfl
  | some o => obtain ⟨o', e'⟩ := k a o e; rw [ha] at e'; cases e'
theorem ExR.early {cls : Xc → Addr} {h₀ h₁ h : Heap} {x : Xc} {ea : Addr} (k : ∀ b o, h₀.get? b = some o → ∃ o', h₁.get? b = some o') (r : ExR cls h₁ h x ea) : ExR cls h₀ h x ea := by
  obtain ⟨hn, oe, vs, dx, l, n, a0, h1, h2, h3, h4, h5, h6, h7, h8, h9⟩ := r
  refine ⟨none_back0 k hn, oe, vs, dx, l, n, a0, h1, h2, h3, h4, h5, none_back0 k h6, h7, h8, ?_⟩
  rcases h9 with h9 | ⟨T, oT, ts, q1, q2, q3, q4, q5, q6⟩
  · exact .inl h9
  · exact .inr ⟨T, oT, ts, q1, none_back0 k q2, q3, q4, q5, q6⟩

inductive OkQ (W : Wd) (s : Shared) (hid : List Addr) (Q : V → St → Prop) (v : Value) (s' : Shared) : Prop
  | mk (h' : Heap) (tk : Nat) (hid' : List Addr) (d : V) (σ' : St) (e : s' = { s with heap := h', toks := tk }) (p : Post W [] s.heap hid h' hid' σ') (r : VR h' hid' d v) (q : Q d σ')
inductive ErQ (W : Wd) (cls : Xc → Addr) (s : Shared) (hid : List Addr) (E : Xc → St → Prop) (e : Value) (s' : Shared) : Prop
  | mk (h' : Heap) (tk : Nat) (hid' : List Addr) (x : Xc) (ea : Addr) (σ' : St) (eq : s' = { s with heap := h', toks := tk }) (p : Post W [] s.heap hid h' hid' σ') (r : ExR cls s.heap h' x ea) (he : e = .ref ea) (q : E x σ')

theorem ErQ.tk {W : Wd} {cls : Xc → Addr} {s : Shared} {hid : List Addr} {E : Xc → St → Prop} {v : Value} {s' : Shared} {n : Nat} (q : ErQ W cls { s with toks := n } hid E v s') : ErQ W cls s hid E v s' := by
  obtain ⟨h', tk, hid', d, ea, σ', e, p, r, he, k⟩ := q
  exact ⟨h', tk, hid', d, ea, σ', e, p, r, he, k⟩
theorem OkQ.lift {W : Wd} {s : Shared} {hid hid₁ : List Addr} {h₁ : Heap} {tk₁ : Nat} {σ₁ : St} {Q : V → St → Prop} {v : Value} {s' : Shared} (y : Post W [] s.heap hid h₁ hid₁ σ₁) (q : OkQ W { s with heap := h₁, toks := tk₁ } hid₁ Q v s') : OkQ W s hid Q v s' := by
  obtain ⟨h', tk, hid', d, σ', e, p, r, k⟩ := q
  exact ⟨h', tk, hid', d, σ', e, y.trans p, r, k⟩
theorem ErQ.lift {W : Wd} {cls : Xc → Addr} {s : Shared} {hid hid₁ : List Addr} {h₁ : Heap} {tk₁ : Nat} {σ₁ : St} {E : Xc → St → Prop} {v : Value} {s' : Shared} (y : Post W [] s.heap hid h₁ hid₁ σ₁) (q : ErQ W cls { s with heap := h₁, toks := tk₁ } hid₁ E v s') : ErQ W cls s hid E v s' := by
  obtain ⟨h', tk, hid', d, ea, σ', e, p, r, he, k⟩ := q
  exact ⟨h', tk, hid', d, ea, σ', e, y.trans p, r.early y.evo.alive, he, k⟩

noncomputable def EvW (W : Wd) (cls : Xc → Addr) (n : Nat) (e : Env) (tbl : List Str) (loc : Loc) (σ : St) (t : Sem Value) (Q : V → St → Prop) (E : Xc → St → Prop) : Prop :=
  ∀ A fr s hid, AOK A fr n → Inv W e tbl loc fr hid σ s.heap → wpAny (model W.prog W.w) A t (OkQ W s hid Q) (ErQ W cls s hid E) s

inductive TrQ (W : Wd) (s : Shared) (hid : List Addr) (Q : Bool → St → Prop) (b : Bool) (s' : Shared) : Prop
  | mk (h' : Heap) (tk : Nat) (hid' : List Addr) (σ' : St) (e : s' = { s with heap := h', toks := tk }) (p : Post W [] s.heap hid h' hid' σ') (q : Q b σ')
theorem TrQ.lift {W : Wd} {s : Shared} {hid hid₁ : List Addr} {h₁ : Heap} {tk₁ : Nat} {σ₁ : St} {Q : Bool → St → Prop} {v : Bool} {s' : Shared} (y : Post W [] s.heap hid h₁ hid₁ σ₁) (q : TrQ W { s with heap := h₁, toks := tk₁ } hid₁ Q v s') : TrQ W s hid Q v s' := by
  obtain ⟨h', tk, hid', σ', e, p, k⟩ := q
  exact ⟨h', tk, hid', σ', e, y.trans p, k⟩
noncomputable def TrW (W : Wd) (cls : Xc → Addr) (n : Nat) (e : Env) (tbl : List Str) (loc : Loc) (σ : St) (t : Sem Bool) (Q : Bool → St → Prop) (E : Xc → St → Prop) : Prop :=
  ∀ A fr s hid, AOK A fr n → Inv W e tbl loc fr hid σ s.heap → wpAny (model W.prog W.w) A t (TrQ W s hid Q) (ErQ W cls s hid E) s

noncomputable def CallW (W : Wd) (cls : Xc → Addr) (n : Nat) (f : Value) (args : List V) (σ : St) (Q : V → St → Prop) (E : Xc → St → Prop) : Prop :=
  ∀ A fr s hid vs, AOK A fr n → W.hT.StaysIn s.heap → FF W fr hid s.heap → SR W σ hid s.heap → VRs s.heap hid args vs → wpAny (model W.prog W.w) A (call f vs) (OkQ W s hid Q) (ErQ W cls s hid E) s

section
variable {W : Wd} {cls : Xc → Addr} {n : Nat} {e : Env} {tbl : List Str} {loc : Loc} {σ : St} {Q : V → St → Prop} {E : Xc → St → Prop}

theorem EvW.then {t : Sem Value} {Q₁ : V → St → Prop} (x : EvW W cls n e tbl loc σ t Q₁ E) {A : Around} {fr : List Env} {s : Shared} {hid : List Addr} (a : AOK A fr n) (I : Inv W e tbl loc fr hid σ s.heap)
    {Q' : Value → Shared → Prop} {E' : Value → Shared → Prop} (hE : ∀ ev s', ErQ W cls s hid E ev s' → E' ev s')
    (k : ∀ v h₁ tk₁ hid₁ d σ₁, Post W [] s.heap hid h₁ hid₁ σ₁ → Inv W e tbl loc fr hid₁ σ₁ h₁ → VR h₁ hid₁ d v → Q₁ d σ₁ → Q' v { s with heap := h₁, toks := tk₁ }) : wpAny (model W.prog W.w) A t Q' E' s :=
  wpAny_mono (x A fr s hid a I) (fun v s' q => by
    obtain ⟨h', tk, hid', d, σ', rfl, p, r, q⟩ := q
    exact k v h' tk hid' d σ' p (I.post p) r q) hE
theorem TrW.then {t : Sem Bool} {Q₁ : Bool → St → Prop} (x : TrW W cls n e tbl loc σ t Q₁ E) {A : Around} {fr : List Env} {s : Shared} {hid : List Addr} (a : AOK A fr n) (I : Inv W e tbl loc fr hid σ s.heap)
    {Q' : Bool → Shared → Prop} {E' : Value → Shared → Prop} (hE : ∀ ev s', ErQ W cls s hid E ev s' → E' ev s')
    (k : ∀ b h₁ tk₁ hid₁ σ₁, Post W [] s.heap hid h₁ hid₁ σ₁ → Inv W e tbl loc fr hid₁ σ₁ h₁ → Q₁ b σ₁ → Q' b { s with heap := h₁, toks := tk₁ }) : wpAny (model W.prog W.w) A t Q' E' s :=
  wpAny_mono (x A fr s hid a I) (fun v s' q => by
    obtain ⟨h', tk, hid', σ', rfl, p, q⟩ := q
    exact k v h' tk hid' σ' p (I.post p) q) hE

theorem Inv.okHere {fr : List Env} {s : Shared} {hid : List Addr} (I : Inv W e tbl loc fr hid σ s.heap) {v : Value} {d : V} {tk : Nat} (r : VR s.heap hid d v) (q : Q d σ) : OkQ W s hid Q v { s with toks := tk } :=
  ⟨s.heap, tk, hid, d, σ, rfl, Post.refl I.sr I.base, r, q⟩
end
end Mine
end
section
set_option tactic.hygienic false
open PySem PySem.W PyProof.Rows PySem.Spec PySem.Calls
set_option Elab.async false
set_option maxRecDepth 100000
set_option autoImplicit false
namespace Mine

inductive ME where
  | loc (i : Nat)
  | glob (k : Nat)
  | int (i : Int)
  | str (x : Str)
  | bool (b : Bool)
  | none
  | neg (a : ME)
  | tup0
  | tup1 (a : ME)
  | tup2 (a b : ME)
  | tup3 (a b c : ME)
  | lst0
  | lst1 (a : ME)
  | lst3 (a b c : ME)
  | new0
  | new1 (a : ME)
  | bin (op : Operator) (a b : ME)
  | cmp (op : CmpOp) (a b : ME)
  | cmp2 (op op' : CmpOp) (a b c : ME)
  | and (a b : ME)
  | or (a b : ME)
  | not (a : ME)
  | ite (c a b : ME)
  | idx (a i : ME)
  | slc (a lo hi : ME)
  | take (a : ME) (k : Nat)
  | call0 (f : ME)
  | call1 (f a : ME)
  | call2 (f a b : ME)
  | call3 (f a b c : ME)
  | call4 (f a b c d : ME)
  | len (a : ME)
  | intOf (a : ME)
  | strOf (a : ME)
  | tupOf (a : ME)
  | range (a : ME)
  | attr (o : ME) (x : Str)
  | meth0 (o : ME) (x : Str)
  | meth1 (o : ME) (x : Str) (a : ME)
  | isalnum (a : ME)
  | append (o a : ME)
  | pop (o : ME)
  | extend (o a : ME)
  | fmt (pre : Str) (a : ME) (post : Str)
  | comp (i : Nat) (vis : List Nat) (elt iter cond : ME)
  | hand (a b : ME)
  | bad

inductive MS where
  | nil
  | seq (s rest : MS)
  | asg (i : Nat) (a : ME)
  | unp2 (i j : Nat) (a : ME)
  | setIdx (o : ME) (k : Str) (a : ME)
  | setAttr (o : ME) (x : Str) (a : ME)
  | ret (a : ME)
  | ite (c : ME) (a b : MS)
  | whl (c : ME) (b : MS)
  | forr (i : Nat) (a : ME) (b : MS)
  | fore (i j : Nat) (a : ME) (b : MS)
  | expr (a : ME)
  | brk
  | raise (f a : ME) (b : Option ME)
  | tryNone (b : MS)
  | trySpot (b : MS)
  | bad

inductive Fl where
  | next
  | brk
  | ret (d : V)

noncomputable abbrev big : Nat := 1000000

mutual
noncomputable def vD : V → Dat
  | .none => .none
  | .bool b => .bool b
  | .int i => .int i
  | .str x => .str x
  | .tup l => .tuple (vDs l)
  | .list l => .list (vDs l)
  | .obj _ => .bool true
  | .fn _ => .bool true
noncomputable def vDs : List V → List Dat
  | [] => []
  | d :: ds => vD d :: vDs ds
end
noncomputable def okV (d : V) : Bool := kqdOk 40 (vD d)

noncomputable def repS (x : Str) : Nat → Str
  | 0 => Str.empty
  | n + 1 => x ++ repS x n

noncomputable def asList (σ : St) : V → Option (List V)
  | .list l => some l
  | .obj i => match σ[i]? with
    | some (.list l) => some l
    | _ => none
  | _ => none

noncomputable def binW (op : Operator) (a b : V) (Q : V → Prop) : Prop :=
  match op with
  | .Add => (match a, b with
    | .int i, .int j => Q (.int (i + j))
    | .str x, .str y => x.length + y.length ≤ big ∧ Q (.str (x ++ y))
    | .tup l, .tup m => l.length + m.length ≤ big ∧ Q (.tup (l ++ m))
    | .list l, .list m => l.length + m.length ≤ big ∧ Q (.list (l ++ m))
    | _, _ => False)
  | .Sub => (match a, b with
    | .int i, .int j => Q (.int (i - j))
    | _, _ => False)
  | .Mult => (match a, b with
    | .int i, .int j => (-(big : Int) < i ∧ i < (big : Int)) ∧ Q (.int (i * j))
    | .str x, .int k => (0 ≤ k ∧ k ≤ 100 ∧ x.length ≤ 16) ∧ Q (.str (repS x k.toNat))
    | _, _ => False)
  | .Mod => (match a, b with
    | .int i, .int j => 0 < j ∧ Q (.int (i % j))
    | _, _ => False)
  | .FloorDiv => (match a, b with
    | .int i, .int j => (0 < j ∧ j < (big : Int) ∧ -(2 ^ 50) < i ∧ i < 2 ^ 50) ∧ Q (.int (i / j))
    | _, _ => False)
  | _ => False

open Classical in
noncomputable def cmpW (σ : St) (op : CmpOp) (a b : V) (Q : Bool → Prop) : Prop :=
  match op with
  | .Eq => (match a, b with
    | .bool c, .bool d => Q (c == d)
    | .int i, .int j => Q (decide (i = j))
    | .str x, .str y => Q (decide (x = y))
    | .tup l, .tup m => (okV (.tup l) = true ∧ okV (.tup m) = true) ∧ Q (decide (l = m))
    | .list l, .list m => (okV (.list l) = true ∧ okV (.list m) = true) ∧ Q (decide (l = m))
    | _, _ => False)
  | .NotEq => (match a, b with
    | .bool c, .bool d => Q (c != d)
    | .int i, .int j => Q (!decide (i = j))
    | .str x, .str y => Q (!decide (x = y))
    | .tup l, .tup m => (okV (.tup l) = true ∧ okV (.tup m) = true) ∧ Q (!decide (l = m))
    | .list l, .list m => (okV (.list l) = true ∧ okV (.list m) = true) ∧ Q (!decide (l = m))
    | .obj i, .list [] => ∃ l, σ[i]? = some (.list l) ∧ okV (.list l) = true ∧ Q (!decide (l = []))
    | _, _ => False)
  | .Lt => (match a, b with
    | .int i, .int j => Q (decide (i < j))
    | _, _ => False)
  | .LtE => (match a, b with
    | .int i, .int j => Q (decide (i ≤ j))
    | _, _ => False)
  | .Gt => (match a, b with
    | .int i, .int j => Q (decide (i > j))
    | _, _ => False)
  | .GtE => (match a, b with
    | .int i, .int j => Q (decide (i ≥ j))
    | _, _ => False)
  | .Is => (match a, b with
    | .none, .none => Q true
    | .tup _, .none => Q false
    | .bool _, .none => Q false
    | _, _ => False)
  | .IsNot => (match a, b with
    | .none, .none => Q false
    | .tup _, .none => Q true
    | .bool c, .bool true => Q (!c)
    | .none, .bool true => Q true
    | _, _ => False)
  | .In => (match a, b with
    | .str x, .str y => x.length = 1 ∧ Q (y.cps.toList.contains (x.cps.toList.headD 0))
    | _, _ => False)
  | .NotIn => (match a, b with
    | .str x, .str y => x.length = 1 ∧ Q (!y.cps.toList.contains (x.cps.toList.headD 0))
    | _, _ => False)

noncomputable def findS (es : List (Str × V)) (x : Str) : Option V := es.lookup x

noncomputable def idxW (σ : St) (a i : V) (Q : V → Prop) : Prop :=
  match a, i with
  | .tup l, .int k => 0 ≤ k ∧ k < (big : Int) ∧ ∃ d, l[k.toNat]? = some d ∧ Q d
  | .list l, .int k => 0 ≤ k ∧ k < (big : Int) ∧ ∃ d, l[k.toNat]? = some d ∧ Q d
  | .str x, .int k => 0 ≤ k ∧ k < (big : Int) ∧ ∃ c, x.cps.toList[k.toNat]? = some c ∧ Q (.str ⟨#[c]⟩)
  | .obj j, .int k => ∃ l, σ[j]? = some (.list l) ∧ 0 ≤ k ∧ k < (big : Int) ∧ ∃ d, l[k.toNat]? = some d ∧ Q d
  | .obj j, .str x => ∃ es, σ[j]? = some (.dict es) ∧ ∃ d, es.lookup x = some d ∧ Q d
  | _, _ => False

noncomputable def placeW (d : V) (dflt : Nat) (Q : Nat → Prop) : Prop :=
  match d with
  | .none => Q dflt
  | .int k => 0 ≤ k ∧ k < (big : Int) ∧ Q k.toNat
  | _ => False

noncomputable def cutS (x : Str) (i j : Nat) : Str := ⟨((x.cps.toList.take j).drop i).toArray⟩

noncomputable def slcW (a lo hi : V) (Q : V → Prop) : Prop :=
  match a with
  | .str x => x.length ≤ big ∧ placeW lo 0 fun i => placeW hi x.length fun j => Q (.str (cutS x i j))
  | .tup l => l.length ≤ big ∧ ∃ k, lo = .int k ∧ hi = .none ∧ 1 ≤ k ∧ k ≤ l.length ∧ Q (.tup (l.drop k.toNat))
  | _ => False

noncomputable def lenW (σ : St) (a : V) (Q : Nat → Prop) : Prop :=
  match a with
  | .str x => x.length ≤ big ∧ Q x.length
  | .tup l => l.length ≤ big ∧ Q l.length
  | .list l => l.length ≤ big ∧ Q l.length
  | .obj j => ∃ l, σ[j]? = some (.list l) ∧ l.length ≤ big ∧ Q l.length
  | _ => False

noncomputable def upd (loc : Loc) (i : Nat) (d : V) : Loc := fun j => if j = i then some d else loc j
noncomputable def sees (loc : Loc) (vis : List Nat) : Loc := fun j => if vis.contains j then loc j else none

noncomputable def itemsW (a : V) (Q : List V → Prop) : Prop :=
  match a with
  | .tup l => l.length ≤ big ∧ Q l
  | .list l => l.length ≤ big ∧ Q l
  | .str x => x.length ≤ big ∧ Q (x.cps.toList.map fun c => .str ⟨#[c]⟩)
  | _ => False

mutual
noncomputable def bare : V → Bool
  | .none => true
  | .bool _ => true
  | .int _ => true
  | .str _ => true
  | .fn _ => true
  | .obj _ => false
  | .tup l => bares l
  | .list l => bares l
noncomputable def bares : List V → Bool
  | [] => true
  | d :: ds => bare d && bares ds
end

mutual
theorem bare_below (k : Nat) : ∀ d : V, bare d = true → below k d
  | .none, _ => by rw [below]; trivial
  | .bool _, _ => by rw [below]; trivial
  | .int _, _ => by rw [below]; trivial
  | .str _, _ => by rw [below]; trivial
  | .fn _, _ => by rw [below]; trivial
  | .obj _, h => by rw [bare] at h; cases h
  | .tup l, h => by rw [bare] at h; rw [below]; exact bares_below k l h
  | .list l, h => by rw [bare] at h; rw [below]; exact bares_below k l h
theorem bares_below (k : Nat) : ∀ l : List V, bares l = true → belows k l
  | [], _ => by rw [belows]; trivial
  | d :: ds, h => by
    rw [bares, Bool.and_eq_true] at h; rw [belows]
    exact ⟨bare_below k d h.1, bares_below k ds h.2⟩
end
theorem bares_append : ∀ {l m : List V}, bares l = true → bares m = true → bares (l ++ m) = true
  | [], _, _, h => h
  | d :: l, m, h, h' => by
    rw [bares, Bool.and_eq_true] at h
    show bares (d :: (l ++ m)) = true
    rw [bares, Bool.and_eq_true]
    exact ⟨h.1, bares_append h.2 h'⟩

noncomputable def compW (c : Loc → St → (Bool → Prop) → Prop) (elt : Loc → St → (V → Prop) → Prop) (i : Nat) (loc : Loc) (σ : St) : List V → List V → (List V → Prop) → Prop
  | [], acc, Q => Q acc
  | d :: ds, acc, Q => c (upd loc i d) (σ ++ [.list acc]) fun t => match t with
    | true => elt (upd loc i d) (σ ++ [.list acc]) fun r => bare r = true ∧ compW c elt i loc σ ds (acc ++ [r]) Q
    | false => compW c elt i loc σ ds acc Q

noncomputable def isLst (σ : St) (d : V) : Prop := ∃ i l, d = .obj i ∧ σ[i]? = some (.list l)
noncomputable def notFn : V → Prop
  | .fn _ => False
  | _ => True
noncomputable def attrW (σ : St) (o : V) (x : Str) (Q : V → Prop) : Prop :=
  match o with
  | .obj i => ∃ j es d, σ[i]? = some (.inst j) ∧ σ[j]? = some (.dict es) ∧ es.lookup x = some d ∧ notFn d ∧ Q d
  | _ => False
noncomputable def methW (σ : St) (o : V) (x : Str) (P : Prop) : Prop :=
  match o with
  | .obj i => ∃ j es, σ[i]? = some (.inst j) ∧ σ[j]? = some (.dict es) ∧ es.lookup x = none ∧ P
  | _ => False
noncomputable def putV (x : Str) (d : V) : List (Str × V) → List (Str × V)
  | [] => [(x, d)]
  | (y, c) :: r => if y = x then (y, d) :: r else (y, c) :: putV x d r

noncomputable def isB (d : V) (P : Bool → Prop) : Prop := match d with
  | .bool b => P b
  | _ => False

section
variable (gv : Nat → V) (mv : Str → V) (O : V → List V → St → (V → St → Prop) → (Xc → St → Prop) → Prop)

noncomputable def wpE : ME → Loc → St → (V → St → Prop) → (Xc → St → Prop) → Prop
  | .loc i, loc, σ, Q, _ => ∃ d, loc i = some d ∧ Q d σ
  | .glob k, _, σ, Q, _ => Q (gv k) σ
  | .int i, _, σ, Q, _ => Q (.int i) σ
  | .str x, _, σ, Q, _ => Q (.str x) σ
  | .bool b, _, σ, Q, _ => Q (.bool b) σ
  | .none, _, σ, Q, _ => Q .none σ
  | .neg a, loc, σ, Q, E => wpE a loc σ (fun d σ => match d with | .int i => Q (.int (-i)) σ | _ => False) E
  | .tup0, _, σ, Q, _ => Q (.tup []) σ
  | .tup1 a, loc, σ, Q, E => wpE a loc σ (fun d σ => Q (.tup [d]) σ) E
  | .tup2 a b, loc, σ, Q, E => wpE a loc σ (fun d σ => wpE b loc σ (fun d' σ => Q (.tup [d, d']) σ) E) E
  | .tup3 a b c, loc, σ, Q, E => wpE a loc σ (fun d σ => wpE b loc σ (fun d' σ => wpE c loc σ (fun d'' σ => Q (.tup [d, d', d'']) σ) E) E) E
  | .lst0, _, σ, Q, _ => Q (.list []) σ
  | .lst1 a, loc, σ, Q, E => wpE a loc σ (fun d σ => Q (.list [d]) σ) E
  | .lst3 a b c, loc, σ, Q, E => wpE a loc σ (fun d σ => wpE b loc σ (fun d' σ => wpE c loc σ (fun d'' σ => Q (.list [d, d', d'']) σ) E) E) E
  | .new0, _, σ, Q, _ => Q (.obj σ.length) (σ ++ [.list []])
  | .new1 a, loc, σ, Q, E => wpE a loc σ (fun d σ => Q (.obj σ.length) (σ ++ [.list [d]])) E
  | .bin op a b, loc, σ, Q, E => wpE a loc σ (fun d σ => wpE b loc σ (fun d' σ => binW op d d' fun r => Q r σ) E) E
  | .cmp op a b, loc, σ, Q, E => wpE a loc σ (fun d σ => wpE b loc σ (fun d' σ => cmpW σ op d d' fun r => Q (.bool r) σ) E) E
  | .cmp2 op op' a b c, loc, σ, Q, E => wpE a loc σ (fun d σ => wpE b loc σ (fun d' σ => cmpW σ op d d' fun r => match r with
      | true => wpE c loc σ (fun d'' σ => cmpW σ op' d' d'' fun r => Q (.bool r) σ) E
      | false => Q (.bool false) σ) E) E
  | .and a b, loc, σ, Q, E => wpE a loc σ (fun d σ => isB d fun t => match t with
      | true => wpE b loc σ (fun d' σ => isB d' fun c => Q (.bool c) σ) E
      | false => Q (.bool false) σ) E
  | .or a b, loc, σ, Q, E => wpE a loc σ (fun d σ => isB d fun t => match t with
      | true => Q (.bool true) σ
      | false => wpE b loc σ (fun d' σ => isB d' fun c => Q (.bool c) σ) E) E
  | .not a, loc, σ, Q, E => wpE a loc σ (fun d σ => isB d fun c => Q (.bool (!c)) σ) E
  | .ite c a b, loc, σ, Q, E => wpE c loc σ (fun d σ => isB d fun t => match t with
      | true => wpE a loc σ Q E
      | false => wpE b loc σ Q E) E
  | .idx a i, loc, σ, Q, E => wpE a loc σ (fun d σ => wpE i loc σ (fun d' σ => idxW σ d d' fun r => Q r σ) E) E
  | .slc a lo hi, loc, σ, Q, E => wpE a loc σ (fun d σ => wpE lo loc σ (fun d' σ => wpE hi loc σ (fun d'' σ => slcW d d' d'' fun r => Q r σ) E) E) E
  | .take a k, loc, σ, Q, E => wpE a loc σ (fun d σ => match d with
      | .list l => l.length ≤ big ∧ Q (.list (l.take k)) σ
      | _ => False) E
  | .call0 f, loc, σ, Q, E => wpE f loc σ (fun v σ => O v [] σ Q E) E
  | .call1 f a, loc, σ, Q, E => wpE f loc σ (fun v σ => wpE a loc σ (fun d σ => O v [d] σ Q E) E) E
  | .call2 f a b, loc, σ, Q, E => wpE f loc σ (fun v σ => wpE a loc σ (fun d σ => wpE b loc σ (fun d' σ => O v [d, d'] σ Q E) E) E) E
  | .call3 f a b c, loc, σ, Q, E => wpE f loc σ (fun v σ => wpE a loc σ (fun d σ => wpE b loc σ (fun d' σ => wpE c loc σ (fun d'' σ => O v [d, d', d''] σ Q E) E) E) E) E
  | .call4 f a b c e, loc, σ, Q, E => wpE f loc σ (fun v σ => wpE a loc σ (fun d σ => wpE b loc σ (fun d' σ => wpE c loc σ (fun d'' σ => wpE e loc σ (fun d3 σ => O v [d, d', d'', d3] σ Q E) E) E) E) E) E
  | .len a, loc, σ, Q, E => wpE a loc σ (fun d σ => lenW σ d fun n => Q (.int n) σ) E
  | .intOf a, loc, σ, Q, E => wpE a loc σ (fun d σ => match d with
      | .int i => Q (.int i) σ
      | .str x => ∃ c, x.cps.toList = [c] ∧ (48 ≤ c ∧ c ≤ 57) ∧ Q (.int ((c : Int) - 48)) σ
      | _ => False) E
  | .strOf a, loc, σ, Q, E => wpE a loc σ (fun d σ => match d with
      | .int i => (0 ≤ i ∧ i < 10) ∧ Q (.str ⟨#[48 + i.toNat]⟩) σ
      | _ => False) E
  | .tupOf a, loc, σ, Q, E => wpE a loc σ (fun d σ => match d with | .list l => l.length ≤ big ∧ Q (.tup l) σ | _ => False) E
  | .range _, _, _, _, _ => False
  | .attr o x, loc, σ, Q, E => wpE o loc σ (fun d σ => attrW σ d x fun r => Q r σ) E
  | .meth0 o x, loc, σ, Q, E => wpE o loc σ (fun d σ => methW σ d x (O (mv x) [d] σ Q E)) E
  | .meth1 o x a, loc, σ, Q, E => wpE o loc σ (fun d σ => methW σ d x (wpE a loc σ (fun d' σ => O (mv x) [d, d'] σ Q E) E)) E
  | .isalnum a, loc, σ, Q, E => wpE a loc σ (fun d σ => match d with
      | .str x => ∃ c, x.cps.toList = [c] ∧ c < 128 ∧ Q (.bool (decide ((48 ≤ c ∧ c ≤ 57) ∨ (65 ≤ c ∧ c ≤ 90) ∨ (97 ≤ c ∧ c ≤ 122)))) σ
      | _ => False) E
  | .append o a, loc, σ, Q, E => wpE o loc σ (fun d σ => isLst σ d ∧ wpE a loc σ (fun d' σ => match d with
      | .obj i => ∃ l, σ[i]? = some (.list l) ∧ l.length ≤ big ∧ Q .none (σ.set i (.list (l ++ [d'])))
      | _ => False) E) E
  | .pop o, loc, σ, Q, E => wpE o loc σ (fun d σ => match d with
      | .obj i => ∃ l x, σ[i]? = some (.list (l ++ [x])) ∧ l.length ≤ big ∧ Q x (σ.set i (.list l))
      | _ => False) E
  | .extend o a, loc, σ, Q, E => wpE o loc σ (fun d σ => isLst σ d ∧ wpE a loc σ (fun d' σ => match d, d' with
      | .obj i, .list m => ∃ l, σ[i]? = some (.list l) ∧ l.length + m.length ≤ big ∧ Q .none (σ.set i (.list (l ++ m)))
      | _, _ => False) E) E
  | .fmt pre a post, loc, σ, Q, E => wpE a loc σ (fun d σ => match d with
      | .int i => (0 ≤ i ∧ i < 10) ∧ (pre.length ≤ 100 ∧ post.length ≤ 100) ∧ Q (.str (pre ++ ⟨#[48 + i.toNat]⟩ ++ post)) σ
      | .str x => (pre.length + x.length + post.length ≤ big) ∧ Q (.str (pre ++ x ++ post)) σ
      | _ => False) E
  | .comp i vis elt (.range b) cond, loc, σ, Q, E => wpE b loc σ (fun d σ => match d with
      | .int n => (0 ≤ n ∧ n ≤ (big : Int)) ∧ compW (fun l σ Q => wpE cond l σ (fun d σ' => isB d fun b => σ' = σ ∧ Q b) (fun _ _ => False)) (fun l σ Q => wpE elt l σ (fun d σ' => σ' = σ ∧ Q d) (fun _ _ => False)) i (sees loc vis) σ ((List.range n.toNat).map fun k => .int (k : Nat)) [] fun r => Q (.list r) σ
      | _ => False) E
  | .comp i vis elt iter cond, loc, σ, Q, E => wpE iter loc σ (fun d σ => itemsW d fun items =>
      compW (fun l σ Q => wpE cond l σ (fun d σ' => isB d fun b => σ' = σ ∧ Q b) (fun _ _ => False)) (fun l σ Q => wpE elt l σ (fun d σ' => σ' = σ ∧ Q d) (fun _ _ => False)) i (sees loc vis) σ items [] fun r => Q (.list r) σ) E
  | .hand a b, loc, σ, Q, E => wpE a loc (σ ++ [.dict []]) (fun d σ' => wpE b loc σ' (fun d' σ'' => σ''[σ.length]? = some (.dict []) ∧ Q (.obj σ.length) (σ''.set σ.length (.dict [("cells", d), ("at", d')]))) E) E
  | .bad, _, _, _, _ => False

noncomputable def loopW (c : Loc → St → (Bool → St → Prop) → Prop) (b : Loc → St → (Fl → Loc → St → Prop) → Prop) : Nat → Loc → St → (Fl → Loc → St → Prop) → Prop
  | 0, _, _, _ => False
  | k + 1, loc, σ, Q => c loc σ fun t σ => match t with
    | false => Q .next loc σ
    | true => b loc σ fun fl loc σ => match fl with
      | .next => loopW c b k loc σ Q
      | .brk => Q .next loc σ
      | .ret d => Q (.ret d) loc σ

noncomputable def forW (b : Loc → St → (Fl → Loc → St → Prop) → Prop) (put : Loc → Nat → V → Loc) : Nat → List V → Loc → St → (Fl → Loc → St → Prop) → Prop
  | _, [], loc, σ, Q => Q .next loc σ
  | k, d :: ds, loc, σ, Q => b (put loc k d) σ fun fl loc σ => match fl with
      | .next => forW b put (k + 1) ds loc σ Q
      | .brk => Q .next loc σ
      | .ret d => Q (.ret d) loc σ

noncomputable def wpS : MS → Loc → St → (Fl → Loc → St → Prop) → (Xc → St → Prop) → Prop
  | .nil, loc, σ, Q, _ => Q .next loc σ
  | .seq s rest, loc, σ, Q, E => wpS s loc σ (fun fl loc σ => match fl with | .next => wpS rest loc σ Q E | fl => Q fl loc σ) E
  | .asg i a, loc, σ, Q, E => wpE gv mv O a loc σ (fun d σ => Q .next (upd loc i d) σ) E
  | .unp2 i j a, loc, σ, Q, E => wpE gv mv O a loc σ (fun d σ => match d with
      | .tup [x, y] => Q .next (upd (upd loc i x) j y) σ
      | _ => False) E
  | .setIdx o k a, loc, σ, Q, E => wpE gv mv O a loc σ (fun d σ => wpE gv mv O o loc σ (fun o σ => match o with
      | .obj i => ∃ es, σ[i]? = some (.dict es) ∧ es.length ≤ 900 ∧ (es.map (·.1)).Nodup ∧ (es.any fun p => p.1 = k) = true ∧ Q .next loc (σ.set i (.dict (es.map fun p => if p.1 = k then (p.1, d) else p)))
      | _ => False) E) E
  | .setAttr o x a, loc, σ, Q, E => wpE gv mv O a loc σ (fun d σ => wpE gv mv O o loc σ (fun o σ => match o with
      | .obj i => ∃ j es, σ[i]? = some (.inst j) ∧ σ[j]? = some (.dict es) ∧ es.length ≤ 900 ∧ Q .next loc (σ.set j (.dict (putV x d es)))
      | _ => False) E) E
  | .ret a, loc, σ, Q, E => wpE gv mv O a loc σ (fun d σ => Q (.ret d) loc σ) E
  | .ite c a b, loc, σ, Q, E => wpE gv mv O c loc σ (fun d σ => isB d fun t => match t with
      | true => wpS a loc σ Q E
      | false => wpS b loc σ Q E) E
  | .whl c b, loc, σ, Q, _ => ∃ k, loopW (fun loc σ Q => wpE gv mv O c loc σ (fun d σ => isB d fun b => Q b σ) (fun _ _ => False)) (fun loc σ Q => wpS b loc σ Q (fun _ _ => False)) k loc σ Q
  | .forr i (.range a) b, loc, σ, Q, E => wpE gv mv O a loc σ (fun d σ => match d with
      | .int n => (0 ≤ n ∧ n ≤ (big : Int)) ∧ forW (fun loc σ Q => wpS b loc σ Q (fun _ _ => False)) (fun loc _ d => upd loc i d) 0 ((List.range n.toNat).map fun k => .int (k : Nat)) loc σ Q
      | _ => False) E
  | .forr i a b, loc, σ, Q, E => wpE gv mv O a loc σ (fun d σ => itemsW d fun items => forW (fun loc σ Q => wpS b loc σ Q (fun _ _ => False)) (fun loc _ d => upd loc i d) 0 items loc σ Q) E
  | .fore i j a b, loc, σ, Q, E => wpE gv mv O a loc σ (fun d σ => match d with
      | .list items => items.length ≤ big ∧ forW (fun loc σ Q => wpS b loc σ Q (fun _ _ => False)) (fun loc k d => upd (upd loc i (.int (k : Nat))) j d) 0 items loc σ Q
      | _ => False) E
  | .expr a, loc, σ, Q, E => wpE gv mv O a loc σ (fun _ σ => Q .next loc σ) E
  | .brk, loc, σ, Q, _ => Q .brk loc σ
  | .raise _ a none, loc, σ, _, E => wpE gv mv O a loc σ (fun _ σ => E .limit σ) E
  | .raise _ a (some b), loc, σ, _, E => wpE gv mv O a loc σ (fun _ σ => wpE gv mv O b loc σ (fun d σ => match d with
      | .int i => E (.text i) σ
      | _ => False) E) E
  | .tryNone b, loc, σ, Q, E => wpS b loc σ (fun fl loc σ => match fl with | .ret d => Q (.ret d) loc σ | _ => False) (fun x σ => match x with
      | .limit => Q (.ret .none) (fun _ => none) σ
      | .text _ => False)
  | .trySpot b, loc, σ, Q, E => wpS b loc σ Q (fun x σ => match x with
      | .text i => Q (.ret (.int i)) (fun _ => none) σ
      | .limit => False)
  | .bad, _, _, _, _ => False
end
end Mine
end
section
open PySem PySem.W PyProof.Rows PySem.Spec PySem.Calls PySem.Builtin.Str
set_option Elab.async false
set_option maxRecDepth 100000
set_option autoImplicit false
namespace Mine

theorem idx_cut (l u : Option Int) (i j n : Nat) (hl : l = some (i : Int) ∨ (l = none ∧ i = 0)) (hu : u = some (j : Int) ∨ (u = none ∧ j = n)) : strSliceIndices l u 1 n = (List.range (min j n - min i n)).map (min i n + ·) := by
  have h1 : ((1 : Int) > 0) = True := by simp
  rcases hl with rfl | ⟨rfl, rfl⟩ <;> rcases hu with rfl | ⟨rfl, rfl⟩
  · simp only [strSliceIndices, h1, if_true]
    rw [if_neg (by omega), if_neg (by omega), ← sliceRange_one]
    congr 1 <;> omega
  · simp only [strSliceIndices, h1, if_true]
    rw [if_neg (by omega), ← sliceRange_one]
    congr 1 <;> omega
  · simp only [strSliceIndices, h1, if_true]
    rw [if_neg (by omega), ← sliceRange_one]
    congr 1 <;> omega
  · simp only [strSliceIndices, h1, if_true]
    rw [← sliceRange_one]
    congr 1 <;> omega

theorem str_eta (x : Str) : (⟨x.cps.toList.toArray⟩ : Str) = x := by cases x; rfl

theorem slice_cut (x : Str) (l u : Option Int) (i j : Nat) (hl : l = some (i : Int) ∨ (l = none ∧ i = 0)) (hu : u = some (j : Int) ∨ (u = none ∧ j = x.length)) : Txt.slice x l u = cutS x i j := by
  have hn : x.length = x.cps.toList.length := by simp [PySem.Str.length]
  have key : (⟨((strSliceIndices l u 1 x.length).filterMap (x.cps[·]?)).toArray⟩ : Str) = cutS x i j := by
    rw [idx_cut l u i j x.length hl hu, pick_run]
    unfold cutS
    have : ((x.cps.toList.drop (min i x.length)).take (min j x.length - min i x.length)) = (x.cps.toList.take j).drop i := by
      rw [← List.drop_take, hn]
      have e1 : List.take (min j x.cps.toList.length) x.cps.toList = List.take j x.cps.toList := by
        rcases Nat.le_total j x.cps.toList.length with h | h
        · rw [Nat.min_eq_left h]
        · rw [Nat.min_eq_right h, List.take_of_length_le (Nat.le_refl _), List.take_of_length_le h]
      rw [e1]
      rcases Nat.le_total i x.cps.toList.length with h | h
      · rw [Nat.min_eq_left h]
      · rw [Nat.min_eq_right h, List.drop_of_length_le (by rw [List.length_take]; omega), List.drop_of_length_le (by rw [List.length_take]; omega)]
    rw [this]
  unfold Txt.slice
  split
  · rename_i h
    simp only [beq_self_eq_true, Bool.true_and, beq_iff_eq] at h
    rw [← key]
    rw [idx_cut l u i j x.length hl hu] at h ⊢
    rw [pick_run]
    simp only [List.length_map, List.length_range] at h
    have h0 : min i x.length = 0 ∨ x.length = 0 := by omega
    have : (x.cps.toList.drop (min i x.length)).take (min j x.length - min i x.length) = x.cps.toList := by
      rw [h]
      rcases h0 with h0 | h0
      · rw [h0, List.drop_zero, hn, List.take_of_length_le (Nat.le_refl _)]
      · have : x.cps.toList = [] := List.eq_nil_of_length_eq_zero (by omega)
        rw [this]; simp
    rw [this, str_eta]
  · exact key

theorem cutS_len (x : Str) (i j : Nat) : (cutS x i j).length ≤ x.length := by
  unfold cutS PySem.Str.length
  simp
  omega

inductive GrowQ (s : Shared) (hid : List Addr) (Q : V → Prop) (v : Value) (s' : Shared) : Prop
  | mk (h' : Heap) (tk : Nat) (d : V) (e : s' = { s with heap := h', toks := tk }) (k : ∀ b o, s.heap.get? b = some o → h'.get? b = some o) (z : s.heap.objs.size ≤ h'.objs.size) (r : VR h' hid d v) (q : Q d)

theorem GrowQ.ok {W : Wd} {s : Shared} {hid : List Addr} {σ : St} {Q : V → Prop} {Q' : V → St → Prop} {v : Value} {s' : Shared} (x : SR W σ hid s.heap) (b : W.hT.StaysIn s.heap) (k : ∀ d, Q d → Q' d σ) (q : GrowQ s hid Q v s') : OkQ W s hid Q' v s' := by
  obtain ⟨h', tk, d, rfl, kk, hs, r, q⟩ := q
  exact ⟨h', tk, hid, d, σ, rfl, grow_post x b kk hs, r, k d q⟩
theorem growHere {s : Shared} {hid : List Addr} {Q : V → Prop} {v : Value} {d : V} {tk : Nat} (r : VR s.heap hid d v) (q : Q d) : GrowQ s hid Q v { s with toks := tk } :=
  ⟨s.heap, tk, d, rfl, fun _ _ e => e, Nat.le_refl _, r, q⟩
theorem growHere' {s : Shared} {hid : List Addr} {Q : V → Prop} {v : Value} {d : V} (r : VR s.heap hid d v) (q : Q d) : GrowQ s hid Q v s :=
  ⟨s.heap, s.toks, d, rfl, fun _ _ e => e, Nat.le_refl _, r, q⟩
theorem grow_tup {s : Shared} {hid : List Addr} {Q : V → Prop} {xs : List Value} {ds : List V} (r : VRs s.heap hid ds xs) (hh : ∀ a ∈ hid, a < s.heap.objs.size) (q : Q (.tup ds)) :
    GrowQ s hid Q (.ref s.heap.objs.size) { s with heap := s.heap.push { cls := .type "tuple", data := .seq xs.toArray } } := by
  refine ⟨_, s.toks, .tup ds, rfl, fun _ _ e => Heap.get?_push_of_some _ e, by rw [Heap.size_push]; omega, ?_, q⟩
  rw [VR]
  exact ⟨_, xs, 0, rfl, IsT.new .., fun h => Nat.lt_irrefl _ (hh _ h), VRs.evo (own := []) (Evo.of_stays (fun _ _ e => Heap.get?_push_of_some _ e) (by rw [Heap.size_push]; omega)) (fun _ h => nomatch h) (Ext.refl _ _) r⟩
theorem grow_list {s : Shared} {hid : List Addr} {Q : V → Prop} {xs : List Value} {ds : List V} (r : VRs s.heap hid ds xs) (hh : ∀ a ∈ hid, a < s.heap.objs.size) (q : Q (.list ds)) :
    GrowQ s hid Q (.ref s.heap.objs.size) { s with heap := s.heap.push { cls := .type "list", data := .seq xs.toArray } } := by
  refine ⟨_, s.toks, .list ds, rfl, fun _ _ e => Heap.get?_push_of_some _ e, by rw [Heap.size_push]; omega, ?_, q⟩
  rw [VR]
  exact ⟨_, xs, 0, rfl, IsL.new .., fun h => Nat.lt_irrefl _ (hh _ h), VRs.evo (own := []) (Evo.of_stays (fun _ _ e => Heap.get?_push_of_some _ e) (by rw [Heap.size_push]; omega)) (fun _ h => nomatch h) (Ext.refl _ _) r⟩

theorem big_le : big ≤ sizeLine := by rw [sizeLine_eq]; decide

theorem rep_mul (x : Str) (k : Nat) : Txt.mul x (k : Int) = repS x k := by
  have fold : ∀ (n : Nat) (a : Array Nat), (List.replicate n x.cps).foldl (· ++ ·) a = a ++ (repS x n).cps := by
    intro n
    induction n with
    | zero => intro a; simp [repS, Str.empty]
    | succ n ih => intro a; rw [List.replicate_succ, List.foldl_cons, ih, repS]; rw [Str.cps_append, Array.append_assoc]
  have one : repS x 1 = x := by
    have : repS x 1 = x ++ Str.empty := rfl
    rw [this]; apply Str.ext'; rw [Str.cps_append]; simp [Str.empty]
  unfold Txt.mul
  split
  · rename_i h
    have : k = 0 := by omega
    subst this; rfl
  · split
    · rename_i h0 h
      simp only [Bool.or_eq_true, beq_iff_eq] at h
      rcases h with h | h
      · have : k = 1 := by omega
        subst this; exact one.symm
      · have hx : x.cps = #[] := Array.eq_empty_of_size_eq_zero h
        have ex : x = Str.empty := by apply Str.ext'; rw [hx]; rfl
        have : ∀ n, repS x n = Str.empty := by
          intro n
          induction n with
          | zero => rfl
          | succ n ih => rw [repS, ih, ex]; rfl
        rw [this, ex]
    · apply Str.ext'
      show (List.replicate (k : Int).toNat x.cps).foldl (· ++ ·) #[] = _
      rw [Int.toNat_natCast, fold]; simp

section
variable {prog : Program} {w : World} {A : Around} {E : Value → Shared → Prop} {s : Shared} {hid : List Addr} {Q : V → Prop}

theorem vr_int {i : Int} {t : Tok} {h : Heap} : VR h hid (.int i) (.int i t) := by rw [VR]; exact ⟨t, rfl⟩
theorem vr_str {x : Str} {t : Tok} {h : Heap} : VR h hid (.str x) (.str x t) := by rw [VR]; exact ⟨t, rfl⟩
theorem vr_bool {b : Bool} {h : Heap} : VR h hid (.bool b) (.bool b) := by rw [VR]
theorem vr_none {h : Heap} : VR h hid .none .none := by rw [VR]

theorem tup_add {t b : Addr} {xs ys : List Value} {n m : Nat} {ds es : List V} (ht : IsT s.heap t xs.toArray n) (hb : IsT s.heap b ys.toArray m) (na : t ∉ hid) (nb : b ∉ hid) (rx : VRs s.heap hid ds xs) (ry : VRs s.heap hid es ys)
    (hh : ∀ a ∈ hid, a < s.heap.objs.size) (hz : ds.length + es.length ≤ big) (q : Q (.tup (ds ++ es))) : wpAny (model prog w) A (binaryOp .Add (.ref t) (.ref b)) (GrowQ s hid Q) E s := by
  have ho := ht
  have ho2 := hb
  have lx := rx.length
  have ly := ry.length
  by_cases hv : xs = []
  · subst hv
    have : ds = [] := List.eq_nil_of_length_eq_zero (by simpa using lx)
    subst this
    refine concat_meets ⟨_, ho, rfl⟩ ⟨_, ho2, rfl⟩ noFill_tuple_add seq_tuple_add PySem.F.slot_tuple_add PySem.F.entry_tuple_add (PySem.F.args_tuple_add_2 _ _)
      (tuple_addW0 t b _ ys.toArray n m _ _ _ _ (by simp)) ⟨ho, ho2, ?_⟩
    exact growHere' (by rw [VR]; exact ⟨b, ys, m, rfl, hb, nb, ry⟩) q
  · by_cases hw : ys = []
    · subst hw
      have : es = [] := List.eq_nil_of_length_eq_zero (by simpa using ly)
      subst this
      refine concat_meets ⟨_, ho, rfl⟩ ⟨_, ho2, rfl⟩ noFill_tuple_add seq_tuple_add PySem.F.slot_tuple_add PySem.F.entry_tuple_add (PySem.F.args_tuple_add_2 _ _)
        (tuple_addW1 t b xs.toArray _ n m _ _ _ _ (by simpa using hv) (by simp)) ⟨ho, ho2, ?_⟩
      rw [List.append_nil] at q
      exact growHere' (by rw [VR]; exact ⟨t, xs, n, rfl, ht, na, rx⟩) q
    · refine concat_meets ⟨_, ho, rfl⟩ ⟨_, ho2, rfl⟩ noFill_tuple_add seq_tuple_add PySem.F.slot_tuple_add PySem.F.entry_tuple_add (PySem.F.args_tuple_add_2 _ _)
        (tuple_addW2 t b xs.toArray ys.toArray n m _ _ _ _ (by simpa using hv) (by simpa using hw) (by rw [List.size_toArray, List.size_toArray, ← lx, ← ly]; exact Nat.le_trans hz big_le)) ⟨ho, ho2, ?_⟩
      have e : xs.toArray ++ ys.toArray = (xs ++ ys).toArray := by simp
      rw [e]
      exact grow_tup (rx.append ry) hh q

theorem list_add {t b : Addr} {xs ys : List Value} {n m : Nat} {ds es : List V} (ht : IsL s.heap t xs.toArray n) (hb : IsL s.heap b ys.toArray m) (rx : VRs s.heap hid ds xs) (ry : VRs s.heap hid es ys)
    (hh : ∀ a ∈ hid, a < s.heap.objs.size) (hz : ds.length + es.length ≤ big) (q : Q (.list (ds ++ es))) : wpAny (model prog w) A (binaryOp .Add (.ref t) (.ref b)) (GrowQ s hid Q) E s := by
  refine PySem.P.add_list ht hb ?_ (by rw [List.size_toArray, List.size_toArray, ← rx.length, ← ry.length]; exact Nat.le_trans hz big_le)
  have e : xs.toArray ++ ys.toArray = (xs ++ ys).toArray := by simp
  rw [e]
  exact grow_list (rx.append ry) hh q

theorem fmod_pos {a b : Int} (h : 0 < b) : Int.fmod a b = a % b := by rw [Int.fmod_eq_emod_of_nonneg a (by omega)]
theorem fdiv_pos {a b : Int} (h : 0 < b) : Int.fdiv a b = a / b := by rw [Int.fdiv_eq_ediv_of_nonneg a (by omega)]

theorem bin_rule {op : Operator} {d d' : V} {v v' : Value} (hh : ∀ a ∈ hid, a < s.heap.objs.size) (r : VR s.heap hid d v) (r' : VR s.heap hid d' v') (q : binW op d d' Q) : wpAny (model prog w) A (binaryOp op v v') (GrowQ s hid Q) E s := by
  cases op
  case Add =>
    cases d <;> (first | exact False.elim q | (cases d' <;> first | exact False.elim q | skip))
    · simp only [VR] at r r'; obtain ⟨t, rfl⟩ := r; obtain ⟨u, rfl⟩ := r'
      exact PyProof.Rows.add_int (growHere vr_int q)
    · simp only [VR] at r r'; obtain ⟨t, rfl⟩ := r; obtain ⟨u, rfl⟩ := r'
      exact PyProof.Rows.add_str (fun t' tk => growHere vr_str q.2) (Nat.le_trans q.1 big_le)
    · simp only [VR] at r r'
      obtain ⟨t, xs, n, rfl, ht, na, rx⟩ := r
      obtain ⟨b, ys, m, rfl, hb, nb, ry⟩ := r'
      exact tup_add ht hb na nb rx ry hh q.1 q.2
    · simp only [VR] at r r'
      obtain ⟨t, xs, n, rfl, ht, na, rx⟩ := r
      obtain ⟨b, ys, m, rfl, hb, nb, ry⟩ := r'
      exact list_add ht hb rx ry hh q.1 q.2
  case Sub =>
    cases d <;> (first | exact False.elim q | (cases d' <;> first | exact False.elim q | skip))
    · simp only [VR] at r r'; obtain ⟨t, rfl⟩ := r; obtain ⟨u, rfl⟩ := r'
      exact PyProof.Rows.sub_int (growHere vr_int q)
  case Mult =>
    cases d <;> (first | exact False.elim q | (cases d' <;> first | exact False.elim q | skip))
    · simp only [VR] at r r'; obtain ⟨t, rfl⟩ := r; obtain ⟨u, rfl⟩ := r'
      exact PyProof.Rows.mul_int (growHere vr_int q.2) (IntMulOk.of_left (intBits_le_64 (by have := q.1.1; simp only [big] at this; omega) (by have := q.1.2; simp only [big] at this; omega)))
    · simp only [VR] at r r'; obtain ⟨t, rfl⟩ := r; obtain ⟨u, rfl⟩ := r'
      rename_i x k
      obtain ⟨⟨h0, h1, h2⟩, q⟩ := q
      have ek : ((k.toNat : Nat) : Int) = k := by omega
      refine KXi.mul (n := x.length) rfl h2 (by omega) (by omega) (fun t' tk _ _ => growHere vr_str ?_)
      rw [← ek, rep_mul]; exact q
  case Mod =>
    cases d <;> (first | exact False.elim q | (cases d' <;> first | exact False.elim q | skip))
    · simp only [VR] at r r'; obtain ⟨t, rfl⟩ := r; obtain ⟨u, rfl⟩ := r'
      exact PyProof.Rows.mod_int (by have := q.1; omega) (growHere vr_int (by rw [fmod_pos q.1]; exact q.2))
  case FloorDiv =>
    cases d <;> (first | exact False.elim q | (cases d' <;> first | exact False.elim q | skip))
    · simp only [VR] at r r'; obtain ⟨t, rfl⟩ := r; obtain ⟨u, rfl⟩ := r'
      exact PyProof.Rows.floordiv_int (by have := q.1.1; omega) (growHere vr_int (by rw [fdiv_pos q.1.1]; exact q.2)) (Or.inl (PyProof.noPylong_small (by have := q.1; simp only [big] at this; omega)))
  all_goals exact q.elim
end
end Mine
end
section
open PySem PySem.W PyProof.Rows PySem.Spec PySem.Calls PySem.Builtin.Str
set_option Elab.async false
set_option maxRecDepth 100000
set_option autoImplicit false
namespace Mine

mutual
theorem vr_reads {h : Heap} {hid : List Addr} : ∀ (d : V) (v : Value) (n : Nat), VR h hid d v → kqdOk n (vD d) = true → ∃ as, Reads h v (kqdP (vD d)) as
  | .none, v, _, r, _ => by simp only [VR] at r; subst r; exact ⟨_, Reads.none⟩
  | .bool _, _, n, _, k => by cases n <;> simp [vD, kqdOk] at k
  | .int i, v, _, r, _ => by simp only [VR] at r; obtain ⟨t, rfl⟩ := r; exact ⟨_, Reads.int i t⟩
  | .str x, v, _, r, _ => by simp only [VR] at r; obtain ⟨t, rfl⟩ := r; exact ⟨_, Reads.str x t⟩
  | .obj _, _, n, _, k => by cases n <;> simp [vD, kqdOk] at k
  | .fn _, _, n, _, k => by cases n <;> simp [vD, kqdOk] at k
  | .tup ds, v, 0, _, k => by simp [vD, kqdOk] at k
  | .list ds, v, 0, _, k => by simp [vD, kqdOk] at k
  | .tup ds, v, n + 1, r, k => by
    simp only [VR] at r
    obtain ⟨a, xs, m, rfl, ht, _, rs⟩ := r
    obtain ⟨as, q⟩ := vrs_reads ds xs n rs (by simpa [vD, kqdOk] using k)
    exact ⟨_, Reads.tuple ht rfl rfl (by simpa using q)⟩
  | .list ds, v, n + 1, r, k => by
    simp only [VR] at r
    obtain ⟨a, xs, m, rfl, ht, _, rs⟩ := r
    obtain ⟨as, q⟩ := vrs_reads ds xs n rs (by simpa [vD, kqdOk] using k)
    exact ⟨_, Reads.list ht rfl rfl (by simpa using q)⟩
theorem vrs_reads {h : Heap} {hid : List Addr} : ∀ (ds : List V) (vs : List Value) (n : Nat), VRs h hid ds vs → (∀ d ∈ vDs ds, kqdOk n d = true) → ∃ as, ReadsAll h vs (kqdPs (vDs ds)) as
  | [], [], _, _, _ => ⟨_, ReadsAll.nil⟩
  | d :: ds, v :: vs, n, r, k => by
    rw [VRs] at r
    simp only [vDs] at k
    obtain ⟨as, q⟩ := vr_reads d v n r.1 (k _ (.head _))
    obtain ⟨bs, q'⟩ := vrs_reads ds vs n r.2 fun e he => k e (.tail _ he)
    exact ⟨_, ReadsAll.cons q q'⟩
  | [], _ :: _, _, r, _ => by rw [VRs] at r; exact r.elim
  | _ :: _, [], _, r, _ => by rw [VRs] at r; exact r.elim
end

mutual
theorem vD_inj : ∀ (d e : V) (n m : Nat), kqdOk n (vD d) = true → kqdOk m (vD e) = true → vD d = vD e → d = e
  | .none, e, _, m, _, k, h => by cases e <;> simp_all [vD]
  | .bool _, _, n, _, k, _, _ => by cases n <;> simp [vD, kqdOk] at k
  | .int i, e, _, m, _, k, h => by cases e <;> simp_all [vD]
  | .str x, e, _, m, _, k, h => by cases e <;> simp_all [vD]
  | .obj _, _, n, _, k, _, _ => by cases n <;> simp [vD, kqdOk] at k
  | .fn _, _, n, _, k, _, _ => by cases n <;> simp [vD, kqdOk] at k
  | .tup ds, .tup es, n, m, k, k', h => by
    cases n <;> cases m <;> simp only [vD, kqdOk, List.all_eq_true, Bool.false_eq_true, Dat.tuple.injEq] at k k' h
    rw [vDs_inj ds es _ _ k k' h]
  | .list ds, .list es, n, m, k, k', h => by
    cases n <;> cases m <;> simp only [vD, kqdOk, List.all_eq_true, Bool.false_eq_true, Dat.list.injEq] at k k' h
    rw [vDs_inj ds es _ _ k k' h]
  | .tup _, .none, _, _, _, _, h | .tup _, .bool _, _, _, _, _, h | .tup _, .int _, _, _, _, _, h | .tup _, .str _, _, _, _, _, h | .tup _, .list _, _, _, _, _, h | .tup _, .obj _, _, _, _, _, h | .tup _, .fn _, _, _, _, _, h => by simp [vD] at h
  | .list _, .none, _, _, _, _, h | .list _, .bool _, _, _, _, _, h | .list _, .int _, _, _, _, _, h | .list _, .str _, _, _, _, _, h | .list _, .tup _, _, _, _, _, h | .list _, .obj _, _, _, _, _, h | .list _, .fn _, _, _, _, _, h => by simp [vD] at h
theorem vDs_inj : ∀ (ds es : List V) (n m : Nat), (∀ d ∈ vDs ds, kqdOk n d = true) → (∀ d ∈ vDs es, kqdOk m d = true) → vDs ds = vDs es → ds = es
  | [], [], _, _, _, _, _ => rfl
  | d :: ds, e :: es, n, m, k, k', h => by
    simp only [vDs, List.cons.injEq] at h k k'
    rw [vD_inj d e n m (k _ (.head _)) (k' _ (.head _)) h.1, vDs_inj ds es n m (fun x hx => k x (.tail _ hx)) (fun x hx => k' x (.tail _ hx)) h.2]
  | [], _ :: _, _, _, _, _, h => by simp [vDs] at h
  | _ :: _, [], _, _, _, _, h => by simp [vDs] at h
end

theorem ok_shaped {d : V} (k : okV d = true) : SeqAt.shaped (kqdP (vD d)) = true := by
  have q := kqd_lay 40 (vD d) k
  unfold SeqAt.shaped
  rw [q.1, Bool.true_and]
  exact decide_eq_true (Nat.le_trans q.2 (by decide))
open Classical in
theorem ok_eqv {d e : V} (k : okV d = true) (k' : okV e = true) : PyData.eqv (kqdP (vD d)) (kqdP (vD e)) = decide (d = e) := by
  have q := kqd_eqv 40 (vD d) (vD e) 40 k k'
  by_cases hq : d = e
  · rw [decide_eq_true hq]; exact q.mpr (by rw [hq])
  · rw [decide_eq_false hq]; exact Bool.eq_false_iff.mpr fun x => hq (vD_inj d e 40 40 k k' (q.mp x))

section
variable {prog : Program} {w : World} {A : Around} {E : Value → Shared → Prop} {s : Shared} {hid : List Addr} {Q : Bool → Prop}

noncomputable def BoolQ (s : Shared) (Q : Bool → Prop) : Value → Shared → Prop := fun v s' => ∃ b, v = .bool b ∧ s' = s ∧ Q b
theorem boolHere {b : Bool} (q : Q b) : BoolQ s Q (.bool b) s := ⟨b, rfl, rfl, q⟩

theorem eq_ok {d e : V} {v u : Value} (r : VR s.heap hid d v) (r' : VR s.heap hid e u) (k : okV d = true) (k' : okV e = true) (hu : A.units + 64 < cLine) (P : Bool → Prop) (q : ∀ b, (b = true ↔ d = e) → P b) : wpAny (model prog w) A (compareOp .Eq v u) (BoolQ s P) E s := by
  obtain ⟨as, ra⟩ := vr_reads d v 40 r k
  obtain ⟨bs, rb⟩ := vr_reads e u 40 r' k'
  refine eq_dataH ra rb (ok_shaped k) (ok_shaped k') hu (boolHere (q _ ?_))
  rw [ok_eqv k k']; simp
theorem ne_ok {d e : V} {v u : Value} (r : VR s.heap hid d v) (r' : VR s.heap hid e u) (k : okV d = true) (k' : okV e = true) (hu : A.units + 64 < cLine) (P : Bool → Prop) (q : ∀ b, (b = true ↔ d = e) → P (!b)) : wpAny (model prog w) A (compareOp .NotEq v u) (BoolQ s P) E s := by
  obtain ⟨as, ra⟩ := vr_reads d v 40 r k
  obtain ⟨bs, rb⟩ := vr_reads e u 40 r' k'
  refine ne_dataH ra rb (ok_shaped k) (ok_shaped k') hu (boolHere (q _ ?_))
  rw [ok_eqv k k']; simp

theorem dec_of {p : Prop} {b : Bool} [Decidable p] (h : b = true ↔ p) : b = decide p := by
  cases b
  · symm; exact decide_eq_false fun q => by have := h.mpr q; cases this
  · symm; exact decide_eq_true (h.mp rfl)

theorem one_of {x : Str} (h : x.length = 1) : ∃ c, x = ⟨#[c]⟩ := by
  obtain ⟨⟨l⟩⟩ := x
  match l, h with
  | [c], _ => exact ⟨c, rfl⟩

open Classical in
theorem cmp_rule {W : Wd} {σ : St} {op : CmpOp} {d d' : V} {v v' : Value} (hu : A.units + 64 < cLine) (sr : SR W σ hid s.heap) (r : VR s.heap hid d v) (r' : VR s.heap hid d' v') (q : cmpW σ op d d' Q) : wpAny (model prog w) A (compareOp op v v') (BoolQ s Q) E s := by
  cases op
  · cases d <;> (first | exact False.elim q | (cases d' <;> first | exact False.elim q | skip))
    · simp only [VR] at r r'; subst r; subst r'
      exact PyProof.Rows.eq_bool (boolHere q)
    · simp only [VR] at r r'; obtain ⟨t, rfl⟩ := r; obtain ⟨u, rfl⟩ := r'
      refine PyProof.Rows.eq_int (boolHere ?_)
      rename_i i j; rw [dec_of (p := i = j) (b := i == j) (by simp)]; exact q
    · simp only [VR] at r r'; obtain ⟨t, rfl⟩ := r; obtain ⟨u, rfl⟩ := r'
      refine PyProof.Rows.eq_str (boolHere ?_)
      rename_i i j; rw [dec_of (p := i = j) (b := i == j) (by simp)]; exact q
    · exact eq_ok r r' q.1.1 q.1.2 hu Q fun b hb => by
        rename_i l m
        rw [dec_of (p := l = m) (b := b) (by rw [hb, V.tup.injEq])]; exact q.2
    · exact eq_ok r r' q.1.1 q.1.2 hu Q fun b hb => by
        rename_i l m
        rw [dec_of (p := l = m) (b := b) (by rw [hb, V.list.injEq])]; exact q.2
  · cases d <;> (first | exact False.elim q | (cases d' <;> first | exact False.elim q | skip))
    · simp only [VR] at r r'; subst r; subst r'
      exact PyProof.Rows.ne_bool (boolHere q)
    · simp only [VR] at r r'; obtain ⟨t, rfl⟩ := r; obtain ⟨u, rfl⟩ := r'
      refine PyProof.Rows.ne_int (boolHere ?_)
      rename_i i j; rw [bne, dec_of (p := i = j) (b := i == j) (by simp)]; exact q
    · simp only [VR] at r r'; obtain ⟨t, rfl⟩ := r; obtain ⟨u, rfl⟩ := r'
      refine PyProof.Rows.ne_str (boolHere ?_)
      rename_i i j; rw [bne, dec_of (p := i = j) (b := i == j) (by simp)]; exact q
    · exact ne_ok r r' q.1.1 q.1.2 hu Q fun b hb => by
        rename_i l m
        rw [dec_of (p := l = m) (b := b) (by rw [hb, V.tup.injEq])]; exact q.2
    · exact ne_ok r r' q.1.1 q.1.2 hu Q fun b hb => by
        rename_i l m
        rw [dec_of (p := l = m) (b := b) (by rw [hb, V.list.injEq])]; exact q.2
    · rename_i i m
      rcases m with _ | ⟨m0, m⟩
      case cons => exact False.elim q
      obtain ⟨l, hl, k, q⟩ := q
      simp only [VR] at r
      obtain ⟨a, rfl, ha⟩ := r
      obtain ⟨a', ha', xs, n, ho, rs⟩ := sr.obj _ _ hl
      obtain rfl : a = a' := Option.some.inj (ha.symm.trans ha')
      obtain ⟨as, ra⟩ := vrs_reads l xs 39 rs (by unfold okV at k; simpa [vD, kqdOk] using k)
      obtain ⟨bs, rb⟩ := vr_reads (.list []) _ 40 r' rfl
      have ra' : Reads s.heap (.ref a) (kqdP (vD (.list l))) (a :: as) := Reads.list ho rfl rfl (by simpa using ra)
      refine ne_dataH ra' rb (ok_shaped k) (ok_shaped (d := .list []) rfl) hu (boolHere ?_)
      rw [ok_eqv k (e := .list []) rfl, dec_of (p := l = []) (b := decide (V.list l = V.list [])) (by simp)]
      exact q
  · cases d <;> (first | exact False.elim q | (cases d' <;> first | exact False.elim q | skip))
    · simp only [VR] at r r'; obtain ⟨t, rfl⟩ := r; obtain ⟨u, rfl⟩ := r'
      exact PyProof.Rows.lt_int (boolHere q)
  · cases d <;> (first | exact False.elim q | (cases d' <;> first | exact False.elim q | skip))
    · simp only [VR] at r r'; obtain ⟨t, rfl⟩ := r; obtain ⟨u, rfl⟩ := r'
      exact PyProof.Rows.le_int (boolHere q)
  · cases d <;> (first | exact False.elim q | (cases d' <;> first | exact False.elim q | skip))
    · simp only [VR] at r r'; obtain ⟨t, rfl⟩ := r; obtain ⟨u, rfl⟩ := r'
      exact PyProof.Rows.gt_int (boolHere q)
  · cases d <;> (first | exact False.elim q | (cases d' <;> first | exact False.elim q | skip))
    · simp only [VR] at r r'; obtain ⟨t, rfl⟩ := r; obtain ⟨u, rfl⟩ := r'
      exact PyProof.Rows.ge_int (boolHere q)
  · cases d <;> (first | exact False.elim q | (cases d' <;> first | exact False.elim q | skip))
    · simp only [VR] at r r'; subst r; subst r'
      exact wpAny_is_self rfl (boolHere q)
    · simp only [VR] at r r'; subst r; subst r'
      exact wpAny_is_other rfl (by simp) (boolHere q)
    · simp only [VR] at r r'; obtain ⟨a, xs, n, rfl, _⟩ := r; subst r'
      exact wpAny_is_other rfl (by simp) (boolHere q)
  · cases d <;> (first | exact False.elim q | (cases d' <;> first | exact False.elim q | skip))
    · simp only [VR] at r r'; subst r; subst r'
      exact wpAny_isNot_self rfl (boolHere q)
    · rename_i c
      cases c
      · exact False.elim q
      · simp only [VR] at r r'; subst r; subst r'
        exact wpAny_isNot_other rfl (by simp) (boolHere q)
    · rename_i b c
      cases c
      · exact False.elim q
      · simp only [VR] at r r'; subst r; subst r'
        cases b
        · exact wpAny_isNot_other rfl (by simp) (boolHere q)
        · exact wpAny_isNot_self rfl (boolHere q)
    · simp only [VR] at r r'; obtain ⟨a, xs, n, rfl, _⟩ := r; subst r'
      exact wpAny_isNot_other rfl (by simp) (boolHere q)
  · cases d <;> (first | exact False.elim q | (cases d' <;> first | exact False.elim q | skip))
    · simp only [VR] at r r'; obtain ⟨t, rfl⟩ := r; obtain ⟨u, rfl⟩ := r'
      obtain ⟨hx, q⟩ := q
      obtain ⟨c, rfl⟩ := one_of hx
      refine SB.contains (boolHere ?_)
      unfold Txt.contains
      rw [StrLaws.found_one]
      rename_i y
      have : decide (c ∈ y.cps.toList) = y.cps.toList.contains ((⟨#[c]⟩ : Str).cps.toList.headD 0) := (List.contains_eq_mem _ _).symm
      rw [this]; exact q
  · cases d <;> (first | exact False.elim q | (cases d' <;> first | exact False.elim q | skip))
    · simp only [VR] at r r'; obtain ⟨t, rfl⟩ := r; obtain ⟨u, rfl⟩ := r'
      obtain ⟨hx, q⟩ := q
      obtain ⟨c, rfl⟩ := one_of hx
      refine SB.notContains (boolHere ?_)
      unfold Txt.contains
      rw [StrLaws.found_one]
      rename_i y
      have : decide (c ∈ y.cps.toList) = y.cps.toList.contains ((⟨#[c]⟩ : Str).cps.toList.headD 0) := (List.contains_eq_mem _ _).symm
      rw [this]; exact q
end
end Mine
end
section
open PySem PySem.W PyProof.Rows PySem.Spec PySem.Calls PySem.Builtin.Str
set_option Elab.async false
set_option maxRecDepth 100000
set_option autoImplicit false
namespace Mine

noncomputable def isCut : Expr → Bool
  | .Slice .. => true
  | _ => false

theorem subscripted_idx {i : Expr} (h : isCut i = false) (o v : Value) : subscripted i false o v = operate [o, v] (getItem o v) := by
  cases i <;> first | rfl | (simp [isCut] at h)

theorem seqIdx_of {k : Int} {n : Nat} (h0 : 0 ≤ k) (h1 : k < n) : seqIndex? k n = some k.toNat := by
  unfold seqIndex?
  have : ¬ k < 0 := by omega
  simp only [this, if_false]
  rw [if_pos (by simp only [Bool.and_eq_true, decide_eq_true_eq]; exact ⟨h0, h1⟩)]

theorem EntR.find {W : Wd} {h : Heap} {hid : List Addr} {x : Str} : ∀ {es : List (Str × V)} {l : List DictEntry} {d : V}, EntR W h hid es l → es.lookup x = some d →
    ∃ e, l.find? (fun e => Value.isStrOf x e.key) = some e ∧ VR h hid d e.val
  | [], _, _, _, e => by cases e
  | (y, d') :: es, e :: l, d, r, he => by
    obtain ⟨⟨t, hk⟩, hh, rv, rr⟩ := r
    rw [List.lookup_cons] at he
    rw [List.find?_cons]
    by_cases hxy : x = y
    · subst hxy
      simp only [beq_self_eq_true] at he
      cases he
      have : Value.isStrOf x e.key = true := by rw [hk]; simp [Value.isStrOf]
      rw [this]
      exact ⟨e, rfl, rv⟩
    · have h1 : (x == y) = false := by simpa using hxy
      rw [h1] at he
      have : Value.isStrOf x e.key = false := by
        rw [hk]; simp [Value.isStrOf]
        first | exact hxy | exact fun q => hxy q.symm
      rw [this]
      exact EntR.find rr he
  | _ :: _, [], _, r, _ => by rcases ‹Str × V› with ⟨_, _⟩; exact r.elim

theorem EntR.mapOf {W : Wd} {h : Heap} {hid : List Addr} {es : List (Str × V)} {l : List DictEntry} {n : Nat} {a : Addr} (r : EntR W h hid es l) (ho : h.get? a = some (dictOf l n)) :
    h.MapOf (strKind W.prog W.w) a (fun k => findBy Value.isStrOf l.toArray k) := by
  refine ⟨_, l.toArray, n, ho, ⟨rfl, rfl, rfl⟩, rfl, fun e he => ?_, fun _ => rfl⟩
  have he' : e ∈ l := by simpa using he
  clear ho he
  induction l generalizing es with
  | nil => cases he'
  | cons e' l ih =>
    match es, r with
    | (y, d) :: es, r =>
      obtain ⟨⟨t, hk⟩, hh, rv, rr⟩ := r
      rcases List.mem_cons.mp he' with rfl | he'
      · exact ⟨y, by rw [hk]; exact strKind_is _ _ y t, hh⟩
      · exact ih rr he'

section
variable {W : Wd} {A : Around} {E : Value → Shared → Prop} {s : Shared} {hid : List Addr} {Q : V → Prop}

theorem tup_item {value slice : Expr} {a : Addr} {xs : List Value} {n : Nat} {ds : List V} {k : Int} {u : Tok} {d : V} (hs : isCut slice = false) (ht : IsT s.heap a xs.toArray n) (rs : VRs s.heap hid ds xs) (h0 : 0 ≤ k) (h1 : k < (big : Int)) (hd : ds[k.toNat]? = some d) (q : Q d) :
    wpAny (model W.prog W.w) A (subscriptTail value slice (.ref a) (.int k u)) (GrowQ s hid Q) E s := by
  obtain ⟨v, hv, r⟩ := rs.get hd
  have hlt := (List.getElem?_eq_some_iff.mp hv).1
  have ht' : IsTup s.heap a xs.toArray := ⟨_, ht, rfl, n, rfl⟩
  exact tail_any ht'.typeIs slot_tuple_getitem.lookup (PyProof.Rows.getItem_tuple ht' (by omega) (by simp only [big] at h1; omega) (by rw [List.size_toArray]; exact seqIdx_of h0 (by omega)) (by simpa using hv) (growHere' r q)) (subscripted_idx hs _ _)
theorem list_item {value slice : Expr} {a : Addr} {xs : List Value} {n : Nat} {ds : List V} {k : Int} {u : Tok} {d : V} (hs : isCut slice = false) (ht : IsL s.heap a xs.toArray n) (rs : VRs s.heap hid ds xs) (h0 : 0 ≤ k) (h1 : k < (big : Int)) (hd : ds[k.toNat]? = some d) (q : Q d) :
    wpAny (model W.prog W.w) A (subscriptTail value slice (.ref a) (.int k u)) (GrowQ s hid Q) E s := by
  obtain ⟨v, hv, r⟩ := rs.get hd
  have ht' : s.heap.IsList a xs.toArray := ⟨_, ht, rfl, n, rfl⟩
  exact tail_any ht'.typeIs slot_list_getitem.lookup (wpAny_getItem_list ht' h0 (by simp only [big] at h1; omega) (by simpa using hv) (growHere' r q)) (subscripted_idx hs _ _)

theorem fits_small {k : Int} (h0 : 0 ≤ k) (h1 : k < (big : Int)) : fitsSsize k = true := by
  simp only [big] at h1
  unfold fitsSsize
  first
    | (simp only [Bool.and_eq_true, decide_eq_true_eq]; omega)
    | (simp; omega)
theorem item_is {x : Str} {k : Int} {c : Nat} (h0 : 0 ≤ k) (hc : x.cps.toList[k.toNat]? = some c) : Txt.item x k = ⟨#[c]⟩ := by
  have hlt := (List.getElem?_eq_some_iff.mp hc).1
  unfold Txt.item Txt.charAt
  rw [seqIdx_of h0 (by unfold PySem.Str.length; simp at hlt; omega)]
  simp only [Option.bind_some]
  have : x.cps[k.toNat]? = some c := by simpa using hc
  rw [this]; rfl

theorem idx_rule {value slice : Expr} {σ : St} {d d' : V} {v v' : Value} (hs : isCut slice = false) (sr : SR W σ hid s.heap) (r : VR s.heap hid d v) (r' : VR s.heap hid d' v') (q : idxW σ d d' Q) :
    wpAny (model W.prog W.w) A (subscriptTail value slice v v') (GrowQ s hid Q) E s := by
  cases d <;> (first | exact False.elim q | (cases d' <;> first | exact False.elim q | skip))
  · simp only [VR] at r r'; obtain ⟨u, rfl⟩ := r'; obtain ⟨t, rfl⟩ := r
    obtain ⟨h0, h1, c, hc, q⟩ := q
    rename_i x k
    have hlt := (List.getElem?_eq_some_iff.mp hc).1
    have hl : x.length = x.cps.toList.length := by simp [PySem.Str.length]
    refine item_str (fits_small h0 h1) (by omega) (by omega) (fun _ => ?_) (subscripted_idx hs _ _) (fun r => by cases value <;> rfl)
    rw [item_is h0 hc]
    exact growHere vr_str q
  · simp only [VR] at r r'; obtain ⟨u, rfl⟩ := r'
    obtain ⟨a, xs, n, rfl, ht, na, rx⟩ := r
    obtain ⟨h0, h1, d, hd, q⟩ := q
    exact tup_item hs ht rx h0 h1 hd q
  · simp only [VR] at r r'; obtain ⟨u, rfl⟩ := r'
    obtain ⟨a, xs, n, rfl, ht, na, rx⟩ := r
    obtain ⟨h0, h1, d, hd, q⟩ := q
    exact list_item hs ht rx h0 h1 hd q
  · simp only [VR] at r r'; obtain ⟨u, rfl⟩ := r'
    obtain ⟨a, rfl, ha⟩ := r
    obtain ⟨l, hl, h0, h1, d, hd, q⟩ := q
    obtain ⟨a', ha', xs, n, ho, rs⟩ := sr.obj _ _ hl
    obtain rfl : a = a' := Option.some.inj (ha.symm.trans ha')
    exact list_item hs ho rs h0 h1 hd q
  · simp only [VR] at r r'; obtain ⟨u, rfl⟩ := r'
    obtain ⟨a, rfl, ha⟩ := r
    obtain ⟨es, hl, d, hd, q⟩ := q
    obtain ⟨a', ha', l, n, ho, rs⟩ := sr.obj _ _ hl
    obtain rfl : a = a' := Option.some.inj (ha.symm.trans ha')
    have hm := rs.mapOf ho
    obtain ⟨e, he, rv⟩ := rs.find hd
    refine tail_any hm.typeIs slot_dict_getitem.lookup (wpAny_getItem_of (strKind_is _ _ _ _) hm (v := e.val) (by unfold findBy; rw [List.find?_toArray, he]; rfl) (growHere rv q)) (subscripted_idx hs _ _)

theorem vr_stays {h h' : Heap} {d : V} {v : Value} (r : VR h hid d v) (k : ∀ b o, h.get? b = some o → h'.get? b = some o) (hz : h.objs.size ≤ h'.objs.size) : VR h' hid d v :=
  VR.evo (own := []) (Evo.of_stays k hz) (fun _ q => nomatch q) (Ext.refl _ _) r
theorem vrs_stays {h h' : Heap} {d : List V} {v : List Value} (r : VRs h hid d v) (k : ∀ b o, h.get? b = some o → h'.get? b = some o) (hz : h.objs.size ≤ h'.objs.size) : VRs h' hid d v :=
  VRs.evo (own := []) (Evo.of_stays k hz) (fun _ q => nomatch q) (Ext.refl _ _) r

theorem GrowQ.from {h₁ : Heap} {tk : Nat} {v : Value} {s' : Shared} (k : ∀ b o, s.heap.get? b = some o → h₁.get? b = some o) (hz : s.heap.objs.size ≤ h₁.objs.size) (q : GrowQ { s with heap := h₁, toks := tk } hid Q v s') : GrowQ s hid Q v s' := by
  obtain ⟨h', tk', d, rfl, k', hs', r, q⟩ := q
  exact ⟨h', tk', d, rfl, fun b o e => k' b o (k b o e), Nat.le_trans hz hs', r, q⟩

theorem place_part {d : V} {v : Value} {h : Heap} {dflt : Nat} {P : Nat → Prop} (r : VR h hid d v) (q : placeW d dflt P) : ∃ (l : Option (Int × Tok)) (i : Nat), v = partValue l ∧ ((l.map (·.1)) = some (i : Int) ∨ (l.map (·.1) = none ∧ i = dflt)) ∧ P i := by
  cases d <;> first | exact False.elim q | skip
  · simp only [VR] at r; subst r
    exact ⟨none, dflt, rfl, .inr ⟨rfl, rfl⟩, q⟩
  · simp only [VR] at r; obtain ⟨t, rfl⟩ := r
    rename_i k
    exact ⟨some (k, t), k.toNat, rfl, .inl (by have := q.1; simp; omega), q.2.2⟩

theorem slc_rule {value : Expr} {lo hi : Option Expr} {pos : Pos} {d dl du : V} {v vl vu : Value} (hh : ∀ a ∈ hid, a < s.heap.objs.size) (r : VR s.heap hid d v) (rl : VR s.heap hid dl vl) (ru : VR s.heap hid du vu) (q : slcW d dl du Q) :
    wpAny (model W.prog W.w) A (subscriptTail value (.Slice lo hi none pos) v (.ref s.heap.objs.size)) (GrowQ s hid Q) E { s with heap := s.heap.push { cls := .type "slice", data := .fields #[vl, vu, .none] } } := by
  have kk : ∀ b o, s.heap.get? b = some o → (s.heap.push { cls := .type "slice", data := .fields #[vl, vu, .none] }).get? b = some o := fun _ _ e => Heap.get?_push_of_some _ e
  have hz : s.heap.objs.size ≤ (s.heap.push { cls := .type "slice", data := .fields #[vl, vu, .none] }).objs.size := by rw [Heap.size_push]; omega
  cases d <;> first | exact False.elim q | skip
  · rename_i x
    simp only [VR] at r; obtain ⟨t, rfl⟩ := r
    obtain ⟨hb, q⟩ := q
    obtain ⟨l, i, rfl, hl, q⟩ := place_part rl q
    obtain ⟨u, j, rfl, hu, q⟩ := place_part ru q
    refine tail_any (s := { s with heap := s.heap.push { cls := .type "slice", data := .fields #[partValue l, partValue u, .none] } }) (T := "str") rfl PySem.F.slot_str_getitem.lookup (wpAny_getItem_str_slice (l := l) (u := u) (st := none) ⟨_, Heap.get?_push_size _ rfl, rfl, rfl⟩ rfl ?_) rfl
    have key : Txt.slice x (l.map (·.1)) (u.map (·.1)) = cutS x i j := slice_cut x _ _ i j hl hu
    unfold sliceMade slicePicked
    unfold Txt.slice at key
    simp only [Option.map_none, Option.getD_none, beq_self_eq_true, Bool.true_and] at key ⊢
    split
    · rename_i hc
      rw [if_pos hc] at key
      rw [← key] at q
      exact GrowQ.from kk hz (tk := s.toks) (growHere' vr_str q)
    · rename_i hc
      rw [if_neg hc] at key
      rw [key]
      refine ⟨Nat.le_trans (cutS_len x i j) (Nat.le_trans hb big_le), ?_⟩
      exact GrowQ.from kk hz (tk := s.toks) (growHere vr_str q)
  · rename_i ds
    obtain ⟨hb, k, rfl, rfl, h1, h2, q⟩ := q
    simp only [VR] at r rl ru
    obtain ⟨a, xs, n, rfl, ht, na, rx⟩ := r
    obtain ⟨u, rfl⟩ := rl
    subst ru
    have ht' : IsTup (s.heap.push { cls := .type "slice", data := .fields #[.int k u, .none, .none] }) a xs.toArray := ⟨_, kk _ _ ht, rfl, n, rfl⟩
    have lx := rx.length
    refine tail_any (s := { s with heap := s.heap.push { cls := .type "slice", data := .fields #[.int k u, .none, .none] } }) ht'.typeIs slot_tuple_getitem.lookup (getItem_tuple_from (a := k.toNat) (u := u) ht' ?_ (by omega) (by rw [List.size_toArray]; omega) ?_ (by rw [List.size_toArray, ← lx]; exact Nat.le_trans hb big_le)) rfl
    · have : ((k.toNat : Nat) : Int) = k := by omega
      exact ⟨_, Heap.get?_push_size _ rfl, rfl, by rw [this]⟩
    · have rd := rx.drop k.toNat
      have := grow_tup (s := { s with heap := s.heap.push { cls := .type "slice", data := .fields #[.int k u, .none, .none] } }) (Q := Q) (vrs_stays rd kk hz) (fun a ha => Nat.lt_of_lt_of_le (hh a ha) hz) q
      exact GrowQ.from kk hz (tk := s.toks) this

theorem len_rule {σ : St} {d : V} {v : Value} {P : Nat → Prop} (sr : SR W σ hid s.heap) (r : VR s.heap hid d v) (q : lenW σ d P) (k : ∀ n, P n → Q (.int n)) :
    wpAny (model W.prog W.w) A (call (.builtin "len") [v]) (GrowQ s hid Q) E s := by
  cases d <;> first | exact False.elim q | skip
  · rename_i x
    simp only [VR] at r; obtain ⟨t, rfl⟩ := r
    exact PyProof.Rows.len_str (by have := q.1; simp only [big] at this; omega) (growHere vr_int (k _ q.2))
  · simp only [VR] at r
    obtain ⟨a, xs, n, rfl, ht, na, rx⟩ := r
    refine PyProof.Rows.len_tuple ⟨_, ht, rfl, n, rfl⟩ (by rw [List.size_toArray, ← rx.length]; have := q.1; simp only [big] at this; omega) (growHere vr_int ?_)
    rw [List.size_toArray, ← rx.length]; exact k _ q.2
  · simp only [VR] at r
    obtain ⟨a, xs, n, rfl, ht, na, rx⟩ := r
    refine Calls.call_len_list ⟨_, ht, rfl, n, rfl⟩ (by rw [List.size_toArray, ← rx.length]; have := q.1; simp only [big] at this; omega) (growHere vr_int ?_)
    rw [List.size_toArray, ← rx.length]; exact k _ q.2
  · simp only [VR] at r
    obtain ⟨a, rfl, ha⟩ := r
    obtain ⟨l, hl, hb, q⟩ := q
    obtain ⟨a', ha', xs, n, ho, rs⟩ := sr.obj _ _ hl
    obtain rfl : a = a' := Option.some.inj (ha.symm.trans ha')
    refine Calls.call_len_list ⟨_, ho, rfl, n, rfl⟩ (by rw [List.size_toArray, ← rs.length]; simp only [big] at hb; omega) (growHere vr_int ?_)
    rw [List.size_toArray, ← rs.length]; exact k _ q
end
end Mine
end
section
set_option tactic.hygienic false
open PySem PySem.W PyProof.Rows PySem.Spec PySem.Calls PySem.Builtin.Str
set_option Elab.async false
set_option maxRecDepth 100000
set_option autoImplicit false
namespace Mine

section
variable {W : Wd} {cls : Xc → Addr} {n : Nat} {e : Env} {tbl : List Str} {loc : Loc} {gv : Nat → V} {mv : Str → V} {O : V → List V → St → (V → St → Prop) → (Xc → St → Prop) → Prop}

structure Snd (W : Wd) (cls : Xc → Addr) (n : Nat) (e : Env) (tbl : List Str) (loc : Loc) (gv : Nat → V) (mv : Str → V) (O : V → List V → St → (V → St → Prop) → (Xc → St → Prop) → Prop) (pe : Expr) (a : ME) : Prop where
  out : ∀ σ Q E, wpE gv mv O a loc σ Q E → EvW W cls n e tbl loc σ (eval pe e) Q E
structure SndT (W : Wd) (cls : Xc → Addr) (n : Nat) (e : Env) (tbl : List Str) (loc : Loc) (gv : Nat → V) (mv : Str → V) (O : V → List V → St → (V → St → Prop) → (Xc → St → Prop) → Prop) (pe : Expr) (a : ME) : Prop where
  out : ∀ σ (Q : Bool → St → Prop) E, wpE gv mv O a loc σ (fun d σ => isB d fun b => Q b σ) E → TrW W cls n e tbl loc σ (isTrue pe e (eval pe e)) Q E

theorem snd_loc {x : Str} {pos : Pos} {i : Nat} (ht : tbl[i]? = some x) (hd : (x == ("__debug__" : Str)) = false) (hc : (x == ("__classdict__" : Str)) = false) : Snd W cls n e tbl loc gv mv O (.Name x pos) (.loc i) := by
  refine ⟨?_⟩
  intro σ Q E q A fr s hid a I
  obtain ⟨d, hl, q⟩ := q
  obtain ⟨m, hm, hls⟩ := I.locs
  obtain ⟨v, na, r⟩ := hls i x d ht hl
  have ok : OkQ W s hid Q v s := I.okHere (tk := s.toks) r q
  rcases na with ⟨hk, hx⟩ | ⟨hk | hk, c, hcc, hv⟩
  · exact wpAny_Name (wpAny_loadName_local I.kind hk hm hx ok) hd
  · exact wpAny_Name (wpAny_loadName_cell I.kind hk hcc hv ok) hd
  · exact wpAny_Name (wpAny_loadName_free I.kind hk hcc hv ok hc) hd

theorem vr_up {h h' : Heap} {hid : List Addr} {d : V} {v : Value} (b : h.StaysIn h') (hn : ∀ a ∈ hid, h.get? a = none) (r : VR h [] d v) : VR h' hid d v := by
  have key : (∀ (d : V) (v : Value), VR h [] d v → VR h' hid d v) := by
    have t : ∀ k, ∀ d v, sizeOf d < k → VR h [] d v → VR h' hid d v := by
      intro k
      induction k with
      | zero => intro d v hk; exact absurd hk (Nat.not_lt_zero _)
      | succ k ih =>
        have all : ∀ ds vs, sizeOf ds < k → VRs h [] ds vs → VRs h' hid ds vs := by
          intro ds
          induction ds with
          | nil => intro vs _ r; cases vs <;> simp_all [VRs]
          | cons d ds hi =>
            intro vs hk r
            cases vs with
            | nil => simp [VRs] at r
            | cons v vs =>
              rw [VRs] at r ⊢
              simp only [List.cons.sizeOf_spec] at hk
              exact ⟨ih d v (by omega) r.1, hi vs (by omega) r.2⟩
        intro d v hk r
        cases d with
        | obj i => simp [VR] at r
        | tup ds =>
          simp only [VR] at r ⊢
          obtain ⟨a, xs, n, e, ht, _, rs⟩ := r
          simp only [V.tup.sizeOf_spec] at hk
          exact ⟨a, xs, n, e, b _ _ ht, fun q => (by have := hn a q; rw [ht] at this; cases this), all ds xs (by omega) rs⟩
        | list ds =>
          simp only [VR] at r ⊢
          obtain ⟨a, xs, n, e, ht, _, rs⟩ := r
          simp only [V.list.sizeOf_spec] at hk
          exact ⟨a, xs, n, e, b _ _ ht, fun q => (by have := hn a q; rw [ht] at this; cases this), all ds xs (by omega) rs⟩
        | _ => simpa only [VR] using r
    exact fun d v => t _ d v (Nat.lt_succ_self _)
  exact key d v r

theorem snd_glob {x : Str} {pos : Pos} {k : Nat} {v : Value} (hx : e.kindOf x = some .globalImplicit) (hv : nsIn W.K mainGlobals x = some (some v)) (r : VR W.hT [] (gv k) v) (hd : (x == ("__debug__" : Str)) = false) : Snd W cls n e tbl loc gv mv O (.Name x pos) (.glob k) := by
  refine ⟨?_⟩
  intro σ Q E q A fr s hid a I
  have hns : s.heap.Ns e.globals W.mg := by rw [I.glob]; exact W.T.g.keeps I.base
  exact Name_function_global I.kind hx (loadGlobal_global hns (mg_of W.X W.T.g hv) (I.okHere (tk := s.toks) (vr_up I.base I.sr.new r) q)) hd

theorem snd_int {i : Int} {k : Nat} {pos : Pos} : Snd W cls n e tbl loc gv mv O (.Constant (.int i) k pos) (.int i) :=
  ⟨fun _ _ _ q _ _ _ _ _ I => wpAny_Constant_int (I.okHere vr_int q)⟩
theorem snd_str {x : Str} {k : Nat} {pos : Pos} : Snd W cls n e tbl loc gv mv O (.Constant (.str x) k pos) (.str x) :=
  ⟨fun _ _ _ q _ _ _ _ _ I => wpAny_Constant_str (I.okHere vr_str q)⟩
theorem snd_bool {b : Bool} {k : Nat} {pos : Pos} : Snd W cls n e tbl loc gv mv O (.Constant (.bool b) k pos) (.bool b) :=
  ⟨fun _ _ _ q _ _ s _ _ I => wpAny_Constant_bool (I.okHere (tk := s.toks) vr_bool q)⟩
theorem snd_none {k : Nat} {pos : Pos} : Snd W cls n e tbl loc gv mv O (.Constant .none k pos) .none :=
  ⟨fun _ _ _ q _ _ s _ _ I => wpAny_Constant_none (I.okHere (tk := s.toks) vr_none q)⟩

theorem snd_neg {x : Expr} {a : ME} {pos : Pos} (h : Snd W cls n e tbl loc gv mv O x a) : Snd W cls n e tbl loc gv mv O (.UnaryOp .USub x pos) (.neg a) := by
  refine ⟨?_⟩
  intro σ Q E q A fr s hid ak I
  refine UnaryOp_ ((h.out σ _ E q).then ak I (fun _ _ q => q) fun v h₁ tk₁ hid₁ d σ₁ p I₁ r q => ?_)
  cases d with
  | int i =>
    simp only [VR] at r
    obtain ⟨t, rfl⟩ := r
    exact PyProof.Rows.neg_int (OkQ.lift p (Inv.okHere (s := { s with heap := h₁, toks := tk₁ }) I₁ vr_int q))
  | _ => exact q.elim

theorem snd_bin {l r : Expr} {op : Operator} {pos : Pos} {a b : ME} (hl : Snd W cls n e tbl loc gv mv O l a) (hr : Snd W cls n e tbl loc gv mv O r b) : Snd W cls n e tbl loc gv mv O (.BinOp l op r pos) (.bin op a b) := by
  refine ⟨?_⟩
  intro σ Q E q A fr s hid ak I
  refine wpAny_BinOp ((hl.out σ _ E q).then ak I (fun _ _ q => q) fun v h₁ tk₁ hid₁ d σ₁ p I₁ r₁ q => ?_)
  refine (hr.out σ₁ _ E q).then (s := { s with heap := h₁, toks := tk₁ }) ak I₁ (fun _ _ q => ErQ.lift p q) fun v' h₂ tk₂ hid₂ d' σ₂ p₂ I₂ r₂ q => ?_
  have r₁' := VR.evo (own := []) p₂.evo (fun _ q => nomatch q) p₂.ext r₁
  exact wpAny_mono (bin_rule (s := { s with heap := h₂, toks := tk₂ }) (fun a ha => I₂.sr.lt ha) r₁' r₂ q) (fun v s' g => OkQ.lift (tk₁ := tk₂) (p.trans p₂) (GrowQ.ok I₂.sr I₂.base (fun _ q => q) g)) fun _ _ x => x

theorem BoolQ.ok {σ : St} {fr : List Env} {s : Shared} {hid : List Addr} {P : Bool → Prop} {Q : V → St → Prop} {v : Value} {s' : Shared} (I : Inv W e tbl loc fr hid σ s.heap) (k : ∀ b, P b → Q (.bool b) σ) (g : BoolQ s P v s') : OkQ W s hid Q v s' := by
  obtain ⟨b, rfl, rfl, q⟩ := g
  exact I.okHere (tk := s'.toks) vr_bool (k b q)

theorem marked_of {op : CmpOp} {r : Expr} (h : (match r with | .Set .. => true | _ => false) = false) : behindInMarks op r = false := by
  cases r <;> first | rfl | (simp at h)

theorem snd_cmp {l r : Expr} {op : CmpOp} {pos : Pos} {a b : ME} (hl : Snd W cls n e tbl loc gv mv O l a) (hr : Snd W cls n e tbl loc gv mv O r b) (hm : behindInMarks op r = false) : Snd W cls n e tbl loc gv mv O (.Compare l [op] [r] pos) (.cmp op a b) := by
  refine ⟨?_⟩
  intro σ Q E q A fr s hid ak I
  refine wpAny_Compare1 ((hl.out σ _ E q).then ak I (fun _ _ q => q) fun v h₁ tk₁ hid₁ d σ₁ p I₁ r₁ q => ?_) hm
  refine (hr.out σ₁ _ E q).then (s := { s with heap := h₁, toks := tk₁ }) ak I₁ (fun _ _ q => ErQ.lift p q) fun v' h₂ tk₂ hid₂ d' σ₂ p₂ I₂ r₂ q => ?_
  have r₁' := VR.evo (own := []) p₂.evo (fun _ q => nomatch q) p₂.ext r₁
  exact wpAny_mono (cmp_rule (s := { s with heap := h₂, toks := tk₂ }) (by have := ak.units; omega) I₂.sr r₁' r₂ q) (fun v s' g => OkQ.lift (tk₁ := tk₂) (p.trans p₂) (g.ok I₂ fun _ q => q)) fun _ _ x => x
theorem sndT_cmp {l r : Expr} {op : CmpOp} {pos : Pos} {a b : ME} (hl : Snd W cls n e tbl loc gv mv O l a) (hr : Snd W cls n e tbl loc gv mv O r b) (hm : behindInMarks op r = false) : SndT W cls n e tbl loc gv mv O (.Compare l [op] [r] pos) (.cmp op a b) := by
  refine ⟨?_⟩
  intro σ Q E q A fr s hid ak I
  refine wpAny_isTrue_Compare1 ((hl.out σ _ E q).then ak I (fun _ _ q => q) fun v h₁ tk₁ hid₁ d σ₁ p I₁ r₁ q => ?_) hm
  refine (hr.out σ₁ _ E q).then (s := { s with heap := h₁, toks := tk₁ }) ak I₁ (fun _ _ q => ErQ.lift p q) fun v' h₂ tk₂ hid₂ d' σ₂ p₂ I₂ r₂ q => ?_
  have r₁' := VR.evo (own := []) p₂.evo (fun _ q => nomatch q) p₂.ext r₁
  refine wpAny_mono (cmp_rule (s := { s with heap := h₂, toks := tk₂ }) (by have := ak.units; omega) I₂.sr r₁' r₂ q) (fun v s' g => ?_) fun _ _ x => x
  obtain ⟨b, rfl, rfl, q⟩ := g
  exact wpAny_truthy_bool ⟨h₂, tk₂, hid₂, σ₂, rfl, p.trans p₂, q⟩

theorem sndT_plain {x : Expr} {a : ME} (h : Snd W cls n e tbl loc gv mv O x a) (hp : ∀ whole, isTrue x e whole = (do let v ← whole; standAt x.pos; holding [v] (truthy v))) : SndT W cls n e tbl loc gv mv O x a := by
  refine ⟨?_⟩
  intro σ Q E q A fr s hid ak I
  refine isTrue_plain ((h.out σ _ E q).then ak I (fun _ _ q => q) fun v h₁ tk₁ hid₁ d σ₁ p I₁ r q => ?_) (hp _)
  cases d with
  | bool b =>
    simp only [VR] at r
    subst r
    exact wpAny_truthy_bool ⟨h₁, tk₁, hid₁, σ₁, rfl, p, q⟩
  | _ => exact q.elim

theorem snd_not {x : Expr} {a : ME} {pos : Pos} (h : Snd W cls n e tbl loc gv mv O x a) : Snd W cls n e tbl loc gv mv O (.UnaryOp .Not x pos) (.not a) := by
  refine ⟨?_⟩
  intro σ Q E q A fr s hid ak I
  refine UnaryOp_ ((h.out σ _ E q).then ak I (fun _ _ q => q) fun v h₁ tk₁ hid₁ d σ₁ p I₁ r q => ?_)
  cases d with
  | bool b =>
    simp only [VR] at r
    subst r
    exact not_of (wpAny_truthy_bool (OkQ.lift p (Inv.okHere (s := { s with heap := h₁, toks := tk₁ }) (tk := tk₁) I₁ vr_bool q)))
  | _ => exact q.elim
theorem sndT_not {x : Expr} {a : ME} {pos : Pos} (h : SndT W cls n e tbl loc gv mv O x a) : SndT W cls n e tbl loc gv mv O (.UnaryOp .Not x pos) (.not a) := by
  refine ⟨?_⟩
  intro σ Q E q A fr s hid ak I
  exact isTrue_not ((h.out σ (fun c σ => Q (!c) σ) E q).then ak I (fun _ _ q => q) fun v h₁ tk₁ hid₁ σ₁ p I₁ q => ⟨h₁, tk₁, hid₁, σ₁, rfl, p, q⟩)

theorem snd_and {x y : Expr} {rest : List Expr} {a b : ME} {pos : Pos} (hx : Snd W cls n e tbl loc gv mv O x a) (hy : Snd W cls n e tbl loc gv mv O (.BoolOp .And (y :: rest) pos) b) : Snd W cls n e tbl loc gv mv O (.BoolOp .And (x :: y :: rest) pos) (.and a b) := by
  refine ⟨?_⟩
  intro σ Q E q A fr s hid ak I
  refine BoolOp_and ((hx.out σ _ E q).then ak I (fun _ _ q => q) fun v h₁ tk₁ hid₁ d σ₁ p I₁ r q => ?_)
  cases d with
  | bool t =>
    simp only [VR] at r
    subst r
    refine wpAny_truthy_bool ?_
    cases t with
    | false => exact OkQ.lift p (Inv.okHere (s := { s with heap := h₁, toks := tk₁ }) (tk := tk₁) I₁ vr_bool q)
    | true =>
      refine (hy.out σ₁ _ E q).then (s := { s with heap := h₁, toks := tk₁ }) ak I₁ (fun _ _ q => ErQ.lift p q) fun v' h₂ tk₂ hid₂ d' σ₂ p₂ I₂ r₂ q => ?_
      cases d' with
      | bool c => exact OkQ.lift (p.trans p₂) (Inv.okHere (s := { s with heap := h₂, toks := tk₂ }) (tk := tk₂) I₂ r₂ q)
      | _ => exact q.elim
  | _ => exact q.elim
theorem snd_or {x y : Expr} {rest : List Expr} {a b : ME} {pos : Pos} (hx : Snd W cls n e tbl loc gv mv O x a) (hy : Snd W cls n e tbl loc gv mv O (.BoolOp .Or (y :: rest) pos) b) : Snd W cls n e tbl loc gv mv O (.BoolOp .Or (x :: y :: rest) pos) (.or a b) := by
  refine ⟨?_⟩
  intro σ Q E q A fr s hid ak I
  refine BoolOp_or ((hx.out σ _ E q).then ak I (fun _ _ q => q) fun v h₁ tk₁ hid₁ d σ₁ p I₁ r q => ?_)
  cases d with
  | bool t =>
    simp only [VR] at r
    subst r
    refine wpAny_truthy_bool ?_
    cases t with
    | true => exact OkQ.lift p (Inv.okHere (s := { s with heap := h₁, toks := tk₁ }) (tk := tk₁) I₁ vr_bool q)
    | false =>
      refine (hy.out σ₁ _ E q).then (s := { s with heap := h₁, toks := tk₁ }) ak I₁ (fun _ _ q => ErQ.lift p q) fun v' h₂ tk₂ hid₂ d' σ₂ p₂ I₂ r₂ q => ?_
      cases d' with
      | bool c => exact OkQ.lift (p.trans p₂) (Inv.okHere (s := { s with heap := h₂, toks := tk₂ }) (tk := tk₂) I₂ r₂ q)
      | _ => exact q.elim
  | _ => exact q.elim
theorem snd_bool1 {x : Expr} {op : BoolOp} {a : ME} {pos : Pos} (hx : Snd W cls n e tbl loc gv mv O x a) : Snd W cls n e tbl loc gv mv O (.BoolOp op [x] pos) a :=
  ⟨fun σ Q E q A fr s hid ak I => BoolOp_one (hx.out σ Q E q A fr s hid ak I)⟩

theorem sndT_and {x y : Expr} {rest : List Expr} {a b : ME} {pos : Pos} (hx : SndT W cls n e tbl loc gv mv O x a) (hy : SndT W cls n e tbl loc gv mv O (.BoolOp .And (y :: rest) pos) b) : SndT W cls n e tbl loc gv mv O (.BoolOp .And (x :: y :: rest) pos) (.and a b) := by
  refine ⟨?_⟩
  intro σ Q E q A fr s hid ak I
  refine isTrue_and ((hx.out σ (fun t σ => match t with | true => wpE gv mv O b loc σ (fun d' σ => isB d' fun c => Q c σ) E | false => Q false σ) E q).then ak I (fun _ _ q => q) fun v h₁ tk₁ hid₁ σ₁ p I₁ q => ?_)
  cases v with
  | false => exact ⟨h₁, tk₁, hid₁, σ₁, rfl, p, q⟩
  | true => exact (hy.out σ₁ Q E q).then (s := { s with heap := h₁, toks := tk₁ }) ak I₁ (fun _ _ q => ErQ.lift p q) fun v' h₂ tk₂ hid₂ σ₂ p₂ I₂ q => ⟨h₂, tk₂, hid₂, σ₂, rfl, p.trans p₂, q⟩
theorem sndT_or {x y : Expr} {rest : List Expr} {a b : ME} {pos : Pos} (hx : SndT W cls n e tbl loc gv mv O x a) (hy : SndT W cls n e tbl loc gv mv O (.BoolOp .Or (y :: rest) pos) b) : SndT W cls n e tbl loc gv mv O (.BoolOp .Or (x :: y :: rest) pos) (.or a b) := by
  refine ⟨?_⟩
  intro σ Q E q A fr s hid ak I
  refine isTrue_or ((hx.out σ (fun t σ => match t with | true => Q true σ | false => wpE gv mv O b loc σ (fun d' σ => isB d' fun c => Q c σ) E) E q).then ak I (fun _ _ q => q) fun v h₁ tk₁ hid₁ σ₁ p I₁ q => ?_)
  cases v with
  | true => exact ⟨h₁, tk₁, hid₁, σ₁, rfl, p, q⟩
  | false => exact (hy.out σ₁ Q E q).then (s := { s with heap := h₁, toks := tk₁ }) ak I₁ (fun _ _ q => ErQ.lift p q) fun v' h₂ tk₂ hid₂ σ₂ p₂ I₂ q => ⟨h₂, tk₂, hid₂, σ₂, rfl, p.trans p₂, q⟩
theorem sndT_and1 {x : Expr} {a : ME} {pos : Pos} (hx : SndT W cls n e tbl loc gv mv O x a) : SndT W cls n e tbl loc gv mv O (.BoolOp .And [x] pos) a := by
  refine ⟨?_⟩
  intro σ Q E q A fr s hid ak I
  refine isTrue_and ((hx.out σ Q E q).then ak I (fun _ _ q => q) fun v h₁ tk₁ hid₁ σ₁ p I₁ q => ?_)
  cases v with
  | false => exact ⟨h₁, tk₁, hid₁, σ₁, rfl, p, q⟩
  | true => exact isTrue_and_nil ⟨h₁, tk₁, hid₁, σ₁, rfl, p, q⟩
theorem sndT_or1 {x : Expr} {a : ME} {pos : Pos} (hx : SndT W cls n e tbl loc gv mv O x a) : SndT W cls n e tbl loc gv mv O (.BoolOp .Or [x] pos) a := by
  refine ⟨?_⟩
  intro σ Q E q A fr s hid ak I
  refine isTrue_or ((hx.out σ Q E q).then ak I (fun _ _ q => q) fun v h₁ tk₁ hid₁ σ₁ p I₁ q => ?_)
  cases v with
  | true => exact ⟨h₁, tk₁, hid₁, σ₁, rfl, p, q⟩
  | false => exact isTrue_or_nil ⟨h₁, tk₁, hid₁, σ₁, rfl, p, q⟩

theorem snd_ite {c x y : Expr} {t a b : ME} {pos : Pos} (hc : SndT W cls n e tbl loc gv mv O c t) (hx : Snd W cls n e tbl loc gv mv O x a) (hy : Snd W cls n e tbl loc gv mv O y b) : Snd W cls n e tbl loc gv mv O (.IfExp c x y pos) (.ite t a b) := by
  refine ⟨?_⟩
  intro σ Q E q A fr s hid ak I
  refine IfExp_ ((hc.out σ (fun t σ => match t with | true => wpE gv mv O a loc σ Q E | false => wpE gv mv O b loc σ Q E) E q).then ak I (fun _ _ q => q) fun v h₁ tk₁ hid₁ σ₁ p I₁ q => ?_)
  cases v with
  | true => exact wpAny_mono (hx.out σ₁ Q E q A fr { s with heap := h₁, toks := tk₁ } hid₁ ak I₁) (fun _ _ q => OkQ.lift p q) fun _ _ q => ErQ.lift p q
  | false => exact wpAny_mono (hy.out σ₁ Q E q A fr { s with heap := h₁, toks := tk₁ } hid₁ ak I₁) (fun _ _ q => OkQ.lift p q) fun _ _ q => ErQ.lift p q

theorem snd_cmp2 {l m r : Expr} {op op' : CmpOp} {pos : Pos} {a b c : ME} (hl : Snd W cls n e tbl loc gv mv O l a) (hm : Snd W cls n e tbl loc gv mv O m b) (hr : Snd W cls n e tbl loc gv mv O r c) (hk : lastMarks [op, op'] [m, r] = false) : SndT W cls n e tbl loc gv mv O (.Compare l [op, op'] [m, r] pos) (.cmp2 op op' a b c) := by
  refine ⟨?_⟩
  intro σ Q E q A fr s hid ak I
  refine isTrue_chain ((hl.out σ _ E q).then ak I (fun _ _ q => q) fun v h₁ tk₁ hid₁ d σ₁ p I₁ r₁ q => ?_) hk
  refine test_link ((hm.out σ₁ _ E q).then (s := { s with heap := h₁, toks := tk₁ }) ak I₁ (fun _ _ q => ErQ.lift p q) fun v' h₂ tk₂ hid₂ d' σ₂ p₂ I₂ r₂ q => ?_)
  have r₁' := VR.evo (own := []) p₂.evo (fun _ q => nomatch q) p₂.ext r₁
  have p12 := p.trans p₂
  refine wpAny_mono (cmp_rule (s := { s with heap := h₂, toks := tk₂ }) (by have := ak.units; omega) I₂.sr r₁' r₂ q) (fun v s' g => ?_) fun _ _ x => x
  obtain ⟨t, rfl, rfl, q⟩ := g
  refine wpAny_truthy_bool ?_
  cases t with
  | false => exact ⟨h₂, tk₂, hid₂, σ₂, rfl, p12, q⟩
  | true =>
    refine test_last ((hr.out σ₂ _ E q).then (s := { s with heap := h₂, toks := tk₂ }) ak I₂ (fun _ _ q => ErQ.lift p12 q) fun v'' h₃ tk₃ hid₃ d'' σ₃ p₃ I₃ r₃ q => ?_)
    have r₂' := VR.evo (own := []) p₃.evo (fun _ q => nomatch q) p₃.ext r₂
    refine wpAny_mono (cmp_rule (s := { s with heap := h₃, toks := tk₃ }) (by have := ak.units; omega) I₃.sr r₂' r₃ q) (fun v s' g => ?_) fun _ _ x => x
    obtain ⟨t, rfl, rfl, q⟩ := g
    exact wpAny_truthy_bool ⟨h₃, tk₃, hid₃, σ₃, rfl, p12.trans p₃, q⟩
end
end Mine
end
section
set_option tactic.hygienic false
open PySem PySem.W PyProof.Rows PySem.Spec PySem.Calls PySem.Builtin.Str
set_option Elab.async false
set_option maxRecDepth 100000
set_option autoImplicit false
namespace Mine

noncomputable def isStar : Expr → Bool
  | .Starred .. => true
  | _ => false

theorem starEach_cons {x : Expr} {rest : List Expr} {env : Env} (h : isStar x = false) : starEach (x :: rest) env = (false, eval x env) :: starEach rest env := by
  cases x <;> first | rfl | (simp [isStar] at h)

section
variable {W : Wd} {cls : Xc → Addr} {n : Nat} {e : Env} {tbl : List Str} {loc : Loc} {gv : Nat → V} {mv : Str → V} {O : V → List V → St → (V → St → Prop) → (Xc → St → Prop) → Prop}

noncomputable def wpEs (gv : Nat → V) (mv : Str → V) (O : V → List V → St → (V → St → Prop) → (Xc → St → Prop) → Prop) (loc : Loc) : List ME → St → (List V → St → Prop) → (Xc → St → Prop) → Prop
  | [], σ, Q, _ => Q [] σ
  | a :: as, σ, Q, E => wpE gv mv O a loc σ (fun d σ => wpEs gv mv O loc as σ (fun ds σ => Q (d :: ds) σ) E) E

noncomputable def OkL (W : Wd) (k : Nat) (s : Shared) (hid : List Addr) (Q : List V → St → Prop) : List Value → Shared → Prop := fun vs s' =>
  vs.length = k ∧ ∃ h' tk hid' ds σ', s' = { s with heap := h', toks := tk } ∧ Post W [] s.heap hid h' hid' σ' ∧ VRs h' hid' ds vs ∧ Q ds σ'

inductive SndL (W : Wd) (cls : Xc → Addr) (n : Nat) (e : Env) (tbl : List Str) (loc : Loc) (gv : Nat → V) (mv : Str → V) (O : V → List V → St → (V → St → Prop) → (Xc → St → Prop) → Prop) : List Expr → List ME → Prop
  | nil : SndL W cls n e tbl loc gv mv O [] []
  | cons {x : Expr} {a : ME} {xs : List Expr} {as : List ME} : isStar x = false → Snd W cls n e tbl loc gv mv O x a → SndL W cls n e tbl loc gv mv O xs as → SndL W cls n e tbl loc gv mv O (x :: xs) (a :: as)

theorem snd_list {pos : Pos} {A : Around} {fr : List Env} (ak : AOK A fr n) : ∀ {xs : List Expr} {as : List ME}, SndL W cls n e tbl loc gv mv O xs as → ∀ {s : Shared} {hid : List Addr} {σ : St} {Q : List V → St → Prop} {E : Xc → St → Prop}, Inv W e tbl loc fr hid σ s.heap → wpEs gv mv O loc as σ Q E →
    wpAny (model W.prog W.w) A (spliced (backTo pos (starEach xs e))) (OkL W xs.length s hid Q) (ErQ W cls s hid E) s
  | _, _, .nil, s, hid, σ, Q, E, I, q => spliced_nil ⟨rfl, s.heap, s.toks, hid, [], σ, rfl, Post.refl I.sr I.base, VRs.nil, q⟩
  | _, _, .cons hx h r, s, hid, σ, Q, E, I, q => by
    refine spliced_more ((h.out σ _ E q).then ak I (fun _ _ q => q) fun v h₁ tk₁ hid₁ d σ₁ p I₁ r₁ q => ?_) (starEach_cons hx)
    refine wpAny_mono (snd_list ak r (s := { s with heap := h₁, toks := tk₁ }) I₁ q) (fun vs s' g => ?_) fun _ _ q => ErQ.lift p q
    obtain ⟨hl, h₂, tk₂, hid₂, ds, σ₂, rfl, p₂, rs, q⟩ := g
    exact ⟨by rw [List.length_cons, List.length_cons, hl], h₂, tk₂, hid₂, d :: ds, σ₂, rfl, p.trans p₂, VRs.cons (VR.evo (own := []) p₂.evo (fun _ q => nomatch q) p₂.ext r₁) rs, q⟩

theorem newObj_tup {A : Around} {E' : Value → Shared → Prop} {s : Shared} {hid : List Addr} {σ : St} {fr : List Env} {ds : List V} {vs : List Value} {Q : V → Prop} (I : Inv W e tbl loc fr hid σ s.heap) (rs : VRs s.heap hid ds vs) (hz : ds.length ≤ 10) (q : Q (.tup ds)) :
    wpAny (model W.prog W.w) A (newTuple vs) (GrowQ s hid Q) E' s :=
  wpAny_newObj_type (grow_tup rs (fun a ha => I.sr.lt ha) q) (by show vs.toArray.size ≤ sizeLine; rw [List.size_toArray, ← rs.length, sizeLine_eq]; omega)
theorem newObj_list {A : Around} {E' : Value → Shared → Prop} {s : Shared} {hid : List Addr} {σ : St} {fr : List Env} {ds : List V} {vs : List Value} {Q : V → Prop} (I : Inv W e tbl loc fr hid σ s.heap) (rs : VRs s.heap hid ds vs) (hz : ds.length ≤ 10) (q : Q (.list ds)) :
    wpAny (model W.prog W.w) A (newList vs) (GrowQ s hid Q) E' s :=
  wpAny_newObj_type (grow_list rs (fun a ha => I.sr.lt ha) q) (by show vs.toArray.size ≤ sizeLine; rw [List.size_toArray, ← rs.length, sizeLine_eq]; omega)

theorem snd_tuple {xs : List Expr} {as : List ME} {k : Nat} {pos : Pos} (h : SndL W cls n e tbl loc gv mv O xs as) (hl : xs.length ≤ 10) {σ : St} {Q : V → St → Prop} {E : Xc → St → Prop} (q : wpEs gv mv O loc as σ (fun ds σ => Q (.tup ds) σ) E) :
    EvW W cls n e tbl loc σ (eval (.Tuple xs k pos) e) Q E := by
  intro A fr s hid ak I
  refine Tuple_ (wpAny_mono (snd_list ak h I q) (fun vs s' g => ?_) fun _ _ x => x)
  obtain ⟨hv, h₂, tk₂, hid₂, ds, σ₂, rfl, p₂, rs, q⟩ := g
  have I₂ := I.post p₂
  exact wpAny_mono (newObj_tup (s := { s with heap := h₂, toks := tk₂ }) (Q := fun d => Q d σ₂) I₂ rs (by rw [rs.length, hv]; exact hl) q) (fun v s' g => OkQ.lift (tk₁ := tk₂) p₂ (GrowQ.ok I₂.sr I₂.base (fun _ q => q) g)) fun _ _ x => x
theorem snd_listD {xs : List Expr} {as : List ME} {pos : Pos} (h : SndL W cls n e tbl loc gv mv O xs as) (hl : xs.length ≤ 10) {σ : St} {Q : V → St → Prop} {E : Xc → St → Prop} (q : wpEs gv mv O loc as σ (fun ds σ => Q (.list ds) σ) E) :
    EvW W cls n e tbl loc σ (eval (.List xs pos) e) Q E := by
  intro A fr s hid ak I
  refine List_ (wpAny_mono (snd_list ak h I q) (fun vs s' g => ?_) fun _ _ x => x)
  obtain ⟨hv, h₂, tk₂, hid₂, ds, σ₂, rfl, p₂, rs, q⟩ := g
  have I₂ := I.post p₂
  exact wpAny_mono (newObj_list (s := { s with heap := h₂, toks := tk₂ }) (Q := fun d => Q d σ₂) I₂ rs (by rw [rs.length, hv]; exact hl) q) (fun v s' g => OkQ.lift (tk₁ := tk₂) p₂ (GrowQ.ok I₂.sr I₂.base (fun _ q => q) g)) fun _ _ x => x

theorem get?_size {h : Heap} : h.get? h.objs.size = none := by
  cases q : h.get? h.objs.size with
  | none => rfl
  | some o => exact absurd (Heap.lt_size q) (Nat.lt_irrefl _)
theorem get?_big {h : Heap} {a : Addr} (ha : h.objs.size ≤ a) : h.get? a = none := by
  cases q : h.get? a with
  | none => rfl
  | some o => exact absurd (Heap.lt_size q) (Nat.not_lt.mpr ha)
theorem none_back {h h' : Heap} (k : ∀ b o, h.get? b = some o → ∃ o', h'.get? b = some o') {a : Addr} (ha : h'.get? a = none) : h.get? a = none := by
  cases q : h.get? a with
  | none => rfl
  | some o => obtain ⟨o', e⟩ := k a o q; rw [ha] at e; cases e

theorem join_post {W : Wd} {own hid : List Addr} {σ : St} {h h' : Heap} {a : Addr} {o : MO} (sr : SR W σ hid h) (b : W.hT.StaysIn h) (k : ∀ b o, h.get? b = some o → h'.get? b = some o)
    (ha : h.get? a = none) (ho : ObjR W h' (hid ++ [a]) a o) : Post W own h hid h' (hid ++ [a]) (σ ++ [o]) := by
  have ex : Ext hid h (hid ++ [a]) := ⟨[a], rfl, fun x hx => by rw [List.mem_singleton.mp hx]; exact ha⟩
  have ev : Evo ([] ++ hid) h h' := Evo.of_keep k
  refine ⟨Evo.of_keep k, ex, ⟨by simp [sr.len], ?_, fun i o' e => ?_, fun x hx => ?_⟩, fun x o e => k x o (b x o e)⟩
  · rw [List.nodup_append]
    refine ⟨sr.nd, by simp, fun x hx y hy => ?_⟩
    rw [List.mem_singleton.mp hy]
    rintro rfl
    obtain ⟨ob, e, _⟩ := sr.there hx
    rw [ha] at e; cases e
  · by_cases hi : i < σ.length
    · rw [List.getElem?_append_left hi] at e
      obtain ⟨x, e', r⟩ := sr.obj i o' e
      exact ⟨x, ex.get e', r.evo ev (fun _ q => nomatch q) ex (k x)⟩
    · rw [List.getElem?_append_right (by omega)] at e
      have hz : i - σ.length = 0 := by
        have := (List.getElem?_eq_some_iff.mp e).1
        simp at this; omega
      rw [hz] at e
      simp at e
      subst e
      refine ⟨a, ?_, ho⟩
      rw [List.getElem?_append_right (by rw [sr.len]; omega), sr.len, hz]; rfl
  · rcases List.mem_append.mp hx with hx | hx
    · exact sr.new x hx
    · rw [List.mem_singleton.mp hx]; exact none_back (fun x o e => ⟨o, b x o e⟩) ha

theorem hT_none {W : Wd} {h : Heap} (b : W.hT.StaysIn h) {a : Addr} (ha : h.objs.size ≤ a) : W.hT.get? a = none := by
  cases q : W.hT.get? a with
  | none => rfl
  | some o => exact absurd (Heap.lt_size (b _ _ q)) (Nat.not_lt.mpr ha)

theorem snd_newlist {xs : List Expr} {as : List ME} {pos : Pos} (h : SndL W cls n e tbl loc gv mv O xs as) (hl : xs.length ≤ 10) {σ : St} {Q : V → St → Prop} {E : Xc → St → Prop} (q : wpEs gv mv O loc as σ (fun ds σ => Q (.obj σ.length) (σ ++ [.list ds])) E) :
    EvW W cls n e tbl loc σ (eval (.List xs pos) e) Q E := by
  intro A fr s hid ak I
  refine List_ (wpAny_mono (snd_list ak h I q) (fun vs s' g => ?_) fun _ _ x => x)
  obtain ⟨hv, h₂, tk₂, hid₂, ds, σ₂, rfl, p₂, rs, q⟩ := g
  have I₂ := I.post p₂
  refine wpAny_newObj_type ?_ (by show vs.toArray.size ≤ sizeLine; rw [List.size_toArray, hv, sizeLine_eq]; omega)
  have kk : ∀ b o, h₂.get? b = some o → (h₂.push { cls := .type "list", data := .seq vs.toArray }).get? b = some o := fun _ _ e => Heap.get?_push_of_some _ e
  have hz : h₂.objs.size ≤ (h₂.push { cls := .type "list", data := .seq vs.toArray }).objs.size := by rw [Heap.size_push]; omega
  have ex : Ext hid₂ h₂ (hid₂ ++ [h₂.objs.size]) := ⟨[_], rfl, fun x hx => by rw [List.mem_singleton.mp hx]; exact get?_size⟩
  have pj := join_post (own := []) (o := .list ds) I₂.sr I₂.base kk get?_size ⟨vs, 0, Heap.get?_push_size _ rfl, VRs.evo (own := []) (Evo.of_stays kk hz) (fun _ q => nomatch q) ex rs⟩
  refine OkQ.lift (tk₁ := tk₂) p₂ ⟨_, tk₂, _, .obj σ₂.length, _, rfl, pj, ?_, q⟩
  rw [VR]
  refine ⟨h₂.objs.size, rfl, ?_⟩
  rw [List.getElem?_append_right (by rw [I₂.sr.len]; omega), I₂.sr.len, Nat.sub_self]; rfl

theorem snd_idx {x i : Expr} {a b : ME} {pos : Pos} (hx : Snd W cls n e tbl loc gv mv O x a) (hi : Snd W cls n e tbl loc gv mv O i b) (hs : isCut i = false) : Snd W cls n e tbl loc gv mv O (.Subscript x i pos) (.idx a b) := by
  refine ⟨?_⟩
  intro σ Q E q A fr s hid ak I
  refine Subscript_ ((hx.out σ _ E q).then ak I (fun _ _ q => q) fun v h₁ tk₁ hid₁ d σ₁ p I₁ r₁ q => ?_)
  refine (hi.out σ₁ _ E q).then (s := { s with heap := h₁, toks := tk₁ }) ak I₁ (fun _ _ q => ErQ.lift p q) fun v' h₂ tk₂ hid₂ d' σ₂ p₂ I₂ r₂ q => ?_
  have r₁' := VR.evo (own := []) p₂.evo (fun _ q => nomatch q) p₂.ext r₁
  exact wpAny_mono (idx_rule (s := { s with heap := h₂, toks := tk₂ }) hs I₂.sr r₁' r₂ q) (fun v s' g => OkQ.lift (tk₁ := tk₂) (p.trans p₂) (GrowQ.ok I₂.sr I₂.base (fun _ q => q) g)) fun _ _ x => x

structure SndP (W : Wd) (cls : Xc → Addr) (n : Nat) (e : Env) (tbl : List Str) (loc : Loc) (gv : Nat → V) (mv : Str → V) (O : V → List V → St → (V → St → Prop) → (Xc → St → Prop) → Prop) (pe : Option Expr) (a : ME) : Prop where
  out : ∀ σ Q E, wpE gv mv O a loc σ Q E → EvW W cls n e tbl loc σ (evalPart pe e) Q E
theorem sndP_none : SndP W cls n e tbl loc gv mv O none .none :=
  ⟨fun _ _ _ q _ _ s _ _ I => wpAny_pure (I.okHere (tk := s.toks) vr_none q)⟩
theorem sndP_some {x : Expr} {a : ME} (h : Snd W cls n e tbl loc gv mv O x a) : SndP W cls n e tbl loc gv mv O (some x) a := ⟨fun σ Q E q => h.out σ Q E q⟩

theorem snd_slc {x : Expr} {lo hi : Option Expr} {a b c : ME} {pos p₀ : Pos} (hx : Snd W cls n e tbl loc gv mv O x a) (hl : SndP W cls n e tbl loc gv mv O lo b) (hh : SndP W cls n e tbl loc gv mv O hi c) : Snd W cls n e tbl loc gv mv O (.Subscript x (.Slice lo hi none p₀) pos) (.slc a b c) := by
  refine ⟨?_⟩
  intro σ Q E q A fr s hid ak I
  refine Subscript_ ((hx.out σ _ E q).then ak I (fun _ _ q => q) fun v h₁ tk₁ hid₁ d σ₁ p I₁ r₁ q => ?_)
  refine wpAny_Slice ((hl.out σ₁ _ E q).then (s := { s with heap := h₁, toks := tk₁ }) ak I₁ (fun _ _ q => ErQ.lift p q) fun v' h₂ tk₂ hid₂ d' σ₂ p₂ I₂ r₂ q => ?_)
  refine (hh.out σ₂ _ E q).then (s := { s with heap := h₂, toks := tk₂ }) ak I₂ (fun _ _ q => ErQ.lift (p.trans p₂) q) fun v'' h₃ tk₃ hid₃ d'' σ₃ p₃ I₃ r₃ q => ?_
  have r₁' := VR.evo (own := []) (p₂.trans p₃).evo (fun _ q => nomatch q) (p₂.trans p₃).ext r₁
  have r₂' := VR.evo (own := []) p₃.evo (fun _ q => nomatch q) p₃.ext r₂
  refine wpAny_pure ?_
  exact wpAny_mono (slc_rule (s := { s with heap := h₃, toks := tk₃ }) (fun a ha => I₃.sr.lt ha) r₁' r₂' r₃ q) (fun v s' g => OkQ.lift (tk₁ := tk₃) ((p.trans p₂).trans p₃) (GrowQ.ok I₃.sr I₃.base (fun _ q => q) g)) fun _ _ x => x


theorem snd_take {x : Str} {px p₀ p₁ pos : Pos} {k ck : Nat} {a : ME} (hx : Snd W cls n e tbl loc gv mv O (.Name x px) a) : Snd W cls n e tbl loc gv mv O (.Subscript (.Name x px) (.Slice none (some (.Constant (.int k) ck p₁)) none p₀) pos) (.take a k) := by
  refine ⟨?_⟩
  intro σ Q E q A fr s hid ak I
  refine Subscript_ ((hx.out σ _ E q).then ak I (fun _ _ q => q) fun v h₁ tk₁ hid₁ d σ₁ p I₁ r₁ q => ?_)
  refine wpAny_Slice (((sndP_none (W := W) (cls := cls) (n := n) (e := e) (tbl := tbl) (loc := loc) (gv := gv) (mv := mv) (O := O)).out σ₁ (fun d σ => d = .none ∧ σ = σ₁) E ⟨rfl, rfl⟩).then (s := { s with heap := h₁, toks := tk₁ }) ak I₁ (fun _ _ q => ErQ.lift p q) fun v' h₂ tk₂ hid₂ d' σ₂ p₂ I₂ r₂ q₂ => ?_)
  obtain ⟨rfl, rfl⟩ := q₂
  refine ((sndP_some (snd_int (W := W) (cls := cls) (n := n) (e := e) (tbl := tbl) (loc := loc) (gv := gv) (mv := mv) (O := O) (i := (k : Int)))).out σ₂ (fun d σ => d = .int k ∧ σ = σ₂) E ⟨rfl, rfl⟩).then (s := { s with heap := h₂, toks := tk₂ }) ak I₂ (fun _ _ q => ErQ.lift (p.trans p₂) q) fun v'' h₃ tk₃ hid₃ d'' σ₃ p₃ I₃ r₃ q₃ => ?_
  obtain ⟨rfl, rfl⟩ := q₃
  have r₁' := VR.evo (own := []) (p₂.trans p₃).evo (fun _ q => nomatch q) (p₂.trans p₃).ext r₁
  have r₂' := VR.evo (own := []) p₃.evo (fun _ q => nomatch q) p₃.ext r₂
  cases d <;> first | exact False.elim q | skip
  · rename_i l
    obtain ⟨hb, q⟩ := q
    simp only [VR] at r₁' r₂' r₃
    obtain ⟨ad, xs, m, rfl, hl, na, rx⟩ := r₁'
    subst r₂'
    obtain ⟨u, rfl⟩ := r₃
    have lx := rx.length
    refine wpAny_pure ?_
    refine slice_listK (s := { s with heap := h₃, toks := tk₃ }) (items := xs.toArray) (lo := none) (hi := some (k : Int)) ⟨_, hl, rfl, m, rfl⟩ .none (.int _ _) ?_ rfl (fun _ => rfl) (by rw [List.size_toArray, ← lx]; exact Nat.le_trans hb big_le)
    rw [slicePick_upto']
    have kk : ∀ b o, h₃.get? b = some o → ((h₃.push { cls := .type "slice", data := .fields #[.none, .int k u, .none] }).push (listOf (List.toArray (xs.take k)) 0)).get? b = some o := fun _ _ e => Heap.get?_push_of_some _ (Heap.get?_push_of_some _ e)
    have pg : Post W [] h₃ hid₃ _ hid₃ σ₃ := grow_post' I₃.sr I₃.base kk
    refine ⟨_, tk₃, hid₃, .list (l.take k), σ₃, rfl, ((p.trans p₂).trans p₃).trans pg, ?_, q⟩
    rw [VR]
    refine ⟨h₃.objs.size + 1, xs.take k, 0, rfl, Heap.get?_push_at (by rw [Heap.size_push]) rfl, fun hm => Nat.lt_irrefl _ (Nat.lt_trans (Nat.lt_succ_self _) (I₃.sr.lt hm)), VRs.evo (own := []) pg.evo (fun _ q => nomatch q) pg.ext (rx.take k)⟩
end
end Mine
end
section
set_option tactic.hygienic false
open PySem PySem.W PyProof.Rows PySem.Spec PySem.Calls PySem.Builtin.Str
set_option Elab.async false
set_option maxRecDepth 100000
set_option autoImplicit false
namespace Mine

noncomputable def Orc (W : Wd) (cls : Xc → Addr) (n : Nat) : V → List V → St → (V → St → Prop) → (Xc → St → Prop) → Prop :=
  fun v args σ Q E => match v with
    | .fn f => CallW W cls n f args σ Q E
    | _ => False

theorem CallW.mono {W : Wd} {cls : Xc → Addr} {n : Nat} {f : Value} {args : List V} {σ : St} {Q Q' : V → St → Prop} {E E' : Xc → St → Prop} (h : CallW W cls n f args σ Q E) (hQ : ∀ d σ, Q d σ → Q' d σ) (hE : ∀ x σ, E x σ → E' x σ) : CallW W cls n f args σ Q' E' :=
  fun A fr s hid vs ak b ff sr rs => wpAny_mono (h A fr s hid vs ak b ff sr rs) (fun v s' g => by
    obtain ⟨h', tk, hid', d, σ', e, p, r, q⟩ := g
    exact ⟨h', tk, hid', d, σ', e, p, r, hQ d σ' q⟩) fun v s' g => by
    obtain ⟨h', tk, hid', x, ea, σ', e, p, r, e', q⟩ := g
    exact ⟨h', tk, hid', x, ea, σ', e, p, r, e', hE x σ' q⟩

theorem starEach_any {xs : List Expr} {env : Env} {pos : Pos} (h : ∀ x ∈ xs, isStar x = false) : (backTo pos (starEach xs env)).any (·.1) = false := by
  induction xs with
  | nil => rfl
  | cons x xs ih =>
    rw [starEach_cons (h x (.head _))]
    show (false || (backTo pos (starEach xs env)).any (·.1)) = false
    rw [ih fun y hy => h y (.tail _ hy)]; rfl
theorem starEach_all {xs : List Expr} {env : Env} {pos : Pos} (h : ∀ x ∈ xs, isStar x = false) : (backTo pos (starEach xs env)).all (fun x => !x.1) = true := by
  induction xs with
  | nil => rfl
  | cons x xs ih =>
    rw [starEach_cons (h x (.head _))]
    show (true && (backTo pos (starEach xs env)).all (fun x => !x.1)) = true
    rw [ih fun y hy => h y (.tail _ hy)]; rfl

section
variable {W : Wd} {cls : Xc → Addr} {n n₀ : Nat} {e : Env} {tbl : List Str} {loc : Loc} {gv : Nat → V} {mv : Str → V} {O : V → List V → St → (V → St → Prop) → (Xc → St → Prop) → Prop}

theorem SndL.plain {xs : List Expr} {as : List ME} (h : SndL W cls n e tbl loc gv mv O xs as) : ∀ x ∈ xs, isStar x = false := by
  induction h with
  | nil => intro x hx; cases hx
  | cons hx _ _ ih => 
    intro y hy
    rcases List.mem_cons.mp hy with rfl | hy
    · exact hx
    · exact ih y hy

theorem call_here {f : Value} {first : List Value} {fs : List V} {xs : List Expr} {as : List ME} {pos : Pos} {A : Around} {fr : List Env} {s : Shared} {hid : List Addr} {σ : St} {Q : V → St → Prop} {E : Xc → St → Prop} (hn : n₀ ≤ n) (ak : AOK A fr n) (I : Inv W e tbl loc fr hid σ s.heap)
    (hk : keepIn W.K f = true) (h : SndL W cls n e tbl loc gv mv O xs as) (rf : VRs s.heap hid fs first) (q : wpEs gv mv O loc as σ (fun ds σ => CallW W cls n₀ f (fs ++ ds) σ Q E) E) :
    wpAny (model W.prog W.w) A (callWith pos f first (backTo pos (starEach xs e)) []) (OkQ W s hid Q) (ErQ W cls s hid E) s := by
  have fin : ∀ vs s', OkL W xs.length s hid (fun ds σ => CallW W cls n₀ f (fs ++ ds) σ Q E) vs s' → W.K.In s'.heap ∧ wpAny (model W.prog W.w) A (call f (first ++ vs)) (OkQ W s hid Q) (ErQ W cls s hid E) s' := by
    intro vs s' g
    obtain ⟨hv, h₂, tk₂, hid₂, ds, σ₂, rfl, p₂, rs, q⟩ := g
    have I₂ := I.post p₂
    refine ⟨W.X.keeps p₂.base, ?_⟩
    have rf' := VRs.evo (own := []) p₂.evo (fun _ q => nomatch q) p₂.ext rf
    exact wpAny_mono (q A fr { s with heap := h₂, toks := tk₂ } hid₂ _ (ak.mono hn) I₂.base I₂.ff I₂.sr (rf'.append rs)) (fun _ _ q => OkQ.lift p₂ q) fun _ _ q => ErQ.lift p₂ q
  cases h with
  | nil =>
    refine callWith_K0 (W.X.keeps I.base) hk ?_
    exact (fin [] s ⟨rfl, s.heap, s.toks, hid, [], σ, rfl, Post.refl I.sr I.base, VRs.nil, q⟩).2
  | cons hx hs hr =>
    refine callWith_K W.X hk (wpAny_mono (snd_list ak (.cons hx hs hr) I q) fin fun _ _ q => q) (starEach_cons hx) (starEach_any fun y hy => hr.plain y hy)

theorem snd_call {x : Str} {p₀ pos : Pos} {k : Nat} {f : Value} {xs : List Expr} {as : List ME} (hn : n₀ ≤ n) (hf : Snd W cls n e tbl loc gv mv (Orc W cls n₀) (.Name x p₀) (.glob k)) (hv : gv k = .fn f) (hk : keepIn W.K f = true) (h : SndL W cls n e tbl loc gv mv (Orc W cls n₀) xs as)
    {σ : St} {Q : V → St → Prop} {E : Xc → St → Prop} (q : wpEs gv mv (Orc W cls n₀) loc as σ (fun ds σ => Orc W cls n₀ (gv k) ds σ Q E) E) : EvW W cls n e tbl loc σ (eval (.Call (.Name x p₀) xs [] pos) e) Q E := by
  intro A fr s hid ak I
  refine Call_ ((hf.out σ (fun v σ => v = .fn f ∧ wpEs gv mv (Orc W cls n₀) loc as σ (fun ds σ => CallW W cls n₀ f ds σ Q E) E) E ?_).then ak I (fun _ _ q => q) fun v h₁ tk₁ hid₁ d σ₁ p I₁ r₁ q => ?_)
  · rw [hv] at q
    show gv k = .fn f ∧ _
    exact ⟨hv, q⟩
  · obtain ⟨rfl, q⟩ := q
    simp only [VR] at r₁
    subst r₁
    exact wpAny_mono (call_here (s := { s with heap := h₁, toks := tk₁ }) (fs := []) hn ak I₁ hk h VRs.nil q) (fun _ _ q => OkQ.lift p q) fun _ _ q => ErQ.lift p q

theorem snd_len {p₀ pos : Pos} {x : Expr} {a : ME} (hl : ∀ {A : Around} {fr : List Env} {s : Shared} {hid : List Addr} {σ : St} {Q : Value → Shared → Prop} {E : Value → Shared → Prop}, Inv W e tbl loc fr hid σ s.heap → Q (.builtin "len") s → wpAny (model W.prog W.w) A (eval (.Name "len" p₀) e) Q E s)
    (hx : Snd W cls n e tbl loc gv mv O x a) (hs : isStar x = false) : Snd W cls n e tbl loc gv mv O (.Call (.Name "len" p₀) [x] [] pos) (.len a) := by
  refine ⟨?_⟩
  intro σ Q E q A fr s hid ak I
  refine Call_ (hl I ?_)
  rw [starEach_cons hs]
  refine callWith_builtin1 ((hx.out σ _ E q).then ak I (fun _ _ q => q) fun v h₁ tk₁ hid₁ d σ₁ p I₁ r₁ q => ?_)
  exact wpAny_mono (len_rule (s := { s with heap := h₁, toks := tk₁ }) (Q := fun d => Q d σ₁) I₁.sr r₁ q fun _ q => q) (fun v s' g => OkQ.lift (tk₁ := tk₁) p (GrowQ.ok I₁.sr I₁.base (fun _ q => q) g)) fun _ _ x => x

theorem name_boot {x : Str} {p₀ : Pos} {v : Value} (hx : e.kindOf x = some .globalImplicit) (hg : nsIn W.K mainGlobals x = some none) (hb : bootBuiltins x = some v) (hn : x ≠ "__name__") (hd : (x == ("__debug__" : Str)) = false)
    {A : Around} {fr : List Env} {s : Shared} {hid : List Addr} {σ : St} {Q : Value → Shared → Prop} {E : Value → Shared → Prop} (I : Inv W e tbl loc fr hid σ s.heap) (q : Q v s) : wpAny (model W.prog W.w) A (eval (.Name x p₀) e) Q E s := by
  have hns : s.heap.Ns e.globals W.mg := by rw [I.glob]; exact W.T.g.keeps I.base
  have hnb : s.heap.Ns e.builtins W.mb := by rw [I.bi]; exact W.T.b.keeps I.base
  exact Name_function_global I.kind hx (loadGlobal_builtin hns (mg_none_of W.X W.T.g hg) hnb ((W.T.builtins x hn).trans hb) q) hd
end
end Mine
end
section
set_option tactic.hygienic false
open PySem PySem.W PyProof.Rows PySem.Spec PySem.Calls PySem.Builtin.Str
set_option Elab.async false
set_option maxRecDepth 100000
set_option autoImplicit false
namespace Mine

noncomputable def FlR (h : Heap) (hid : List Addr) : Fl → Flow → Prop
  | .next, f => f = .next
  | .brk, f => f = .brk
  | .ret d, f => ∃ v, f = .ret v ∧ VR h hid d v

inductive StQ (W : Wd) (e : Env) (tbl : List Str) (fr : List Env) (s : Shared) (hid : List Addr) (Q : Fl → Loc → St → Prop) (fl : Flow) (s' : Shared) : Prop
  | mk (h' : Heap) (tk : Nat) (hid' : List Addr) (f : Fl) (loc' : Loc) (σ' : St) (eq : s' = { s with heap := h', toks := tk }) (p : Post W (ownOf' e) s.heap hid h' hid' σ') (I : Inv W e tbl loc' fr hid' σ' h') (r : FlR h' hid' f fl) (q : Q f loc' σ')
inductive StE (W : Wd) (cls : Xc → Addr) (e : Env) (tbl : List Str) (fr : List Env) (s : Shared) (hid : List Addr) (E : Xc → St → Prop) (ev : Value) (s' : Shared) : Prop
  | mk (h' : Heap) (tk : Nat) (hid' : List Addr) (x : Xc) (ea : Addr) (loc' : Loc) (σ' : St) (eq : s' = { s with heap := h', toks := tk }) (p : Post W (ownOf' e) s.heap hid h' hid' σ') (I : Inv W e tbl loc' fr hid' σ' h') (r : ExR cls s.heap h' x ea) (he : ev = .ref ea) (q : E x σ')
noncomputable def StW (W : Wd) (cls : Xc → Addr) (n : Nat) (e : Env) (tbl : List Str) (loc : Loc) (σ : St) (t : Sem Flow) (Q : Fl → Loc → St → Prop) (E : Xc → St → Prop) : Prop :=
  ∀ A fr s hid, AOK A fr n → Inv W e tbl loc fr hid σ s.heap → wpAny (model W.prog W.w) A t (StQ W e tbl fr s hid Q) (StE W cls e tbl fr s hid E) s

theorem StQ.lift {W : Wd} {e : Env} {tbl : List Str} {fr : List Env} {s : Shared} {hid hid₁ : List Addr} {h₁ : Heap} {tk₁ : Nat} {σ₁ : St} {Q : Fl → Loc → St → Prop} {v : Flow} {s' : Shared} (y : Post W (ownOf' e) s.heap hid h₁ hid₁ σ₁) (q : StQ W e tbl fr { s with heap := h₁, toks := tk₁ } hid₁ Q v s') : StQ W e tbl fr s hid Q v s' := by
  obtain ⟨h', tk, hid', d, loc', σ', e, p, r, f, k⟩ := q
  exact ⟨h', tk, hid', d, loc', σ', e, y.trans p, r, f, k⟩
theorem StE.lift {W : Wd} {cls : Xc → Addr} {e : Env} {tbl : List Str} {fr : List Env} {s : Shared} {hid hid₁ : List Addr} {h₁ : Heap} {tk₁ : Nat} {σ₁ : St} {E : Xc → St → Prop} {v : Value} {s' : Shared} (y : Post W (ownOf' e) s.heap hid h₁ hid₁ σ₁) (q : StE W cls e tbl fr { s with heap := h₁, toks := tk₁ } hid₁ E v s') : StE W cls e tbl fr s hid E v s' := by
  obtain ⟨h', tk, hid', d, ea, loc', σ', e, p, r, x, he, k⟩ := q
  exact ⟨h', tk, hid', d, ea, loc', σ', e, y.trans p, r, x.early y.evo.alive, he, k⟩
theorem ErQ.toSt {W : Wd} {cls : Xc → Addr} {e : Env} {tbl : List Str} {loc : Loc} {fr : List Env} {s : Shared} {hid : List Addr} {σ : St} {E : Xc → St → Prop} {v : Value} {s' : Shared} (I : Inv W e tbl loc fr hid σ s.heap) (q : ErQ W cls s hid E v s') : StE W cls e tbl fr s hid E v s' := by
  obtain ⟨h', tk, hid', d, ea, σ', e, p, r, he, k⟩ := q
  exact ⟨h', tk, hid', d, ea, loc, σ', e, p.wider (fun _ q => nomatch q), I.post p, r, he, k⟩

structure SndS (W : Wd) (cls : Xc → Addr) (n : Nat) (e : Env) (tbl : List Str) (gv : Nat → V) (mv : Str → V) (O : V → List V → St → (V → St → Prop) → (Xc → St → Prop) → Prop) (t : Sem Flow) (a : MS) : Prop where
  out : ∀ loc σ Q E, wpS gv mv O a loc σ Q E → StW W cls n e tbl loc σ t Q E

section
variable {W : Wd} {cls : Xc → Addr} {n n₀ : Nat} {e : Env} {tbl : List Str} {gv : Nat → V} {mv : Str → V} {O : V → List V → St → (V → St → Prop) → (Xc → St → Prop) → Prop}

theorem sndS_nil : SndS W cls n e tbl gv mv O (execs [] e) .nil :=
  ⟨fun loc σ _ _ q _ _ s hid _ I => wpAny_execs_nil ⟨s.heap, s.toks, hid, .next, loc, σ, rfl, Post.refl I.sr I.base, I, rfl, q⟩⟩

theorem sndS_seq {st : Stmt} {rest : List Stmt} {a b : MS} (h : SndS W cls n e tbl gv mv O (exec st e) a) (hr : SndS W cls n e tbl gv mv O (execs rest e) b) : SndS W cls n e tbl gv mv O (execs (st :: rest) e) (.seq a b) := by
  refine ⟨?_⟩
  intro loc σ Q E q A fr s hid ak I
  refine wpAny_execs_cons (wpAny_mono (h.out loc σ _ E q A fr s hid ak I) (fun fl s' g => ?_) fun _ _ q => q)
  obtain ⟨h₁, tk₁, hid₁, f, loc₁, σ₁, rfl, p, I₁, r, q⟩ := g
  cases f with
  | next =>
    cases r
    exact wpAny_mono (hr.out loc₁ σ₁ Q E q A fr { s with heap := h₁, toks := tk₁ } hid₁ ak I₁) (fun _ _ q => StQ.lift p q) fun _ _ q => StE.lift p q
  | brk => cases r; exact ⟨h₁, tk₁, hid₁, .brk, loc₁, σ₁, rfl, p, I₁, rfl, q⟩
  | ret d => obtain ⟨v, rfl, r⟩ := r; exact ⟨h₁, tk₁, hid₁, .ret d, loc₁, σ₁, rfl, p, I₁, ⟨v, rfl, r⟩, q⟩

theorem Inv.notFields {loc : Loc} {fr : List Env} {hid : List Addr} {σ : St} {h : Heap} (I : Inv W e tbl loc fr hid σ h) {a : Addr} (ha : a ∈ ownOf' e) : ∃ o, h.get? a = some o ∧ ((∃ es ep, o.data = .dict es ep) ∨ ∃ v, o.data = .cell v) := by
  rcases List.mem_cons.mp ha with rfl | ha
  · obtain ⟨m, ⟨o, es, ep, e', hd, _⟩, _⟩ := I.locs
    exact ⟨o, e', .inl ⟨es, ep, hd⟩⟩
  · obtain ⟨v, o, e', hd⟩ := I.cells a ha
    exact ⟨o, e', .inr ⟨v, hd⟩⟩

theorem ff_set {fr : List Env} {hid : List Addr} {h h' : Heap} {a : Addr} (f : FF W fr hid h) (hs : Heap.SameBut a h h') (ho : ∃ o, h'.get? a = some o ∧ ∀ vs, o.data ≠ .fields vs) (hd' : a ∈ fr.filterMap (·.frame) → ∃ o es ep, h'.get? a = some o ∧ o.data = .dict es ep) : FF W fr hid h' := by
  refine ⟨funFrames_of (fun b o e hd => ?_) f.ff, fun L hL => ⟨(f.dict L hL).1, ?_⟩⟩
  · by_cases hb : b = a
    · subst hb; exact ho
    · exact ⟨o, (hs.2 b hb).trans e, hd⟩
  · by_cases hb : L = a
    · subst hb; exact hd' hL
    · obtain ⟨_, o, es, ep, e, hd⟩ := f.dict L hL
      exact ⟨o, es, ep, (hs.2 L hb).trans e, hd⟩

theorem set_post {loc : Loc} {fr : List Env} {hid : List Addr} {σ : St} {h h' : Heap} {a : Addr} (I : Inv W e tbl loc fr hid σ h) (ha : a ∈ ownOf' e) (hs : Heap.SameBut a h h') (hx : ∃ o, h'.get? a = some o) : Post W (ownOf' e) h hid h' hid σ := by
  have ev : Evo (ownOf' e ++ hid) h h' := Evo.of_sameBut hs (List.mem_append_left _ ha) hx
  refine ⟨ev, Ext.refl _ _, I.sr.keep ev I.notSeq (fun b hb o e => (hs.2 b fun q => (I.own a ha).2 (q ▸ hb)).trans e), fun b o e => (hs.2 b fun q => ?_).trans (I.base b o e)⟩
  rw [q, (I.own a ha).1] at e; cases e

theorem vr_set {loc : Loc} {fr : List Env} {hid : List Addr} {σ : St} {h h' : Heap} {a : Addr} (I : Inv W e tbl loc fr hid σ h) (ha : a ∈ ownOf' e) (hs : Heap.SameBut a h h') (hx : ∃ o, h'.get? a = some o) {d : V} {v : Value} (r : VR h hid d v) : VR h' hid d v :=
  VR.evo (set_post I ha hs hx).evo I.notSeq (Ext.refl _ _) r

theorem store_rule {x : Str} {i : Nat} {d : V} {v : Value} {loc : Loc} {A : Around} {fr : List Env} {s : Shared} {hid : List Addr} {σ : St} {E' : Value → Shared → Prop} {Q : Unit → Shared → Prop} (ht : tbl[i]? = some x) (hu : ∀ j, tbl[j]? = some x → j = i)
    (hk : e.kindOf x = some .local ∨ (e.kindOf x = some .cell ∧ ∃ c, e.cells.lookup x = some c)) (I : Inv W e tbl loc fr hid σ s.heap) (r : VR s.heap hid d v)
    (q : ∀ h' tk, Post W (ownOf' e) s.heap hid h' hid σ → Inv W e tbl (upd loc i d) fr hid σ h' → Q () { s with heap := h', toks := tk }) : wpAny (model W.prog W.w) A (storeName e x v) Q E' s := by
  obtain ⟨m, hm, hls⟩ := I.locs
  have hp : (e.scope.kind == .class || (e.scope.kind == .module && e.locals != e.globals)) = false := by rw [I.kind]; rfl
  rcases hk with hk | ⟨hk, c, hc⟩
  · refine wpAny_storeName_local hk hm (fun h' hn hs => ?_) hp
    have ha : e.locals ∈ ownOf' e := .head _
    have hx : ∃ o, h'.get? e.locals = some o := let ⟨o, _, _, e', _⟩ := hn; ⟨o, e'⟩
    refine q h' _ (set_post I ha hs hx) ⟨fun b o e' => (set_post I ha hs hx).base b o e', ff_set I.ff hs ?_ (fun _ => ?_), (set_post I ha hs hx).sr, I.kind, I.glob, I.bi, ⟨_, hn, fun j y dj hj hl => ?_⟩, I.nd, I.own, fun c hc => ?_⟩
    · obtain ⟨o, es, ep, e', hd, _⟩ := hn
      exact ⟨o, e', fun vs q => by rw [hd] at q; cases q⟩
    · obtain ⟨o, es, ep, e', hd, _⟩ := hn
      exact ⟨o, es, ep, e', hd⟩
    · unfold upd at hl
      by_cases hji : j = i
      · subst hji
        rw [if_pos rfl] at hl
        cases hl
        obtain rfl : x = y := Option.some.inj (ht.symm.trans hj)
        exact ⟨v, .inl ⟨hk, if_pos rfl⟩, vr_set I ha hs hx r⟩
      · rw [if_neg hji] at hl
        obtain ⟨u, na, ru⟩ := hls j y dj hj hl
        have hyx : y ≠ x := fun z => hji (hu j (z ▸ hj))
        refine ⟨u, ?_, vr_set I ha hs hx ru⟩
        rcases na with ⟨h1, h2⟩ | ⟨h1, c, h2, h3⟩
        · exact .inl ⟨h1, (if_neg hyx).trans h2⟩
        · refine .inr ⟨h1, c, h2, ?_⟩
          have hne : c ≠ e.locals := fun z => (List.nodup_cons.mp I.nd).1 (z ▸ lookup_mem h2)
          obtain ⟨o, e', hd⟩ := h3
          exact ⟨o, (hs.2 c hne).trans e', hd⟩
    · obtain ⟨u, o, e', hd⟩ := I.cells c hc
      have hne : c ≠ e.locals := fun z => (List.nodup_cons.mp I.nd).1 (z ▸ hc)
      exact ⟨u, o, (hs.2 c hne).trans e', hd⟩
  · obtain ⟨v₀, hv₀⟩ := I.cells c (lookup_mem hc)
    refine wpAny_storeName_cell I.kind hk hc hv₀ fun h' hn hs => ?_
    have ha : c ∈ ownOf' e := .tail _ (lookup_mem hc)
    have hx : ∃ o, h'.get? c = some o := let ⟨o, e', _⟩ := hn; ⟨o, e'⟩
    have hcl : c ≠ e.locals := fun z => (List.nodup_cons.mp I.nd).1 (z ▸ lookup_mem hc)
    refine q h' s.toks (set_post I ha hs hx) ⟨fun b o e' => (set_post I ha hs hx).base b o e', ff_set I.ff hs ?_ (fun hf => ?_), (set_post I ha hs hx).sr, I.kind, I.glob, I.bi, ⟨m, ?_, fun j y dj hj hl => ?_⟩, I.nd, I.own, fun c' hc' => ?_⟩
    · obtain ⟨o, e', hd⟩ := hn
      exact ⟨o, e', fun vs q => by rw [hd] at q; cases q⟩
    · exfalso
      obtain ⟨_, o, es, ep, e', hd⟩ := I.ff.dict c hf
      obtain ⟨o', e'', hd'⟩ := hv₀
      rw [e'] at e''; cases e''
      rw [hd] at hd'; cases hd'
    · exact hm.sameBut hs (Ne.symm hcl)
    · unfold upd at hl
      by_cases hji : j = i
      · subst hji
        rw [if_pos rfl] at hl
        cases hl
        obtain rfl : x = y := Option.some.inj (ht.symm.trans hj)
        exact ⟨v, .inr ⟨.inl hk, c, hc, hn⟩, vr_set I ha hs hx r⟩
      · rw [if_neg hji] at hl
        obtain ⟨u, na, ru⟩ := hls j y dj hj hl
        have hyx : y ≠ x := fun z => hji (hu j (z ▸ hj))
        refine ⟨u, ?_, vr_set I ha hs hx ru⟩
        rcases na with ⟨h1, h2⟩ | ⟨h1, c', h2, h3⟩
        · exact .inl ⟨h1, h2⟩
        · refine .inr ⟨h1, c', h2, ?_⟩
          have hne : c' ≠ c := fun z => by
            subst z
            have hp : e.cells.Pairwise fun x y => x.2 ≠ y.2 := List.pairwise_map.mp (List.nodup_cons.mp I.nd).2
            exact hyx (name_of_addr hp (mem_of_lookup h2) (mem_of_lookup hc))
          obtain ⟨o, e', hd⟩ := h3
          exact ⟨o, (hs.2 c' hne).trans e', hd⟩
    · by_cases hcc : c' = c
      · subst hcc; exact ⟨_, hn⟩
      · obtain ⟨u, o, e', hd⟩ := I.cells c' hc'
        exact ⟨u, o, (hs.2 c' hcc).trans e', hd⟩

theorem sndS_asg {x : Str} {i : Nat} {value : Expr} {a : ME} {p' pos : Pos} (ht : tbl[i]? = some x) (hu : ∀ j, tbl[j]? = some x → j = i) (hk : e.kindOf x = some .local ∨ (e.kindOf x = some .cell ∧ ∃ c, e.cells.lookup x = some c))
    (h : ∀ loc, Snd W cls n e tbl loc gv mv O value a) (hs : swapsWith value (some (.Name x p')) pos.line e = pure false) : SndS W cls n e tbl gv mv O (exec (.Assign [.Name x p'] value pos) e) (.asg i a) := by
  refine ⟨?_⟩
  intro loc σ Q E q A fr s hid ak I
  refine wpAny_Assign_Name (((h loc).out σ _ E q).then ak I (fun _ _ q => q.toSt I) fun v h₁ tk₁ hid₁ d σ₁ p I₁ r q => ?_) hs
  have p' : Post W (ownOf' e) s.heap hid h₁ hid₁ σ₁ := p.wider fun _ q => nomatch q
  exact store_rule (s := { s with heap := h₁, toks := tk₁ }) ht hu hk I₁ r fun h₂ tk₂ p₂ I₂ => ⟨h₂, tk₂, hid₁, .next, _, σ₁, rfl, p'.trans p₂, I₂, rfl, q⟩

theorem sndS_ret {x : Expr} {a : ME} {pos : Pos} (h : ∀ loc, Snd W cls n e tbl loc gv mv O x a) : SndS W cls n e tbl gv mv O (exec (.Return (some x) pos) e) (.ret a) := by
  refine ⟨?_⟩
  intro loc σ Q E q A fr s hid ak I
  refine wpAny_Return_some (((h loc).out σ _ E q).then ak I (fun _ _ q => q.toSt I) fun v h₁ tk₁ hid₁ d σ₁ p I₁ r q => ?_)
  exact ⟨h₁, tk₁, hid₁, .ret d, loc, σ₁, rfl, p.wider (fun _ q => nomatch q), I₁, ⟨v, rfl, r⟩, q⟩

theorem sndS_ite {c : Expr} {t : ME} {body orelse : List Stmt} {a b : MS} {pos : Pos} (hc : ∀ loc, SndT W cls n e tbl loc gv mv O c t) (ha : SndS W cls n e tbl gv mv O (execs body e) a) (hb : SndS W cls n e tbl gv mv O (execs orelse e) b) :
    SndS W cls n e tbl gv mv O (exec (.If c body orelse pos) e) (.ite t a b) := by
  refine ⟨?_⟩
  intro loc σ Q E q A fr s hid ak I
  refine wpAny_If (((hc loc).out σ (fun t σ => match t with | true => wpS gv mv O a loc σ Q E | false => wpS gv mv O b loc σ Q E) E q).then ak I (fun _ _ q => q.toSt I) fun v h₁ tk₁ hid₁ σ₁ p I₁ q => ?_)
  have p' : Post W (ownOf' e) s.heap hid h₁ hid₁ σ₁ := p.wider fun _ q => nomatch q
  cases v with
  | true => exact wpAny_mono (ha.out loc σ₁ Q E q A fr { s with heap := h₁, toks := tk₁ } hid₁ ak I₁) (fun _ _ q => StQ.lift p' q) fun _ _ q => StE.lift p' q
  | false => exact wpAny_mono (hb.out loc σ₁ Q E q A fr { s with heap := h₁, toks := tk₁ } hid₁ ak I₁) (fun _ _ q => StQ.lift p' q) fun _ _ q => StE.lift p' q
theorem sndS_expr {x : Expr} {a : ME} {pos : Pos} (h : ∀ loc, Snd W cls n e tbl loc gv mv O x a) (hi : interactive e = false) (hs : swapsWith x none pos.line e = pure false) : SndS W cls n e tbl gv mv O (exec (.Expr x pos) e) (.expr a) := by
  refine ⟨?_⟩
  intro loc σ Q E q A fr s hid ak I
  refine wpAny_Expr_any (((h loc).out σ _ E q).then ak I (fun _ _ q => q.toSt I) fun v h₁ tk₁ hid₁ d σ₁ p I₁ r q => ?_) hi hs
  exact ⟨h₁, tk₁, hid₁, .next, loc, σ₁, rfl, p.wider (fun _ q => nomatch q), I₁, rfl, q⟩
theorem sndS_brk {pos : Pos} : SndS W cls n e tbl gv mv O (exec (.Break pos) e) .brk :=
  ⟨fun loc σ _ _ q _ _ s hid _ I => wpAny_Break ⟨s.heap, s.toks, hid, .brk, loc, σ, rfl, Post.refl I.sr I.base, I, rfl, q⟩⟩
end
end Mine
end
section
set_option tactic.hygienic false
open PySem PySem.W PyProof.Rows PySem.Spec PySem.Calls PySem.Builtin.Str
set_option Elab.async false
set_option maxRecDepth 100000
set_option autoImplicit false
namespace Mine

section
variable {M : Model} {A : Around} {E : Value → Shared → Prop} {s : Shared}

theorem entry_land {base : Heap} {env : Env} {outer : List Env} {L e : Addr} {oe : Obj} {vs : Array Value} {head : Value} {hadNext : Bool} {Q : Unit → Shared → Prop}
    (hfr : A.frames = some (env :: outer)) (hl : s.heap.FunFrames base (env :: outer)) (hf : env.frame = some L) (he : s.heap.get? e = some oe) (hd : oe.data = .fields vs) (hsz : 1 < vs.size)
    (q : ∀ h' T oT ts, (∀ b o, s.heap.get? b = some o → b ≠ e → (∃ sl, h'.get? b = some { o with slots := sl }) ∧ (b ∉ (env :: outer).filterMap (·.frame) → h'.get? b = some o)) → s.heap.get? T = none →
      h'.get? e = some (oe.mapFields (·.setIfInBounds 1 (.ref T))) → T ≠ e → h'.get? T = some oT → oT.data = .fields ts → ts[3]? = some .none → Q () { s with heap := h' }) :
    wpAny M A (do let a ← frameOf env; let pl ← entryPlaceOf L hadNext; let b ← EntryCells.newEntry head a .none (rawInt L) .none pl; setField (.ref e) 1 b) (fun _ s' => wpAny M A (setFlight (.ref e) none) Q E s') E s := by
  have hene : e ∉ (env :: outer).filterMap (·.frame) := fun hm => by
    obtain ⟨_, o, ho, hnf⟩ := hl.mem hm
    rw [he] at ho; injection ho with ho; subst ho; exact hnf vs hd
  refine wpAny_bind (wpAny_frameOf_fun hfr hl hf fun h₁ hs₁ => ?_)
  refine wpAny_bind (wpAny_entryPlaceOf fun pl hpl => ?_)
  unfold EntryCells.newEntry newFields
  refine wpAny_bind (wpAny_newObj_type ?_ (hpl.sizeOk5 _ _ _ _ _))
  have he₁ : h₁.get? e = some oe := (hs₁.2.1 e hene).trans he
  have he₂ := Heap.get?_push_of_some (h := h₁) { cls := .type "traceback", dict := none, data := .fields ([head, .ref L, .none, rawInt L, .none] ++ (if pl.isEmpty then List.replicate 6 Value.none else pl)).toArray } he₁
  refine wpAny_setField he₂ hd hsz ?_
  have hTe : h₁.objs.size ≠ e := Nat.ne_of_gt (Heap.lt_size he₁)
  have hd₃ := Obj.data_mapFields hd (·.setIfInBounds 1 (Value.ref h₁.objs.size))
  have he₃ := Heap.get?_update_self (Obj.mapFields (·.setIfInBounds 1 (Value.ref h₁.objs.size))) he₂ (Obj.isFreed_of_fields hd₃)
  have hT₃ := (Heap.get?_update_other (h₁.push { cls := .type "traceback", dict := none, data := .fields ([head, .ref L, .none, rawInt L, .none] ++ (if pl.isEmpty then List.replicate 6 Value.none else pl)).toArray })
    (Obj.mapFields (·.setIfInBounds 1 (Value.ref h₁.objs.size))) (Ne.symm hTe)).trans (Heap.get?_push_size h₁ rfl)
  unfold setFlight
  refine wpAny_bind (wpAny_field he₃ hd₃ (x := .ref h₁.objs.size) (by simp [hsz]) ?_)
  rw [if_pos (show (Value.ref h₁.objs.size != Value.none) = true from by simp)]
  refine wpAny_setField hT₃ rfl (by simp only [List.size_toArray, List.length_append, List.length_cons, List.length_nil] <;> omega) ?_
  have keep : ∀ b o, b ≠ e → h₁.get? b = some o →
      (((h₁.push { cls := .type "traceback", dict := none, data := .fields ([head, .ref L, .none, rawInt L, .none] ++ (if pl.isEmpty then List.replicate 6 Value.none else pl)).toArray }).update e (Obj.mapFields (·.setIfInBounds 1 (Value.ref h₁.objs.size)))).update h₁.objs.size
        (Obj.mapFields (·.setIfInBounds 3 ((none : Option Addr).elim Value.none fun f => rawInt f)))).get? b = some o := fun b o hbe hb => by
    have hbT : h₁.objs.size ≠ b := Nat.ne_of_gt (Heap.lt_size hb)
    rw [Heap.get?_update_other _ _ hbT, Heap.get?_update_other _ _ (Ne.symm hbe)]
    exact Heap.get?_push_of_some _ hb
  refine q _ h₁.objs.size _ _ (fun b o hb hbe => ⟨?_, fun hbL => ?_⟩) ?_ ?_ hTe (Heap.get?_update_self _ hT₃ (Obj.isFreed_of_fields (Obj.data_mapFields rfl _))) (Obj.data_mapFields rfl _) (by first | (simp; done) | (rcases hpl with rfl | ⟨_, _, _, _, _, _, _, rfl⟩ <;> simp))
  · obtain ⟨sl, e'⟩ := hs₁.2.2 b o hb
    exact ⟨sl, keep b _ hbe e'⟩
  · exact keep b o hbe ((hs₁.2.1 b hbL).trans hb)
  · exact Heap.get?_none_of_le (Nat.le_of_eq hs₁.1.symm)
  · rw [Heap.get?_update_other _ _ hTe]; exact he₃
end

structure Landed (cls : Xc → Addr) (h₁ : Heap) (Ls : List Addr) (x : Xc) (ea : Addr) (h h' : Heap) : Prop where
  keep : ∀ b o, h.get? b = some o → (∀ vs, o.data ≠ .fields vs) → ∃ sl, h'.get? b = some { o with slots := sl }
  same : ∀ b o, h.get? b = some o → b ∉ Ls → ((∃ o₁, h₁.get? b = some o₁) ∨ ∀ vs, o.data ≠ .fields vs) → h'.get? b = some o
  ex : ExR cls h₁ h' x ea

section
variable {M : Model} {A : Around} {E : Value → Shared → Prop} {s : Shared} {cls : Xc → Addr}

theorem mapFields_cls (o : Obj) (f : Array Value → Array Value) : (o.mapFields f).cls = o.cls := Obj.cls_mapFields _ _
theorem mapFields_dict (o : Obj) (f : Array Value → Array Value) : (o.mapFields f).dict = o.dict := by
  obtain ⟨c, d, dt, sl⟩ := o
  cases dt <;> rfl

theorem note_land {base h₁ : Heap} {env : Env} {outer : List Env} {L ea : Addr} {x : Xc} {Q : Unit → Shared → Prop}
    (hfr : A.frames = some (env :: outer)) (hl : s.heap.FunFrames base (env :: outer)) (hf : env.frame = some L) (r : ExR cls h₁ s.heap x ea)
    (hL : ∀ a ∈ (env :: outer).filterMap (·.frame), ∃ o, h₁.get? a = some o) (al : ∀ b o, h₁.get? b = some o → ∃ o', s.heap.get? b = some o')
    (q : ∀ h', Landed cls h₁ ((env :: outer).filterMap (·.frame)) x ea s.heap h' → Q () { s with heap := h' }) : wpAny M A (noteFrame (.ref ea) env) (fun _ s' => wpAny M A (setFlight (.ref ea) none) Q E s') E s := by
  obtain ⟨hn, oe, vs, dx, l, n, a0, h1, h2, h3, h4, h5, h6, h7, h8, h9⟩ := r
  have hdL : dx ∉ (env :: outer).filterMap (·.frame) := fun hm => by obtain ⟨o, e⟩ := hL dx hm; rw [h6] at e; cases e
  have hde : dx ≠ ea := fun z => by rw [z, h1] at h7; cases h7; cases h3
  have sz0 : 0 < vs.size := (Array.getElem?_eq_some_iff.mp h4).1
  unfold noteFrame
  simp only [hf]
  rcases h9 with h9 | ⟨T, oT, ts, t1, t2, t3, t4, t5, t6⟩
  · have hsz : 1 < vs.size := (Array.getElem?_eq_some_iff.mp h9).1
    refine wpAny_bind (wpAny_field h1 h3 h9 ?_)
    rw [if_neg (by decide)]
    refine entry_land hfr hl hf h1 h3 hsz fun h' T oT ts k1 k2 k3 k4 k5 k6 k7 => q h' ⟨fun b o hb hnf => ?_, fun b o hb hbL hor => ?_, hn, _, _, dx, l, n, a0, k3, ?_, Obj.data_mapFields h3 _, ?_, ?_, h6, ?_, h8, .inr ⟨T, oT, ts, ?_, ?_, k4, k5, k6, k7⟩⟩
    · exact (k1 b o hb fun z => by rw [z, h1] at hb; cases hb; exact hnf vs h3).1
    · refine (k1 b o hb fun z => ?_).2 hbL
      subst z
      rcases hor with ⟨o₁, e⟩ | hnf
      · rw [hn] at e; cases e
      · rw [h1] at hb; cases hb; exact hnf vs h3
    · rw [mapFields_cls]; exact h2
    · rw [Array.getElem?_setIfInBounds_ne (by decide)]; exact h4
    · rw [mapFields_dict]; exact h5
    · exact (k1 dx _ h7 hde).2 hdL
    · simp [hsz]
    · exact none_back al k2
  · have hsz : 1 < vs.size := (Array.getElem?_eq_some_iff.mp t1).1
    have hsz3 : 3 < ts.size := (Array.getElem?_eq_some_iff.mp t6).1
    refine wpAny_bind (wpAny_field h1 h3 t1 ?_)
    rw [if_pos (show (Value.ref T != Value.none) = true from by simp)]
    refine wpAny_bind (wpAny_field t4 t5 t6 ?_)
    rw [if_neg (show ¬ ((Value.none == rawInt L) = true) from by simp [rawInt])]
    refine wpAny_bind (wpAny_setField t4 t5 hsz3 ?_)
    have other : ∀ b, b ≠ T → (s.heap.update T (Obj.mapFields (·.setIfInBounds 3 Value.none))).get? b = s.heap.get? b := fun b hb => Heap.get?_update_other _ _ (Ne.symm hb)
    have noRecord : ∀ b o, s.heap.get? b = some o → (∀ vs, o.data ≠ .fields vs) → b ≠ T := fun b o hb hnf z => by rw [z, t4] at hb; cases hb; exact hnf ts t5
    have hdT : dx ≠ T := fun z => by rw [z, t4] at h7; cases h7; cases t5
    refine entry_land (s := { s with heap := s.heap.update T (Obj.mapFields (·.setIfInBounds 3 Value.none)) }) hfr (hl.of_keeps fun b o hb hnf => ⟨o, (other b (noRecord b o hb hnf)).trans hb, rfl⟩) hf ((other ea (Ne.symm t3)).trans h1) h3 hsz
      fun h' T' oT' ts' k1 k2 k3 k4 k5 k6 k7 => q h' ⟨fun b o hb hnf => ?_, fun b o hb hbL hor => ?_, hn, _, _, dx, l, n, a0, k3, ?_, Obj.data_mapFields h3 _, ?_, ?_, h6, ?_, h8, .inr ⟨T', oT', ts', ?_, ?_, k4, k5, k6, k7⟩⟩
    · exact (k1 b o ((other b (noRecord b o hb hnf)).trans hb) fun z => by rw [z, h1] at hb; cases hb; exact hnf vs h3).1
    · have hbe : b ≠ ea := fun z => by
        subst z
        rcases hor with ⟨o₁, e⟩ | hnf
        · rw [hn] at e; cases e
        · rw [h1] at hb; cases hb; exact hnf vs h3
      have hbT : b ≠ T := fun z => by
        subst z
        rcases hor with ⟨o₁, e⟩ | hnf
        · rw [t2] at e; cases e
        · rw [t4] at hb; cases hb; exact hnf ts t5
      exact (k1 b o ((other b hbT).trans hb) hbe).2 hbL
    · rw [mapFields_cls]; exact h2
    · rw [Array.getElem?_setIfInBounds_ne (by decide)]; exact h4
    · rw [mapFields_dict]; exact h5
    · exact (k1 dx _ ((other dx hdT).trans h7) hde).2 hdL
    · simp [hsz]
    · by_cases z : T' = T
      · rw [z]; exact t2
      · rw [other T' z] at k2; exact none_back al k2
end

section
variable {W : Wd} {cls : Xc → Addr} {h₁ h h' : Heap} {fr : List Env} {hid : List Addr} {σ : St} {x : Xc} {ea : Addr}

theorem Landed.told (l : Landed cls h₁ (fr.filterMap (·.frame)) x ea h h') (sr : SR W σ hid h) (ff : FF W fr hid h) : ∀ a ∈ hid, ∀ o, h.get? a = some o → h'.get? a = some o := fun a ha o ho => by
  obtain ⟨ob, e, hd⟩ := sr.there ha
  rw [ho] at e; cases e
  exact l.same a o ho (fun z => (ff.dict a z).1 ha) (.inr hd)
theorem Landed.base (l : Landed cls h₁ (fr.filterMap (·.frame)) x ea h h') (b₁ : W.hT.StaysIn h₁) (b : W.hT.StaysIn h) (ff : FF W fr hid h) : W.hT.StaysIn h' := fun a o ho => by
  refine l.same a o (b a o ho) (fun z => ?_) (.inl ⟨o, b₁ a o ho⟩)
  have := (ff.ff.mem z).1
  rw [ho] at this; cases this
theorem Landed.seqk (l : Landed cls h₁ (fr.filterMap (·.frame)) x ea h h') (ff : FF W fr hid h) : SeqK hid h h' := fun b o xs n ho hd _ => by
  refine l.same b o ho (fun z => ?_) (.inr fun vs q => by rw [hd] at q; cases q)
  obtain ⟨_, o', es, ep, e, hd'⟩ := ff.dict b z
  rw [ho] at e; cases e
  rw [hd] at hd'; cases hd'
theorem Landed.evo {ex : List Addr} (l : Landed cls h₁ (fr.filterMap (·.frame)) x ea h h') (p : Evo ex h₁ h) (ff : FF W fr hid h) : Evo ex h₁ h' := by
  have step : ∀ b o₁ o, h₁.get? b = some o₁ → h.get? b = some o → ∃ o', h'.get? b = some o' ∧ SameD o o' := fun b o₁ o e₁ e => by
    by_cases hb : b ∈ fr.filterMap (·.frame)
    · obtain ⟨_, o', es, ep, e', hd⟩ := ff.dict b hb
      rw [e] at e'; cases e'
      obtain ⟨sl, e''⟩ := l.keep b o e fun vs q => by rw [hd] at q; cases q
      exact ⟨_, e'', .inr ⟨⟨es, ep, hd⟩, rfl, rfl, rfl⟩⟩
    · exact ⟨o, l.same b o e hb (.inl ⟨o₁, e₁⟩), SameD.refl o⟩
  refine ⟨fun b o₁ e₁ => ?_, fun b o₁ e₁ hb => ?_⟩
  · obtain ⟨o, e⟩ := p.alive b o₁ e₁
    obtain ⟨o', e', _⟩ := step b o₁ o e₁ e
    exact ⟨o', e'⟩
  · obtain ⟨o, e, s⟩ := p.keep b o₁ e₁ hb
    obtain ⟨o', e', s'⟩ := step b o₁ o e₁ e
    exact ⟨o', e', s.trans s'⟩
theorem Landed.sr (l : Landed cls h₁ (fr.filterMap (·.frame)) x ea h h') (sr : SR W σ hid h) (ff : FF W fr hid h) : SR W σ hid h' := sr.keepS (l.seqk ff) (l.told sr ff)
end
end Mine
end
section
set_option tactic.hygienic false
open PySem PySem.W PyProof.Rows PySem.Spec PySem.Calls PySem.Builtin.Str
set_option Elab.async false
set_option maxRecDepth 100000
set_option autoImplicit false
namespace Mine

noncomputable abbrev envF (qual : Str) (scope : Scope) (L f : Addr) (cd : Value) : Env := envX qual scope L f cd (cellsFrom (L + 1) scope.names [])

theorem bindL_other {ko : Str → Option NameKind} : ∀ {l : List (Str × Value)} {m : Str → Option Value} {x : Str}, (∀ p ∈ l, p.1 ≠ x) → bindL ko l m x = m x
  | [], _, _, _ => rfl
  | (y, v) :: r, m, x, h => by
    rw [bindL, bindL_other fun p hp => h p (.tail _ hp)]
    split
    · exact if_neg (Ne.symm (h (y, v) (.head _)))
    · rfl
theorem bindC_other {ko : Str → Option NameKind} : ∀ {l : List (Str × Value)} {m : Str → Option Value} {x : Str}, (∀ p ∈ l, p.1 ≠ x) → bindC ko l m x = m x
  | [], _, _, _ => rfl
  | (y, v) :: r, m, x, h => by
    rw [bindC, bindC_other fun p hp => h p (.tail _ hp)]
    split
    · rfl
    · exact if_neg (Ne.symm (h (y, v) (.head _)))
theorem bindL_at {ko : Str → Option NameKind} : ∀ {xs : List Str} {vs : List Value} {m : Str → Option Value} {i : Nat} {x : Str} {v : Value}, xs.Nodup → xs[i]? = some x → vs[i]? = some v → ko x = some .local → bindL ko (xs.zip vs) m x = some v
  | x' :: xs, v' :: vs, m, 0, x, v, hn, hx, hv, hk => by
    cases hx; cases hv
    have hno : ∀ p ∈ xs.zip vs, p.1 ≠ x' := fun p hp q => (List.nodup_cons.mp hn).1 (by rw [← q]; exact (List.of_mem_zip hp).1)
    rw [List.zip_cons_cons, bindL, bindL_other hno, if_pos hk, if_pos rfl]
  | x' :: xs, v' :: vs, m, i + 1, x, v, hn, hx, hv, hk => by
    rw [List.zip_cons_cons, bindL]
    exact bindL_at (List.nodup_cons.mp hn).2 (by simpa using hx) (by simpa using hv) hk
  | [], _, _, _, _, _, _, hx, _, _ => by simp at hx
  | _ :: _, [], _, _, _, _, _, _, hv, _ => by simp at hv
theorem bindC_at {ko : Str → Option NameKind} : ∀ {xs : List Str} {vs : List Value} {m : Str → Option Value} {i : Nat} {x : Str} {v : Value}, xs.Nodup → xs[i]? = some x → vs[i]? = some v → ko x ≠ some .local → bindC ko (xs.zip vs) m x = some v
  | x' :: xs, v' :: vs, m, 0, x, v, hn, hx, hv, hk => by
    cases hx; cases hv
    have hno : ∀ p ∈ xs.zip vs, p.1 ≠ x' := fun p hp q => (List.nodup_cons.mp hn).1 (by rw [← q]; exact (List.of_mem_zip hp).1)
    rw [List.zip_cons_cons, bindC, bindC_other hno, if_neg hk, if_pos rfl]
  | x' :: xs, v' :: vs, m, i + 1, x, v, hn, hx, hv, hk => by
    rw [List.zip_cons_cons, bindC]
    exact bindC_at (List.nodup_cons.mp hn).2 (by simpa using hx) (by simpa using hv) hk
  | [], _, _, _, _, _, _, hx, _, _ => by simp at hx
  | _ :: _, [], _, _, _, _, _, _, hv, _ => by simp at hv

structure Fn (W : Wd) (f : Addr) (qual : Str) (ps : List Str) (body : List Stmt) (scope : Scope) (cdv : Value) : Prop where
  at_ : ∃ name params dV kV doc pm an ct oc od osl, W.K.lookup f = some ⟨oc, od, .func (fnX name qual params body scope [] dV kV doc pm an cdv ct), osl⟩ ∧
    ∀ s vs, vs.length = ps.length → BindsTo s (fnX name qual params body scope [] dV kV doc pm an cdv ct) ⟨vs, []⟩ (ps.zip vs)
  code : codeIn W.K cdv qual = true
  co : scope.isCoroutine = false
  gen : scope.isGenerator = false
  kind : scope.kind = .function
  nd : ps.Nodup
  kinds : ∀ x ∈ ps, scope.names.lookup x = some .local ∨ (scope.names.lookup x = some .cell ∧ ∀ n, ((cellsFrom n scope.names []).lookup x).isSome = true)
  cells : ((cellsFrom 0 scope.names []).map (·.1)).Nodup

structure Tbl (ps tbl : List Str) : Prop where
  nd : tbl.Nodup
  params : ∀ i, i < ps.length → tbl[i]? = ps[i]?

section
variable {W : Wd} {cls : Xc → Addr} {n n₀ : Nat} {gv : Nat → V} {mv : Str → V}

noncomputable def args0 (args : List V) : Loc := fun i => args[i]?

structure StF (W : Wd) (cls : Xc → Addr) (n : Nat) (e : Env) (tbl : List Str) (gv : Nat → V) (mv : Str → V) (O : V → List V → St → (V → St → Prop) → (Xc → St → Prop) → Prop) (t : Sem Flow) (b : MS) : Prop where
  out : ∀ loc σ Q E, wpS gv mv O b loc σ Q E → ∀ A outer s hid, AOK A (e :: outer) n → Inv W e tbl loc (e :: outer) hid σ s.heap → wpAny (model W.prog W.w) A t (StQ W e tbl (e :: outer) s hid Q) (StE W cls e tbl (e :: outer) s hid E) s
theorem SndS.stF {W : Wd} {cls : Xc → Addr} {n : Nat} {e : Env} {tbl : List Str} {gv : Nat → V} {mv : Str → V} {O : V → List V → St → (V → St → Prop) → (Xc → St → Prop) → Prop} {t : Sem Flow} {b : MS} (h : SndS W cls n e tbl gv mv O t b) : StF W cls n e tbl gv mv O t b :=
  ⟨fun loc σ Q E q A _ s hid ak I => h.out loc σ Q E q A _ s hid ak I⟩

noncomputable def CodeW (W : Wd) (cls : Xc → Addr) (n : Nat) (f : Value) (args : List V) (σ : St) (Q : V → St → Prop) (E : Xc → St → Prop) : Prop :=
  ∀ A fr s hid vs, AOK A fr n → W.hT.StaysIn s.heap → FF W fr hid s.heap → SR W σ hid s.heap → VRs s.heap hid args vs → codeAny (model W.prog W.w) A (.call f ⟨vs, []⟩) (fun r s' => match r with | .ok (.ret v) => OkQ W s hid Q v s' | .ok _ => False | .error e => ErQ W cls s hid E e s') s
theorem CodeW.call {W : Wd} {cls : Xc → Addr} {n : Nat} {f : Value} {args : List V} {σ : St} {Q : V → St → Prop} {E : Xc → St → Prop} (h : CodeW W cls n f args σ Q E) : CallW W cls n f args σ Q E :=
  fun A fr s hid vs a b c d e => wpAny_call (h A fr s hid vs a b c d e)

theorem codeW_ofF {f : Addr} {qual : Str} {ps tbl : List Str} {body : List Stmt} {scope : Scope} {cdv : Value} {b : MS} (hf : Fn W f qual ps body scope cdv) (ht : Tbl ps tbl)
    (hb : ∀ L, StF W cls n (envF qual scope L f cdv) tbl gv mv (Orc W cls n₀) (execs body (envF qual scope L f cdv)) b) {args : List V} {σ : St} {Q : V → St → Prop} {E : Xc → St → Prop} (hl : args.length = ps.length)
    (q : wpS gv mv (Orc W cls n₀) b (args0 args) σ (fun fl _ σ => match fl with | .ret d => Q d σ | .next => Q .none σ | .brk => False) E) : CodeW W cls (n + 1) (.ref f) args σ Q E := by
  intro A fr s hid vs ak base ff sr rs
  obtain ⟨name, params, dV, kV, doc, pm, an, ct, oc, od, osl, hK, hbind⟩ := hf.at_
  have X := W.X.keeps base
  have hvs : vs.length = ps.length := rs.length ▸ hl
  have hlim : s.heap.NoLimit := W.T.nolimit.keeps base
  refine codeAny_call_function (by have := ak.depth; omega) (X _ _ hK) rfl hf.co hf.gen rfl (codeRec_of X hf.code) (hbind _ vs hvs _ _ _ _ ?_)
  refine wpAny_newFunctionEnv_cells hf.kind (fun x hx => ?_) fun env' he s' x => ?_
  · rcases hf.kinds x.1 (List.of_mem_zip hx).1 with h | h
    · exact .inl h
    · exact .inr ⟨h.1, h.2 _⟩
  subst he
  have hk₁ := x.toInCall.keep
  refine ⟨hlim.keeps hk₁, codeAny_func ?_⟩
  obtain ⟨h₁, tk, rfl, _⟩ := x.done
  show wpAny (model W.prog W.w) (A.deeper (envF qual scope s.heap.objs.size f cdv)) (execs body (envF qual scope s.heap.objs.size f cdv)) _ _ _
  have hz : s.heap.objs.size ≤ h₁.objs.size := Nat.le_of_lt (x.toInCall.ns.lt)
  have hnL : ∀ {a : Addr}, s.heap.objs.size ≤ a → a ∉ hid := fun h q => Nat.lt_irrefl _ (Nat.lt_of_lt_of_le (sr.lt q) h)
  have b₁ : W.hT.StaysIn h₁ := fun b o e => hk₁ b o (base b o e)
  have ev : Evo ([] ++ hid) s.heap h₁ := Evo.of_stays hk₁ hz
  have habove : ∀ c ∈ (cellsFrom (s.heap.objs.size + 1) scope.names []).map (·.2), s.heap.objs.size < c := fun c hc => by
    obtain ⟨p, hp, rfl⟩ := List.mem_map.mp hc
    exact x.above p.1 p.2 hp
  have hnames : ((cellsFrom (s.heap.objs.size + 1) scope.names []).map (·.1)).Nodup := cellsFrom_names scope.names 0 (s.heap.objs.size + 1) [] [] rfl ▸ hf.cells
  have hcell : ∀ p ∈ cellsFrom (s.heap.objs.size + 1) scope.names [], h₁.IsCell p.2 (bindC (envF qual scope s.heap.objs.size f cdv).kindOf (ps.zip vs) (fun _ => none) p.1) := fun p hp => x.cell p.1 p.2 (lookup_of_mem_nodup hnames hp)
  have I₁ : Inv W (envF qual scope s.heap.objs.size f cdv) tbl (args0 args) (envF qual scope s.heap.objs.size f cdv :: fr) hid σ h₁ := by
    refine ⟨b₁, ⟨⟨by rw [hf.kind]; decide, ⟨s.heap.objs.size, ?_⟩, ?_⟩, fun L hL => ?_⟩, sr.keep ev (fun _ q => nomatch q) (fun a _ o e => hk₁ a o e), hf.kind, rfl, rfl, ⟨_, x.toInCall.ns, fun i y d hy hd => ?_⟩, ?_, fun a ha => ?_, fun c hc => ?_⟩
    · obtain ⟨o, es, ep, e', hd, _⟩ := x.toInCall.ns
      exact ⟨o, rfl, hT_none base (Nat.le_refl _), e', fun vs q => by rw [hd] at q; cases q⟩
    · exact funFrames_of (fun b o e hd => ⟨o, hk₁ b o e, hd⟩) ff.ff
    · have hL' : L = s.heap.objs.size ∨ L ∈ fr.filterMap (·.frame) := by
        rw [List.filterMap_cons] at hL
        rcases List.mem_cons.mp hL with h | h
        · exact .inl h
        · exact .inr h
      rcases hL' with rfl | hL
      · obtain ⟨o, es, ep, e', hd, _⟩ := x.toInCall.ns
        exact ⟨hnL (Nat.le_refl _), o, es, ep, e', hd⟩
      · obtain ⟨hn, o, es, ep, e', hd⟩ := ff.dict L hL
        exact ⟨hn, o, es, ep, hk₁ _ _ e', hd⟩
    · have hi : i < args.length := (List.getElem?_eq_some_iff.mp hd).1
      have hy' : ps[i]? = some y := (ht.params i (hl ▸ hi)).symm.trans hy
      obtain ⟨v, hv, r⟩ := rs.get hd
      refine ⟨v, ?_, VR.evo (own := []) ev (fun _ q => nomatch q) (Ext.refl _ _) r⟩
      rcases hf.kinds y (List.mem_of_getElem? hy') with h | ⟨h, hc⟩
      · exact .inl ⟨h, bindL_at hf.nd hy' hv h⟩
      · obtain ⟨c, hc⟩ := Option.isSome_iff_exists.mp (hc (s.heap.objs.size + 1))
        refine .inr ⟨.inl h, c, hc, ?_⟩
        have := hcell (y, c) (mem_of_lookup hc)
        rw [bindC_at hf.nd hy' hv (by rw [show (envF qual scope s.heap.objs.size f cdv).kindOf y = scope.names.lookup y from rfl, h]; decide)] at this
        exact this
    · refine List.nodup_cons.mpr ⟨fun h => Nat.lt_irrefl _ (habove _ h), List.pairwise_map.mpr x.apart⟩
    · rcases List.mem_cons.mp ha with rfl | ha
      · exact ⟨hT_none base (Nat.le_refl _), hnL (Nat.le_refl _)⟩
      · exact ⟨hT_none base (Nat.le_of_lt (habove a ha)), hnL (Nat.le_of_lt (habove a ha))⟩
    · obtain ⟨p, hp, rfl⟩ := List.mem_map.mp hc
      exact ⟨_, hcell p hp⟩
  have ak₁ : AOK (A.deeper (envF qual scope s.heap.objs.size f cdv)) (envF qual scope s.heap.objs.size f cdv :: fr) n := by
    refine ⟨?_, ak.handled, ?_, ?_⟩
    · show A.frames.map _ = _; rw [ak.frames]; rfl
    · have := ak.depth; show A.depth + 1 + n < _; omega
    · have := ak.units; show A.units + 3 + 16 * n + 64 < _; omega
  refine wpAny_mono ((hb _).out _ _ _ _ q _ _ { s with heap := h₁, toks := tk } hid ak₁ I₁) (fun fl s' g => ?_) fun ev s' g => ?_
  · obtain ⟨h', tk', hid', fl', loc', σ', rfl, p, I', r, q⟩ := g
    have P : Post W [] s.heap hid h' hid' σ' := by
      refine ⟨⟨fun b o e => p.evo.alive b o (hk₁ b o e), fun b o e hb => ?_⟩, ?_, p.sr, p.base⟩
      · have hlt := Heap.lt_size e
        refine p.evo.keep b o (hk₁ b o e) fun h => ?_
        rcases List.mem_append.mp h with h | h
        · rcases List.mem_cons.mp h with rfl | h
          · exact Nat.lt_irrefl _ hlt
          · exact Nat.lt_irrefl _ (Nat.lt_trans hlt (habove b h))
        · exact hb (by simpa using h)
      · obtain ⟨new, e, hn⟩ := p.ext
        exact ⟨new, e, fun a ha => none_back (fun b o e => ⟨o, hk₁ b o e⟩) (hn a ha)⟩
    cases fl' with
    | next => cases r; exact ⟨h', tk', hid', .none, σ', rfl, P, vr_none, q⟩
    | brk => exact q.elim
    | ret d => obtain ⟨v, rfl, r⟩ := r; exact ⟨h', tk', hid', d, σ', rfl, P, r, q⟩
  · obtain ⟨h', tk', hid', xc, ea, loc', σ', rfl, p, I', r, rfl, q⟩ := g
    unfold leaving
    refine wpAny_bind (note_land (s := { s with heap := h', toks := tk' }) ak₁.frames I'.ff.ff rfl r (fun a ha => ?_) p.evo.alive fun h'' ld => ?_)
    · obtain ⟨_, o, _, _, e', _⟩ := I₁.ff.dict a ha
      exact ⟨o, e'⟩
    have ev' := ld.evo p.evo I'.ff
    have P : Post W [] s.heap hid h'' hid' σ' := by
      refine ⟨⟨fun b o e => ev'.alive b o (hk₁ b o e), fun b o e hb => ?_⟩, ?_, ld.sr I'.sr I'.ff, ld.base b₁ I'.base I'.ff⟩
      · have hlt := Heap.lt_size e
        refine ev'.keep b o (hk₁ b o e) fun h => ?_
        rcases List.mem_append.mp h with h | h
        · rcases List.mem_cons.mp h with rfl | h
          · exact Nat.lt_irrefl _ hlt
          · exact Nat.lt_irrefl _ (Nat.lt_trans hlt (habove b h))
        · exact hb (by simpa using h)
      · obtain ⟨new, e, hn⟩ := p.ext
        exact ⟨new, e, fun a ha => none_back (fun b o e => ⟨o, hk₁ b o e⟩) (hn a ha)⟩
    exact ⟨h'', tk', hid', xc, ea, σ', rfl, P, ld.ex.early fun b o e => ⟨o, hk₁ b o e⟩, rfl, q⟩
theorem callW_of {f : Addr} {qual : Str} {ps tbl : List Str} {body : List Stmt} {scope : Scope} {cdv : Value} {b : MS} (hf : Fn W f qual ps body scope cdv) (ht : Tbl ps tbl)
    (hb : ∀ L, SndS W cls n (envF qual scope L f cdv) tbl gv mv (Orc W cls n₀) (execs body (envF qual scope L f cdv)) b) {args : List V} {σ : St} {Q : V → St → Prop} {E : Xc → St → Prop} (hl : args.length = ps.length)
    (q : wpS gv mv (Orc W cls n₀) b (args0 args) σ (fun fl _ σ => match fl with | .ret d => Q d σ | .next => Q .none σ | .brk => False) E) : CallW W cls (n + 1) (.ref f) args σ Q E := (codeW_ofF hf ht (fun L => (hb L).stF) hl q).call
end
end Mine
end
section
set_option tactic.hygienic false
open PySem PySem.W PyProof.Rows PySem.Spec PySem.Calls PySem.Builtin.Str
set_option Elab.async false
set_option maxRecDepth 100000
set_option autoImplicit false
namespace Mine

section
variable {W : Wd} {cls : Xc → Addr} {n n₀ : Nat} {e : Env} {tbl : List Str} {gv : Nat → V} {mv : Str → V} {O : V → List V → St → (V → St → Prop) → (Xc → St → Prop) → Prop}

theorem noErr {s : Shared} {hid : List Addr} {P : Prop} {v : Value} {s' : Shared} (q : ErQ W cls s hid (fun _ _ => False) v s') : P := by
  obtain ⟨_, _, _, _, _, _, _, _, _, _, q⟩ := q; exact q.elim
theorem noStE {fr : List Env} {s : Shared} {hid : List Addr} {P : Prop} {v : Value} {s' : Shared} (q : StE W cls e tbl fr s hid (fun _ _ => False) v s') : P := by
  obtain ⟨_, _, _, _, _, _, _, _, _, _, _, _, q⟩ := q; exact q.elim

inductive WhlI (W : Wd) (e : Env) (tbl : List Str) (fr : List Env) (s : Shared) (hid : List Addr) (K : Nat → Loc → St → Prop) (k : Nat) (s' : Shared) : Prop
  | mk (h' : Heap) (tk : Nat) (hid' : List Addr) (loc' : Loc) (σ' : St) (e1 : s' = { s with heap := h', toks := tk }) (p : Post W (ownOf' e) s.heap hid h' hid' σ') (J : Inv W e tbl loc' fr hid' σ' h') (q : K k loc' σ')

theorem sndS_whl {test : Expr} {t : ME} {body : List Stmt} {b : MS} {pos : Pos} (hc : ∀ loc, SndT W cls n e tbl loc gv mv O test t) (hb : SndS W cls n e tbl gv mv O (execs body e) b) :
    SndS W cls n e tbl gv mv O (exec (.While test body [] pos) e) (.whl t b) := by
  refine ⟨?_⟩
  intro loc σ Q E q A fr s hid ak I
  obtain ⟨k, q⟩ := q
  refine wpAny_While (codeAny_whileLoop (WhlI W e tbl fr s hid fun k loc' σ' => loopW (fun loc σ Q => wpE gv mv O t loc σ (fun d σ => isB d fun b => Q b σ) (fun _ _ => False)) (fun loc σ Q => wpS gv mv O b loc σ Q (fun _ _ => False)) k loc' σ' Q) ?_ k ⟨s.heap, s.toks, hid, loc, σ, rfl, Post.refl I.sr I.base, I, q⟩)
  rintro k s' ⟨h₁, tk₁, hid₁, loc₁, σ₁, rfl, p₁, I₁, q⟩
  cases k with
  | zero => exact q.elim
  | succ k =>
    refine ((hc loc₁).out σ₁ _ _ q).then (s := { s with heap := h₁, toks := tk₁ }) ak I₁ (fun _ _ q => noErr q) fun v h₂ tk₂ hid₂ σ₂ p₂ I₂ q => ?_
    have p12 : Post W (ownOf' e) s.heap hid h₂ hid₂ σ₂ := p₁.trans (p₂.wider fun _ q => nomatch q)
    cases v with
    | false => exact wpAny_execs_nil ⟨h₂, tk₂, hid₂, .next, loc₁, σ₂, rfl, p12, I₂, rfl, q⟩
    | true =>
      refine wpAny_mono (hb.out loc₁ σ₂ _ _ q A fr { s with heap := h₂, toks := tk₂ } hid₂ ak I₂) (fun fl s' g => ?_) fun _ _ q => noStE q
      obtain ⟨h₃, tk₃, hid₃, f, loc₃, σ₃, rfl, p₃, I₃, r, q⟩ := g
      cases f with
      | next => cases r; exact ⟨k, Nat.lt_succ_self k, h₃, tk₃, hid₃, loc₃, σ₃, rfl, p12.trans p₃, I₃, q⟩
      | brk => cases r; exact ⟨h₃, tk₃, hid₃, .next, loc₃, σ₃, rfl, p12.trans p₃, I₃, rfl, q⟩
      | ret d => obtain ⟨v, rfl, r⟩ := r; exact ⟨h₃, tk₃, hid₃, .ret d, loc₃, σ₃, rfl, p12.trans p₃, I₃, ⟨v, rfl, r⟩, q⟩

noncomputable def Touch (wr : List Addr) (h h' : Heap) : Prop := ∀ b o, h.get? b = some o → b ∉ wr → h'.get? b = some o
theorem Touch.of_keep {wr : List Addr} {h h' : Heap} (k : ∀ b o, h.get? b = some o → h'.get? b = some o) : Touch wr h h' := fun b o e _ => k b o e

structure Lone (W : Wd) (e : Env) (fr : List Env) (hid : List Addr) (h : Heap) (I : Addr) : Prop where
  hid : I ∉ hid
  own : I ∉ ownOf' e
  fr : I ∉ fr.filterMap (·.frame)
  new : W.hT.get? I = none
  seq : ∀ o, h.get? I = some o → notSeq o

noncomputable abbrev Lones (W : Wd) (e : Env) (fr : List Env) (hid : List Addr) (h : Heap) (wr : List Addr) : Prop := ∀ I ∈ wr, Lone W e fr hid h I

theorem Touch.seqk {wr hid : List Addr} {h h' : Heap} (t : Touch wr h h') (l : ∀ I ∈ wr, ∀ o, h.get? I = some o → notSeq o) : SeqK hid h h' := fun b o _ _ e hd _ => t b o e fun q => l b q o e _ _ hd

theorem Lones.vr {wr : List Addr} {fr : List Env} {hid : List Addr} {h h' : Heap} (l : Lones W e fr hid h wr) (t : Touch wr h h') {d : V} {v : Value} (r : VR h hid d v) : VR h' hid d v :=
  VR.seqk (t.seqk fun I hI => (l I hI).seq) (Ext.refl _ _) r

theorem Lones.inv {wr : List Addr} {loc : Loc} {fr : List Env} {hid : List Addr} {σ : St} {h h' : Heap} (l : Lones W e fr hid h wr) (t : Touch wr h h') (J : Inv W e tbl loc fr hid σ h) : Inv W e tbl loc fr hid σ h' where
  base := fun b o q => t b o (J.base b o q) fun z => by rw [(l b z).new] at q; cases q
  ff := by
    refine ⟨?_, fun L hL => ?_⟩
    · have : ∀ {fr' : List Env}, (∀ L ∈ fr'.filterMap (·.frame), L ∉ wr) → h.FunFrames W.hT fr' → h'.FunFrames W.hT fr' := by
        intro fr'
        induction fr' with
        | nil => intro _ _; trivial
        | cons e' r ih =>
          intro hne f
          obtain ⟨hk, ⟨L, o, hf, hn, ho, hd⟩, hr⟩ := f
          refine ⟨hk, ⟨L, o, hf, hn, t L o ho (hne L ?_), hd⟩, ih (fun L hL => hne L ?_) hr⟩
          · rw [List.filterMap_cons, hf]; exact .head _
          · rw [List.filterMap_cons, hf]; exact .tail _ hL
      exact this (fun L hL z => (l L z).fr hL) J.ff.ff
    · obtain ⟨hn, o, es, ep, e', hd⟩ := J.ff.dict L hL
      exact ⟨hn, o, es, ep, t L o e' fun z => (l L z).fr hL, hd⟩
  sr := J.sr.keepS (t.seqk fun I hI => (l I hI).seq) fun a ha o ho => t a o ho fun z => (l a z).hid ha
  kind := J.kind
  glob := J.glob
  bi := J.bi
  locs := by
    obtain ⟨m, ⟨o, es, ep, e', hd, r⟩, hls⟩ := J.locs
    refine ⟨m, ⟨o, es, ep, t _ o e' fun z => (l _ z).own (.head _), hd, r⟩, fun i x d ht hl => ?_⟩
    obtain ⟨v, na, r⟩ := hls i x d ht hl
    refine ⟨v, ?_, l.vr t r⟩
    rcases na with ⟨h1, h2⟩ | ⟨h1, c, h2, o, e', hd⟩
    · exact .inl ⟨h1, h2⟩
    · exact .inr ⟨h1, c, h2, o, t _ o e' fun z => (l _ z).own (.tail _ (lookup_mem h2)), hd⟩
  nd := J.nd
  own := J.own
  cells := fun c hc => by
    obtain ⟨v, o, e', hd⟩ := J.cells c hc
    exact ⟨v, o, t _ o e' fun z => (l _ z).own (.tail _ hc), hd⟩

theorem Evo.touch {ex wr : List Addr} {h h₁ h₂ : Heap} (x : Evo ex h h₁) (t : Touch wr h₁ h₂) (hn : ∀ I ∈ wr, h.get? I = none) : Evo ex h h₂ := by
  have ne : ∀ b o, h.get? b = some o → b ∉ wr := fun b o e z => by rw [hn b z] at e; cases e
  exact ⟨fun b o e => let ⟨o', e'⟩ := x.alive b o e; ⟨o', t b o' e' (ne b o e)⟩, fun b o e hb => let ⟨o', e', s⟩ := x.keep b o e hb; ⟨o', t b o' e' (ne b o e), s⟩⟩
theorem Post.touch {own wr : List Addr} {hid hid' : List Addr} {σ' : St} {h h₁ h₂ : Heap} (p : Post W own h hid h₁ hid' σ') (t : Touch wr h₁ h₂) (hI : ∀ I ∈ wr, h.get? I = none) (sr : SR W σ' hid' h₂) (b : W.hT.StaysIn h₂) : Post W own h hid h₂ hid' σ' :=
  ⟨p.evo.touch t hI, p.ext, sr, b⟩

theorem Lone.later {fr : List Env} {hid hid' : List Addr} {h h' : Heap} {I : Addr} {own : List Addr} (l : Lone W e fr hid h I) (hI : ∃ o, h.get? I = some o) (ho : ∀ a ∈ own, a ∈ ownOf' e) {σ' : St} (p : Post W own h hid h' hid' σ') : Lone W e fr hid' h' I := by
  obtain ⟨o, eo⟩ := hI
  obtain ⟨o', e', sd⟩ := p.evo.keep I o eo fun q => (List.mem_append.mp q).elim (fun q => l.own (ho _ q)) l.hid
  refine ⟨fun q => l.hid (p.ext.old eo q), l.own, l.fr, l.new, fun o₂ e₂ => ?_⟩
  rw [e'] at e₂; cases e₂
  intro xs n q
  exact l.seq o eo xs n (sd.data.symm.trans q)
theorem Lone.same {fr : List Env} {hid hid' : List Addr} {h h' : Heap} {I : Addr} {own : List Addr} (l : Lone W e fr hid h I) (ho : ∀ a ∈ own, a ∈ ownOf' e) {σ' : St} (p : Post W own h hid h' hid' σ') {o : Obj} {vs : Array Value} (e₁ : h.get? I = some o) (hd : o.data = .fields vs) : h'.get? I = some o := by
  obtain ⟨o', e', sd⟩ := p.evo.keep I o e₁ fun q => (List.mem_append.mp q).elim (fun q => l.own (ho _ q)) l.hid
  rcases sd with rfl | ⟨⟨es, ep, hd'⟩, _⟩
  · exact e'
  · rw [hd] at hd'; cases hd'
end
end Mine
end
section
set_option tactic.hygienic false
open PySem PySem.W PyProof.Rows PySem.Spec PySem.Calls PySem.Builtin.Str
set_option Elab.async false
set_option maxRecDepth 100000
set_option autoImplicit false
namespace Mine

theorem dig_fin {i : Int} (h : 0 ≤ i ∧ i < 10) : ∃ n : Fin 10, i = ((n.val : Nat) : Int) := ⟨⟨i.toNat, by omega⟩, (Int.toNat_of_nonneg h.1).symm⟩
theorem dig_text {i : Int} (h : 0 ≤ i ∧ i < 10) : Str.ofString (toString i) = ⟨#[48 + i.toNat]⟩ := by
  obtain ⟨n, rfl⟩ := dig_fin h; clear h; revert n; decide +kernel
theorem dig_log {i : Int} (h : 0 ≤ i ∧ i < 10) : i.natAbs.log2 < 1920 := by
  obtain ⟨n, rfl⟩ := dig_fin h; clear h; revert n; decide +kernel
theorem sign_fin {c : Nat} (h : 48 ≤ c ∧ c ≤ 57) : ∃ n : Fin 10, c = 48 + n.val := ⟨⟨c - 48, by omega⟩, (Nat.add_sub_cancel' h.1).symm⟩
theorem sign_num {c : Nat} (h : 48 ≤ c ∧ c ≤ 57) : PySem.intText? (⟨#[c]⟩ : Str) = some ((c : Int) - 48) := by
  obtain ⟨n, rfl⟩ := sign_fin h; clear h; revert n; decide +kernel
theorem str_of_cps {x : Str} {l : List Nat} (h : x.cps.toList = l) : x = ⟨l.toArray⟩ := by
  rw [← h]

theorem alnum_all : (List.range 128).all (fun c => Txt.isalnum (⟨#[c]⟩ : Str) == decide ((48 ≤ c ∧ c ≤ 57) ∨ (65 ≤ c ∧ c ≤ 90) ∨ (97 ≤ c ∧ c ≤ 122))) = true := by decide +kernel
theorem alnum_is {c : Nat} (h : c < 128) : Txt.isalnum (⟨#[c]⟩ : Str) = decide ((48 ≤ c ∧ c ≤ 57) ∨ (65 ≤ c ∧ c ≤ 90) ∨ (97 ≤ c ∧ c ≤ 122)) := by
  have := List.all_eq_true.mp alnum_all c (List.mem_range.mpr h)
  exact eq_of_beq this

section
variable {W : Wd} {cls : Xc → Addr} {n n₀ : Nat} {e : Env} {tbl : List Str} {loc : Loc} {gv : Nat → V} {mv : Str → V} {O : V → List V → St → (V → St → Prop) → (Xc → St → Prop) → Prop}

noncomputable def Boot (W : Wd) (e : Env) (x : Str) (v : Value) : Prop :=
  ∀ {tbl : List Str} {loc : Loc} {p₀ : Pos} {A : Around} {fr : List Env} {s : Shared} {hid : List Addr} {σ : St} {Q : Value → Shared → Prop} {E : Value → Shared → Prop}, Inv W e tbl loc fr hid σ s.heap → Q v s → wpAny (model W.prog W.w) A (eval (.Name x p₀) e) Q E s
theorem boot_of {x : Str} {v : Value} (hx : e.kindOf x = some .globalImplicit) (hg : nsIn W.K mainGlobals x = some none) (hb : bootBuiltins x = some v) (hn : x ≠ "__name__") (hd : (x == ("__debug__" : Str)) = false) : Boot W e x v :=
  fun I q => name_boot hx hg hb hn hd I q

theorem snd_intOf {p₀ pos : Pos} {x : Expr} {a : ME} (hl : Boot W e "int" (.type "int")) (hx : Snd W cls n e tbl loc gv mv O x a) (hs : isStar x = false) : Snd W cls n e tbl loc gv mv O (.Call (.Name "int" p₀) [x] [] pos) (.intOf a) := by
  refine ⟨?_⟩
  intro σ Q E q A fr s hid ak I
  refine Call_ (hl I ?_)
  rw [starEach_cons hs]
  refine PySem.callWith_type1 ((hx.out σ _ E q).then ak I (fun _ _ q => q) fun v h₁ tk₁ hid₁ d σ₁ p I₁ r₁ q => ?_)
  cases d with
  | int i =>
    simp only [VR] at r₁
    obtain ⟨t, rfl⟩ := r₁
    exact call_int_int (OkQ.lift (tk₁ := tk₁) p (Inv.okHere (s := { s with heap := h₁, toks := tk₁ }) (tk := tk₁) I₁ vr_int q))
  | str x =>
    simp only [VR] at r₁
    obtain ⟨t, rfl⟩ := r₁
    obtain ⟨c, hc, hd, q⟩ := q
    obtain rfl := str_of_cps hc
    exact KIN.call_text (sign_num hd) (by simp [PySem.Str.length]) (OkQ.lift p (Inv.okHere (s := { s with heap := h₁, toks := tk₁ }) I₁ vr_int q))
  | _ => exact q.elim

theorem snd_strOf {p₀ pos : Pos} {x : Expr} {a : ME} (hl : Boot W e "str" (.type "str")) (hx : Snd W cls n e tbl loc gv mv O x a) (hs : isStar x = false) : Snd W cls n e tbl loc gv mv O (.Call (.Name "str" p₀) [x] [] pos) (.strOf a) := by
  refine ⟨?_⟩
  intro σ Q E q A fr s hid ak I
  refine Call_ (hl I ?_)
  rw [starEach_cons hs]
  refine PySem.callWith_type1 ((hx.out σ _ E q).then ak I (fun _ _ q => q) fun v h₁ tk₁ hid₁ d σ₁ p I₁ r₁ q => ?_)
  cases d with
  | int i =>
    simp only [VR] at r₁
    obtain ⟨t, rfl⟩ := r₁
    refine P.str_of_int (dig_log q.1) (OkQ.lift p (Inv.okHere (s := { s with heap := h₁, toks := tk₁ }) I₁ (d := .str ⟨#[48 + i.toNat]⟩) ?_ q.2))
    show VR h₁ hid₁ _ (Value.str (Str.ofString (toString i)) _)
    rw [dig_text q.1]; exact vr_str
  | _ => exact q.elim

theorem snd_tupOf {p₀ pos : Pos} {x : Expr} {a : ME} (hl : Boot W e "tuple" (.type "tuple")) (hx : Snd W cls n e tbl loc gv mv O x a) (hs : isStar x = false) : Snd W cls n e tbl loc gv mv O (.Call (.Name "tuple" p₀) [x] [] pos) (.tupOf a) := by
  refine ⟨?_⟩
  intro σ Q E q A fr s hid ak I
  refine Call_ (hl I ?_)
  rw [starEach_cons hs]
  refine PySem.callWith_type1 ((hx.out σ _ E q).then ak I (fun _ _ q => q) fun v h₁ tk₁ hid₁ d σ₁ p I₁ r₁ q => ?_)
  cases d with
  | list l =>
    simp only [VR] at r₁
    obtain ⟨c, xs, m, rfl, hl, _, rs⟩ := r₁
    refine call_tuple_list (s := { s with heap := h₁, toks := tk₁ }) (items := xs.toArray) ⟨_, hl, rfl, _, rfl⟩ (fun h' k => ?_) (by rw [List.size_toArray, ← rs.length]; exact Nat.le_trans q.1 big_le)
    have kk : ∀ b o, h₁.get? b = some o → (h'.push { cls := .type "tuple", data := .seq xs.toArray }).get? b = some o := fun b o e => Heap.get?_push_of_some _ (k b o e)
    refine OkQ.lift (tk₁ := tk₁) p ⟨_, tk₁, hid₁, .tup l, σ₁, rfl, grow_post' I₁.sr I₁.base kk, ?_, q.2⟩
    rw [VR]
    refine ⟨_, xs, 0, rfl, IsT.new .., fun hm => ?_, VRs.evo (own := []) (Evo.of_keep kk) (fun _ q => nomatch q) (Ext.refl _ _) rs⟩
    obtain ⟨ob, e, _⟩ := I₁.sr.there hm
    have := k _ _ e
    rw [get?_size] at this; cases this
  | _ => exact q.elim

theorem snd_isalnum {x : Expr} {a : ME} {apos pos : Pos} (hx : Snd W cls n e tbl loc gv mv O x a) (hb : attributeBase x "isalnum" e (eval x e) = eval x e) (hl : (apos.endLine == pos.line) = true) : Snd W cls n e tbl loc gv mv O (.Call (.Attribute x "isalnum" apos) [] [] pos) (.isalnum a) := by
  refine ⟨?_⟩
  intro σ Q E q A fr s hid ak I
  refine PySem.Call_method0 hb hl ((hx.out σ _ E q).then ak I (fun _ _ q => q) fun v h₁ tk₁ hid₁ d σ₁ p I₁ r₁ q => ?_)
  cases d with
  | str x =>
    simp only [VR] at r₁
    obtain ⟨t, rfl⟩ := r₁
    obtain ⟨c, hc, hd, q⟩ := q
    obtain rfl := str_of_cps hc
    refine SB.isalnum (OkQ.lift (tk₁ := tk₁) p (Inv.okHere (s := { s with heap := h₁, toks := tk₁ }) (tk := tk₁) I₁ (d := .bool (Txt.isalnum ⟨#[c]⟩)) vr_bool ?_))
    show Q (.bool (Txt.isalnum ⟨#[c]⟩)) σ₁
    rw [alnum_is hd]; exact q
  | _ => exact q.elim

theorem fmt_rule {a : ME} {x : Expr} {σ : St} {pre post : Str} {Q : V → St → Prop} {E : Xc → St → Prop} {A : Around} {fr : List Env} {s : Shared} {hid : List Addr} {pos : Pos} (hx : Snd W cls n e tbl loc gv mv O x a) (ak : AOK A fr n) (I : Inv W e tbl loc fr hid σ s.heap) (q : wpE gv mv O (.fmt pre a post) loc σ Q E) :
    wpAny (model W.prog W.w) A (eval (.FormattedValue x (-1) none pos) e) (fun v s' => ∃ y u h₁ tk₁ hid₁ σ₁, v = .str y u ∧ s' = { s with heap := h₁, toks := tk₁ } ∧ Post W [] s.heap hid h₁ hid₁ σ₁ ∧ Inv W e tbl loc fr hid₁ σ₁ h₁ ∧ pre.length + y.length + post.length ≤ big ∧ Q (.str (pre ++ y ++ post)) σ₁) (ErQ W cls s hid E) s := by
  refine wpAny_FormattedValue_plain ((hx.out σ _ E q).then ak I (fun _ _ q => q) fun v h₁ tk₁ hid₁ d σ₁ p I₁ r₁ q => ?_)
  cases d with
  | int i =>
    simp only [VR] at r₁
    obtain ⟨t, rfl⟩ := r₁
    refine wpAny_formatField_int (dig_log q.1) ⟨_, _, h₁, _, hid₁, σ₁, rfl, rfl, p, I₁, ?_, ?_⟩
    · show pre.length + (Str.ofString (toString i)).length + post.length ≤ big
      rw [dig_text q.1]
      have := q.2.1
      show pre.length + 1 + post.length ≤ 1000000
      omega
    · show Q (.str (pre ++ Str.ofString (toString i) ++ post)) σ₁
      rw [dig_text q.1]; exact q.2.2
  | str x =>
    simp only [VR] at r₁
    obtain ⟨t, rfl⟩ := r₁
    refine wpAny_formatField_str ⟨_, _, h₁, _, hid₁, σ₁, rfl, rfl, p, I₁, q.1, q.2⟩ ⟨_, _, h₁, _, hid₁, σ₁, rfl, rfl, p, I₁, q.1, q.2⟩ ?_
    have := q.1
    exact Nat.le_trans (by omega) big_le
  | _ => exact q.elim

theorem empty_app (x : Str) : Str.empty ++ x = x := Str.append_left_empty rfl
theorem app_empty (x : Str) : x ++ Str.empty = x := Str.append_right_empty rfl
theorem fits_app {x y : Str} {n : Nat} (h : x.length + y.length ≤ n) (hn : n ≤ big) : (x ++ y).length ≤ sizeLine := by
  rw [strLen_append]; exact Nat.le_trans h (Nat.le_trans hn big_le)

theorem snd_fmt2 {pre : Str} {k : Nat} {p₁ p₂ pos : Pos} {x : Expr} {a : ME} (hx : Snd W cls n e tbl loc gv mv O x a) (hp : pre.length ≤ big) : Snd W cls n e tbl loc gv mv O (.JoinedStr [.Constant (.str pre) k p₁, .FormattedValue x (-1) none p₂] pos) (.fmt pre a Str.empty) := by
  refine ⟨?_⟩
  intro σ Q E q A fr s hid ak I
  refine wpAny_JoinedStr ?_
  have hz₀ : (Str.empty ++ pre).length ≤ sizeLine := by
    rw [empty_app]
    exact Nat.le_trans hp big_le
  refine wpAny_Constant_str ⟨pre, _, rfl, hz₀, ?_⟩
  · refine wpAny_mono (fmt_rule hx ak (s := { s with toks := s.toks + 1 }) I q) (fun v s' g => ?_) (fun _ _ q => q.tk)
    obtain ⟨y, u, h₁, tk₁, hid₁, σ₁, rfl, rfl, p, I₁, hz, q⟩ := g
    have hl : (Str.empty ++ pre ++ y).length ≤ sizeLine := by rw [empty_app]; exact fits_app (n := big) (by omega) (Nat.le_refl _)
    refine ⟨y, u, rfl, hl, hl, ?_⟩
    rw [empty_app]
    rw [app_empty] at q
    exact OkQ.lift p (Inv.okHere (s := { s with heap := h₁, toks := tk₁ }) I₁ vr_str q)

theorem snd_fmt3 {pre post : Str} {k k' : Nat} {p₁ p₂ p₃ pos : Pos} {x : Expr} {a : ME} (hx : Snd W cls n e tbl loc gv mv O x a) (hp : pre.length ≤ big) : Snd W cls n e tbl loc gv mv O (.JoinedStr [.Constant (.str pre) k p₁, .FormattedValue x (-1) none p₂, .Constant (.str post) k' p₃] pos) (.fmt pre a post) := by
  refine ⟨?_⟩
  intro σ Q E q A fr s hid ak I
  refine wpAny_JoinedStr ?_
  have hz₀ : (Str.empty ++ pre).length ≤ sizeLine := by
    rw [empty_app]
    exact Nat.le_trans hp big_le
  refine wpAny_Constant_str ⟨pre, _, rfl, hz₀, ?_⟩
  refine wpAny_mono (fmt_rule hx ak (s := { s with toks := s.toks + 1 }) I q) (fun v s' g => ?_) (fun _ _ q => q.tk)
  obtain ⟨y, u, h₁, tk₁, hid₁, σ₁, rfl, rfl, p, I₁, hz, q⟩ := g
  have hl : (Str.empty ++ pre ++ y).length ≤ sizeLine := by rw [empty_app]; exact fits_app (n := big) (by omega) (Nat.le_refl _)
  have hl' : (Str.empty ++ pre ++ y ++ post).length ≤ sizeLine := by rw [empty_app]; exact fits_app (n := big) (by rw [strLen_append]; omega) (Nat.le_refl _)
  refine ⟨y, u, rfl, hl, wpAny_Constant_str ⟨post, _, rfl, hl', hl', ?_⟩⟩
  rw [empty_app]
  exact OkQ.lift p (Inv.okHere (s := { s with heap := h₁, toks := tk₁ }) I₁ vr_str q)

theorem snd_fmt1 {post : Str} {k' : Nat} {p₂ p₃ pos : Pos} {x : Expr} {a : ME} (hx : Snd W cls n e tbl loc gv mv O x a) : Snd W cls n e tbl loc gv mv O (.JoinedStr [.FormattedValue x (-1) none p₂, .Constant (.str post) k' p₃] pos) (.fmt Str.empty a post) := by
  refine ⟨?_⟩
  intro σ Q E q A fr s hid ak I
  refine wpAny_JoinedStr ?_
  refine wpAny_mono (fmt_rule hx ak I q) (fun v s' g => ?_) (fun _ _ q => q)
  obtain ⟨y, u, h₁, tk₁, hid₁, σ₁, rfl, rfl, p, I₁, hz, q⟩ := g
  have hz' : y.length + post.length ≤ big := by have : (Str.empty : Str).length = 0 := rfl; omega
  have hl : (Str.empty ++ y).length ≤ sizeLine := by rw [empty_app]; exact Nat.le_trans (by omega) big_le
  have hl' : (Str.empty ++ y ++ post).length ≤ sizeLine := by rw [empty_app]; exact fits_app hz' (Nat.le_refl _)
  refine ⟨y, u, rfl, hl, wpAny_Constant_str ⟨post, _, rfl, hl', hl', ?_⟩⟩
  exact OkQ.lift p (Inv.okHere (s := { s with heap := h₁, toks := tk₁ }) I₁ vr_str q)
end
end Mine
end
section
set_option tactic.hygienic false
open PySem PySem.W PyProof.Rows PySem.Spec PySem.Calls PySem.Builtin.Str
set_option Elab.async false
set_option maxRecDepth 100000
set_option autoImplicit false
namespace Mine

noncomputable def Fix (h : Heap) (hid : List Addr) (b : Addr) : Prop := ∃ o xs n, h.get? b = some o ∧ o.data = .seq xs n ∧ b ∉ hid
theorem Fix.seqk {hid hid' : List Addr} {h h' : Heap} {b : Addr} (f : Fix h hid b) (x : SeqK hid h h') (y : Ext hid h hid') : Fix h' hid' b ∧ ∀ o, h.get? b = some o → h'.get? b = some o := by
  obtain ⟨o, xs, n, e, hd, hb⟩ := f
  have e' := x _ _ _ _ e hd hb
  exact ⟨⟨o, xs, n, e', hd, fun q => hb (y.old e q)⟩, fun o₂ e₂ => by rw [e] at e₂; cases e₂; exact e'⟩
theorem Fix.evo {own hid hid' : List Addr} {h h' : Heap} {b : Addr} (f : Fix h hid b) (x : Evo (own ++ hid) h h') (hn : ∀ b ∈ own, ∀ o, h.get? b = some o → notSeq o) (y : Ext hid h hid') : Fix h' hid' b ∧ ∀ o, h.get? b = some o → h'.get? b = some o := f.seqk (SeqK.of_evo x hn) y

noncomputable def Items (h : Heap) (hid : List Addr) (n : Nat) (P : Nat → Value → Prop) (ds : List V) : Prop := ds.length = n ∧ ∀ (i : Nat) (v : Value) (d : V), P i v → ds[i]? = some d → VR h hid d v
theorem Items.seqk {hid hid' : List Addr} {h h' : Heap} {n : Nat} {P : Nat → Value → Prop} {ds : List V} (f : Items h hid n P ds) (x : SeqK hid h h') (y : Ext hid h hid') : Items h' hid' n P ds :=
  ⟨f.1, fun i v d p e => VR.seqk x y (f.2 i v d p e)⟩
theorem Items.evo {own hid hid' : List Addr} {h h' : Heap} {n : Nat} {P : Nat → Value → Prop} {ds : List V} (f : Items h hid n P ds) (x : Evo (own ++ hid) h h') (hn : ∀ b ∈ own, ∀ o, h.get? b = some o → notSeq o) (y : Ext hid h hid') : Items h' hid' n P ds := f.seqk (SeqK.of_evo x hn) y

structure ITS (W : Wd) (I : Addr) (fp : List Addr) (n : Nat) (P : Nat → Value → Prop) (S : Nat → Heap → Prop) : Prop where
  walks : ∀ A : Around, A.handled = none → Walks W.prog W.w A I fp [I] n P S
  fields : ∀ i h, S i h → ∃ o vs, h.get? I = some o ∧ o.data = .fields vs
  inI : I ∈ fp

inductive ItQ (W : Wd) (e : Env) (tbl : List Str) (loc : Loc) (fr : List Env) (s : Shared) (hid : List Addr) (K : List V → St → Prop) (it : Value) (s' : Shared) : Prop
  | mk (h₁ : Heap) (hid₁ : List Addr) (σ₁ : St) (h₂ : Heap) (tk₂ : Nat) (I : Addr) (fp : List Addr) (n : Nat) (P : Nat → Value → Prop) (S : Nat → Heap → Prop) (ds : List V) (e1 : s' = { s with heap := h₂, toks := tk₂ }) (p : Post W [] s.heap hid h₁ hid₁ σ₁) (J : Inv W e tbl loc fr hid₁ σ₁ h₁) (k : K ds σ₁)
    (e2 : it = .ref I) (hI : h₁.get? I = none) (kp : ∀ b o, h₁.get? b = some o → h₂.get? b = some o) (its : ITS W I fp n P S) (st : S 0 h₂) (itm : Items h₂ hid₁ n P ds) (fix : ∀ b ∈ fp, b ≠ I → Fix h₂ hid₁ b) (hz : n ≤ sizeLine)

theorem its_tup {W : Wd} {I ax : Addr} {xs : Array Value} (hne : ax ≠ I) : ITS W I [I, ax] xs.size (fun i v => xs[i]? = some v) (fun i h => h.IsTupleIter I ax i ∧ h.IsTuple ax xs) :=
  ⟨fun _ hA => Walks.tuple hA I ax hne xs, fun _ _ ⟨⟨o, e, _, hd⟩, _⟩ => ⟨o, _, e, hd⟩, .head _⟩
theorem its_list {W : Wd} {I ax : Addr} {xs : Array Value} (hne : ax ≠ I) : ITS W I [I, ax] xs.size (fun i v => xs[i]? = some v) (fun i h => h.IsListIter I ax i ∧ h.IsList ax xs) :=
  ⟨fun _ hA => Walks.list hA I ax hne xs, fun _ _ ⟨⟨o, e, _, hd⟩, _⟩ => ⟨o, _, e, hd⟩, .head _⟩
theorem its_range {W : Wd} {I : Addr} {n : Nat} : ITS W I [I] n (fun i v => ∃ t, v = .int (0 + (i : Nat) * 1) t) (fun i h => IsRangeIter h I (0 + (i : Nat) * 1) ((n : Int) - (i : Nat)) 1) :=
  ⟨fun _ hA => Walks.range hA I 0 1 n, fun _ _ e => ⟨_, _, e, rfl⟩, .head _⟩

section
variable {W : Wd} {cls : Xc → Addr} {n n₀ : Nat} {e : Env} {tbl : List Str} {loc : Loc} {gv : Nat → V} {mv : Str → V} {O : V → List V → St → (V → St → Prop) → (Xc → St → Prop) → Prop}

theorem iter_rule {A : Around} {fr : List Env} {s : Shared} {hid : List Addr} {σ : St} {d : V} {v : Value} {K : List V → St → Prop} {E' : Value → Shared → Prop} (I : Inv W e tbl loc fr hid σ s.heap) (r : VR s.heap hid d v) (q : itemsW d fun ds => K ds σ) :
    wpAny (model W.prog W.w) A (pyIter v) (ItQ W e tbl loc fr s hid K) E' s := by
  have pp := Post.refl (own := []) I.sr I.base
  cases d with
  | tup l =>
    simp only [VR] at r
    obtain ⟨a, xs, m, rfl, ht, ha, rs⟩ := r
    refine wpAny_pyIter_tuple (items := xs.toArray) ⟨_, ht, rfl, _, rfl⟩ ?_
    have kk : ∀ b o, s.heap.get? b = some o → (s.heap.push { cls := .type "tuple_iterator", data := .fields #[.ref a, .int 0 0] }).get? b = some o := fun b o e => Heap.get?_push_of_some _ e
    have hne : a ≠ s.heap.objs.size := Nat.ne_of_lt (Heap.lt_size ht)
    refine ⟨s.heap, hid, σ, _, s.toks, _, _, _, _, _, l, rfl, pp, I, q.2, rfl, get?_size, kk, its_tup hne, ⟨⟨_, Heap.get?_push_size _ rfl, rfl, rfl⟩, ⟨_, kk _ _ ht, rfl, _, rfl⟩⟩, ?_, ?_, ?_⟩
    · refine ⟨by rw [rs.length]; simp, fun i v d hv hd => ?_⟩
      obtain ⟨v', e', r⟩ := rs.get hd
      have hv : xs[i]? = some v := by simpa using hv
      rw [hv] at e'; cases e'
      exact VR.evo (own := []) (Evo.of_keep kk) (fun _ q => nomatch q) (Ext.refl _ _) r
    · intro b hb hbI
      rcases List.mem_cons.mp hb with rfl | hb
      · exact absurd rfl hbI
      · rw [List.mem_singleton.mp hb]
        exact ⟨_, _, _, kk _ _ ht, rfl, ha⟩
    · rw [List.size_toArray, ← rs.length]; exact Nat.le_trans q.1 big_le
  | list l =>
    simp only [VR] at r
    obtain ⟨a, xs, m, rfl, ht, ha, rs⟩ := r
    refine wpAny_pyIter_list (items := xs.toArray) ⟨_, ht, rfl, _, rfl⟩ ?_
    have kk : ∀ b o, s.heap.get? b = some o → (s.heap.push { cls := .type "list_iterator", data := .fields #[.ref a, .int 0 0] }).get? b = some o := fun b o e => Heap.get?_push_of_some _ e
    have hne : a ≠ s.heap.objs.size := Nat.ne_of_lt (Heap.lt_size ht)
    refine ⟨s.heap, hid, σ, _, s.toks, _, _, _, _, _, l, rfl, pp, I, q.2, rfl, get?_size, kk, its_list hne, ⟨⟨_, Heap.get?_push_size _ rfl, rfl, rfl⟩, ⟨_, kk _ _ ht, rfl, _, rfl⟩⟩, ?_, ?_, ?_⟩
    · refine ⟨by rw [rs.length]; simp, fun i v d hv hd => ?_⟩
      obtain ⟨v', e', r⟩ := rs.get hd
      have hv : xs[i]? = some v := by simpa using hv
      rw [hv] at e'; cases e'
      exact VR.evo (own := []) (Evo.of_keep kk) (fun _ q => nomatch q) (Ext.refl _ _) r
    · intro b hb hbI
      rcases List.mem_cons.mp hb with rfl | hb
      · exact absurd rfl hbI
      · rw [List.mem_singleton.mp hb]
        exact ⟨_, _, _, kk _ _ ht, rfl, ha⟩
    · rw [List.size_toArray, ← rs.length]; exact Nat.le_trans q.1 big_le
  | str x =>
    simp only [VR] at r
    obtain ⟨t, rfl⟩ := r
    have hP : ∀ h', Items h' hid x.cps.size (SignAt x) (x.cps.toList.map fun c => .str ⟨#[c]⟩) := fun h' => by
      refine ⟨by simp, fun i v d ⟨c, u, hc, hv⟩ hd => ?_⟩
      subst hv
      rw [List.getElem?_map, Array.getElem?_toList, hc] at hd
      cases hd
      exact vr_str
    have hz : x.cps.size ≤ sizeLine := Nat.le_trans q.1 big_le
    have hf : ∀ (h : Heap) (I' b : Addr), b ∈ [I'] → b ≠ I' → Fix h hid b := fun h I' b hb hbI => absurd (List.mem_singleton.mp hb) hbI
    cases ha : x.cps.all (· < 128)
    · refine wpAny_pyIter_wide ha ?_
      refine ⟨s.heap, hid, σ, _, s.toks, _, [_], _, _, _, _, rfl, pp, I, q.2, rfl, get?_size, fun b o e => Heap.get?_push_of_some _ e, ⟨fun A' hA => Walks.strWide hA _ x t, fun _ _ ⟨o, e, _, hd⟩ => ⟨o, _, e, hd⟩, .head _⟩, ⟨_, Heap.get?_push_size _ rfl, rfl, rfl⟩, hP _, hf _ _, hz⟩
    · refine wpAny_pyIter_ascii ha ?_
      refine ⟨s.heap, hid, σ, _, s.toks, _, [_], _, _, _, _, rfl, pp, I, q.2, rfl, get?_size, fun b o e => Heap.get?_push_of_some _ e, ⟨fun A' hA => Walks.strAscii hA _ x t, fun _ _ ⟨o, e, _, hd⟩ => ⟨o, _, e, hd⟩, .head _⟩, ⟨_, Heap.get?_push_size _ rfl, rfl, rfl⟩, hP _, hf _ _, hz⟩
  | _ => exact q.elim

theorem ItQ.lift {fr : List Env} {s : Shared} {hid hid₁ : List Addr} {h₁ : Heap} {tk₁ : Nat} {σ₁ : St} {K : List V → St → Prop} {v : Value} {s' : Shared} (y : Post W [] s.heap hid h₁ hid₁ σ₁) (q : ItQ W e tbl loc fr { s with heap := h₁, toks := tk₁ } hid₁ K v s') : ItQ W e tbl loc fr s hid K v s' := by
  obtain ⟨h₂, hid₂, σ₂, h₃, tk₃, I, fp, m, P, S, ds, rfl, p, I₂, k, e2, hI, kp, its, st, itm, fix, hz⟩ := q
  exact ⟨h₂, hid₂, σ₂, h₃, tk₃, I, fp, m, P, S, ds, rfl, y.trans p, I₂, k, e2, hI, kp, its, st, itm, fix, hz⟩

noncomputable def wpI (gv : Nat → V) (mv : Str → V) (O : V → List V → St → (V → St → Prop) → (Xc → St → Prop) → Prop) : ME → Loc → St → (List V → St → Prop) → (Xc → St → Prop) → Prop
  | .range b, loc, σ, K, E => wpE gv mv O b loc σ (fun d σ => match d with
      | .int n => (0 ≤ n ∧ n ≤ (big : Int)) ∧ K ((List.range n.toNat).map fun k => .int (k : Nat)) σ
      | _ => False) E
  | a, loc, σ, K, E => wpE gv mv O a loc σ (fun d σ => itemsW d fun ds => K ds σ) E

structure SndI (W : Wd) (cls : Xc → Addr) (n : Nat) (e : Env) (tbl : List Str) (loc : Loc) (gv : Nat → V) (mv : Str → V) (O : V → List V → St → (V → St → Prop) → (Xc → St → Prop) → Prop) (pe : Expr) (a : ME) : Prop where
  out : ∀ σ K E, wpI gv mv O a loc σ K E → ∀ A fr s hid, AOK A fr n → Inv W e tbl loc fr hid σ s.heap → wpAny (model W.prog W.w) A (eval pe e) (fun xv s₁ => wpAny (model W.prog W.w) A (pyIter xv) (ItQ W e tbl loc fr s hid K) (ErQ W cls s hid E) s₁) (ErQ W cls s hid E) s

theorem sndI_of {pe : Expr} {a : ME} (h : Snd W cls n e tbl loc gv mv O pe a) (ha : ∀ b, a ≠ .range b) : SndI W cls n e tbl loc gv mv O pe a := by
  refine ⟨?_⟩
  intro σ K E q A fr s hid ak I
  have q' : wpE gv mv O a loc σ (fun d σ => itemsW d fun ds => K ds σ) E := by
    cases a <;> first | exact q | exact absurd rfl (ha _)
  exact (h.out σ _ E q').then ak I (fun _ _ q => q) fun v h₁ tk₁ hid₁ d σ₁ p I₁ r q => wpAny_mono (iter_rule (s := { s with heap := h₁, toks := tk₁ }) I₁ r q) (fun _ _ g => ItQ.lift p g) fun _ _ q => q

theorem range_size {n : Int} (h : 0 ≤ n) : Builtin.Range.rangeSize 0 n 1 = n := by
  unfold Builtin.Range.rangeSize
  simp
  omega

theorem sndI_range {p₀ pos : Pos} {x : Expr} {a : ME} (hl : Boot W e "range" (.type "range")) (hx : Snd W cls n e tbl loc gv mv O x a) (hs : isStar x = false) : SndI W cls n e tbl loc gv mv O (.Call (.Name "range" p₀) [x] [] pos) (.range a) := by
  refine ⟨?_⟩
  intro σ K E q A fr s hid ak I
  refine Call_ (hl I ?_)
  rw [starEach_cons hs]
  refine PySem.callWith_type1 ((hx.out σ _ E q).then ak I (fun _ _ q => q) fun v h₁ tk₁ hid₁ d σ₁ p I₁ r₁ q => ?_)
  cases d with
  | int i =>
    simp only [VR] at r₁
    obtain ⟨t, rfl⟩ := r₁
    obtain ⟨⟨h0, h1⟩, q⟩ := q
    simp only [big] at h1
    refine call_range_1 (wpAny_pyIter_range (Heap.get?_push_size _ rfl) (small_one (by omega) (by omega) (by omega) (by omega)) ?_)
    have kk : ∀ b o, h₁.get? b = some o → ((h₁.push { cls := .type "range", data := .fields #[.int 0 tk₁, .int i t, .int 1 (tk₁ + 1)] }).push { cls := .type "range_iterator", data := .fields #[rawInt 0, rawInt (Builtin.Range.rangeSize 0 i 1), rawInt 1] }).get? b = some o := fun b o e => Heap.get?_push_of_some _ (Heap.get?_push_of_some _ e)
    refine ⟨h₁, hid₁, σ₁, _, _, _, _, i.toNat, _, _, _, rfl, p, I₁, q, rfl, get?_big (by rw [Heap.size_push]; exact Nat.le_succ _), kk, its_range, ?_, ?_, ?_, ?_⟩
    · show Heap.get? _ _ = _
      rw [range_size h0]
      refine (Heap.get?_push_size _ rfl).trans ?_
      have e1 : (0 : Int) + ((0 : Nat) : Int) * 1 = 0 := by omega
      have e2 : ((i.toNat : Nat) : Int) - ((0 : Nat) : Int) = i := by omega
      rw [e1, e2]
    · refine ⟨by simp, fun j v d ⟨u, hv⟩ hd => ?_⟩
      subst hv
      rw [List.getElem?_map] at hd
      cases hj : (List.range i.toNat)[j]? with
      | none => rw [hj] at hd; cases hd
      | some j' =>
        rw [hj] at hd; cases hd
        have := List.getElem?_eq_some_iff.mp hj
        obtain ⟨hlt, hj⟩ := this
        rw [List.getElem_range] at hj
        subst hj
        simp only [VR]
        exact ⟨u, by congr 1; omega⟩
    · intro b hb hbI; exact absurd (List.mem_singleton.mp hb) hbI
    · exact Nat.le_trans (by simp only [big]; omega) big_le
  | _ => exact q.elim
end
end Mine
end
section
set_option tactic.hygienic false
open PySem PySem.W PyProof.Rows PySem.Spec PySem.Calls PySem.Builtin.Str
set_option Elab.async false
set_option maxRecDepth 100000
set_option autoImplicit false
namespace Mine

theorem write_post {W : Wd} {own hid : List Addr} {σ : St} {h h' : Heap} {i : Nat} {a : Addr} {o : MO} (sr : SR W σ hid h) (b : W.hT.StaysIn h) (hi : hid[i]? = some a) (hs : Heap.SameBut a h h') (ho : ObjR W h' hid a o) : Post W own h hid h' hid (σ.set i o) := by
  have hm : a ∈ hid := List.mem_of_getElem? hi
  obtain ⟨ob, e, _⟩ := ho.there
  have sq : SeqK hid h h' := fun b o xs n e hd hb => (hs.2 b fun q => hb (q ▸ hm)).trans e
  refine ⟨Evo.of_sameBut hs (List.mem_append_right _ hm) ⟨ob, e⟩, Ext.refl _ _, ⟨by rw [List.length_set]; exact sr.len, sr.nd, fun j o' ej => ?_, sr.new⟩, fun x o' ex => (hs.2 x fun q => ?_).trans (b x o' ex)⟩
  · rw [List.getElem?_set] at ej
    by_cases hji : i = j
    · subst hji
      rw [if_pos rfl] at ej
      split at ej
      · cases ej; exact ⟨a, hi, ho⟩
      · cases ej
    · rw [if_neg hji] at ej
      obtain ⟨a', e', r⟩ := sr.obj j o' ej
      have hne : a' ≠ a := fun q => by
        subst q
        have h1 := List.getElem?_eq_some_iff.mp hi
        have h2 := List.getElem?_eq_some_iff.mp e'
        obtain ⟨l1, h1⟩ := h1
        obtain ⟨l2, h2⟩ := h2
        exact hji ((List.getElem_inj sr.nd).mp (h1.trans h2.symm))
      exact ⟨a', e', r.seqk sq (Ext.refl _ _) fun o e => (hs.2 a' hne).trans e⟩
  · subst q; rw [sr.new x hm] at ex; cases ex

section
variable {W : Wd} {cls : Xc → Addr} {n n₀ : Nat} {e : Env} {tbl : List Str} {gv : Nat → V} {mv : Str → V} {O : V → List V → St → (V → St → Prop) → (Xc → St → Prop) → Prop}

theorem Inv.weaken {loc loc' : Loc} {fr : List Env} {hid : List Addr} {σ : St} {h : Heap} (I : Inv W e tbl loc fr hid σ h) (k : ∀ j d, loc' j = some d → loc j = some d) : Inv W e tbl loc' fr hid σ h :=
  ⟨I.base, I.ff, I.sr, I.kind, I.glob, I.bi, let ⟨m, hm, hl⟩ := I.locs; ⟨m, hm, fun i x d ht hd => hl i x d ht (k i d hd)⟩, I.nd, I.own, I.cells⟩

theorem store_local {x : Str} {i : Nat} {d : V} {v : Value} {loc : Loc} {A : Around} {fr : List Env} {s : Shared} {hid : List Addr} {σ : St} {E' : Value → Shared → Prop} {Q : Unit → Shared → Prop} (ht : tbl[i]? = some x) (hu : ∀ j, tbl[j]? = some x → j = i)
    (hk : e.kindOf x = some .local) (I : Inv W e tbl loc fr hid σ s.heap) (r : VR s.heap hid d v)
    (q : ∀ h' tk, Heap.SameBut e.locals s.heap h' → (∃ m, h'.Ns e.locals m) → Inv W e tbl (upd loc i d) fr hid σ h' → Q () { s with heap := h', toks := tk }) : wpAny (model W.prog W.w) A (storeName e x v) Q E' s := by
  obtain ⟨m, hm, hls⟩ := I.locs
  have hp : (e.scope.kind == .class || (e.scope.kind == .module && e.locals != e.globals)) = false := by rw [I.kind]; rfl
  refine wpAny_storeName_local hk hm (fun h' hn hs => ?_) hp
  have ha : e.locals ∈ ownOf' e := .head _
  have hx : ∃ o, h'.get? e.locals = some o := let ⟨o, _, _, e', _⟩ := hn; ⟨o, e'⟩
  refine q h' _ hs ⟨_, hn⟩ ⟨fun b o e' => (set_post I ha hs hx).base b o e', ff_set I.ff hs ?_ (fun _ => ?_), (set_post I ha hs hx).sr, I.kind, I.glob, I.bi, ⟨_, hn, fun j y dj hj hl => ?_⟩, I.nd, I.own, fun c hc => ?_⟩
  · obtain ⟨o, es, ep, e', hd, _⟩ := hn
    exact ⟨o, e', fun vs q => by rw [hd] at q; cases q⟩
  · obtain ⟨o, es, ep, e', hd, _⟩ := hn
    exact ⟨o, es, ep, e', hd⟩
  · unfold upd at hl
    by_cases hji : j = i
    · subst hji
      rw [if_pos rfl] at hl
      cases hl
      obtain rfl : x = y := Option.some.inj (ht.symm.trans hj)
      exact ⟨v, .inl ⟨hk, if_pos rfl⟩, vr_set I ha hs hx r⟩
    · rw [if_neg hji] at hl
      obtain ⟨u, na, ru⟩ := hls j y dj hj hl
      have hyx : y ≠ x := fun z => hji (hu j (z ▸ hj))
      refine ⟨u, ?_, vr_set I ha hs hx ru⟩
      rcases na with ⟨h1, h2⟩ | ⟨h1, c, h2, h3⟩
      · exact .inl ⟨h1, (if_neg hyx).trans h2⟩
      · refine .inr ⟨h1, c, h2, ?_⟩
        have hne : c ≠ e.locals := fun z => (List.nodup_cons.mp I.nd).1 (z ▸ lookup_mem h2)
        obtain ⟨o, e', hd⟩ := h3
        exact ⟨o, (hs.2 c hne).trans e', hd⟩
  · obtain ⟨u, o, e', hd⟩ := I.cells c hc
    have hne : c ≠ e.locals := fun z => (List.nodup_cons.mp I.nd).1 (z ▸ hc)
    exact ⟨u, o, (hs.2 c hne).trans e', hd⟩

theorem Lone.touch {fr : List Env} {hid : List Addr} {h h' : Heap} {I : Addr} (l : Lone W e fr hid h I) (x : ∃ o vs, h'.get? I = some o ∧ o.data = .fields vs) : Lone W e fr hid h' I :=
  ⟨l.hid, l.own, l.fr, l.new, fun o ho xs n q => by
    obtain ⟨o', vs, e', hd⟩ := x
    rw [ho] at e'; cases e'
    rw [hd] at q; cases q⟩

structure SndF (W : Wd) (cls : Xc → Addr) (n : Nat) (e : Env) (tbl : List Str) (loc : Loc) (gv : Nat → V) (mv : Str → V) (O : V → List V → St → (V → St → Prop) → (Xc → St → Prop) → Prop) (ifs : List Expr) (a : ME) : Prop where
  out : ∀ σ (Q : Bool → St → Prop) E, wpE gv mv O a loc σ (fun d σ => isB d fun b => Q b σ) E → TrW W cls n e tbl loc σ (forIn ifs true fun c r => if r = true then do let ok ← isTrue c e (eval c e); pure (ForInStep.yield ok) else pure (ForInStep.yield r)) Q E
theorem sndF_nil {loc : Loc} : SndF W cls n e tbl loc gv mv O [] (.bool true) :=
  ⟨fun σ _ _ q _ _ s hid _ I => wpAny_tests_nil ⟨s.heap, s.toks, hid, σ, rfl, Post.refl I.sr I.base, q⟩⟩
theorem sndF_one {loc : Loc} {c : Expr} {a : ME} (h : SndT W cls n e tbl loc gv mv O c a) : SndF W cls n e tbl loc gv mv O [c] a :=
  ⟨fun σ Q E q A fr s hid ak I => wpAny_tests_one (h.out σ Q E q A fr s hid ak I)⟩

theorem ext_same {W : Wd} {hid hid' : List Addr} {h h₀ : Heap} {σ : St} (x : Ext hid h₀ hid') (y : SR W σ hid' h) (hl : hid.length = σ.length) : hid' = hid := by
  obtain ⟨new, rfl, _⟩ := x
  have := y.len
  rw [List.length_append, hl] at this
  have : new = [] := List.eq_nil_of_length_eq_zero (by omega)
  rw [this, List.append_nil]
end
end Mine
end
section
set_option tactic.hygienic false
open PySem PySem.W PyProof.Rows PySem.Spec PySem.Calls PySem.Builtin.Str
set_option Elab.async false
set_option maxRecDepth 100000
set_option autoImplicit false
namespace Mine

section
variable {W : Wd} {cls : Xc → Addr} {n n₀ : Nat} {e : Env} {tbl : List Str} {gv : Nat → V} {mv : Str → V} {O : V → List V → St → (V → St → Prop) → (Xc → St → Prop) → Prop}

structure CompOk (e : Env) (tbl : List Str) (x : Str) (i : Nat) (vis : List Nat) (scope : Scope) (cl : List (Str × Addr)) : Prop where
  clos : closureFor scope e = pure cl
  cell : ∀ y ∈ scope.names, y.2 ≠ .cell
  kind : scope.kind = .function
  names : ∀ y ∈ scope.names, y.2 = .local → scope.names.lookup y.1 = some .local
  hx : scope.names.lookup x = some .local
  tx : tbl[i]? = some x
  ux : ∀ j, tbl[j]? = some x → j = i
  vi : vis.contains i = false
  cls : ∀ p ∈ cl, e.cells.lookup p.1 = some p.2
  cln : (cl.map (·.1)).Nodup
  see : ∀ j ∈ vis, ∀ y, tbl[j]? = some y → e.kindOf y = some .cell ∧ ((relabel scope e).names.lookup y = some .cell ∨ (relabel scope e).names.lookup y = some .free) ∧ (cl.lookup y).isSome = true

theorem comp_inv {x : Str} {i : Nat} {vis : List Nat} {scope : Scope} {cl : List (Str × Addr)} (ok : CompOk e tbl x i vis scope cl) {loc : Loc} {fr : List Env} {hid : List Addr} {σ : St} {h h' : Heap} {C D : Addr} (I : Inv W e tbl loc fr hid σ h)
    (k : ∀ b o, h.get? b = some o → h'.get? b = some o) (hC : h.get? C = none) (hD : h.get? D = none) (hDC : D ≠ C) {m : Str → Option Value} (hn : h'.Ns C m) (hl : h'.get? D = some (listOf (List.toArray []) 0)) :
    Inv W (compEnvC scope cl C e) tbl (sees loc vis) fr (hid ++ [D]) (σ ++ [.list []]) h' := by
  have pj : Post W [] h hid h' (hid ++ [D]) (σ ++ [.list []]) := join_post I.sr I.base k hD ⟨[], 0, hl, VRs.nil⟩
  have I' := I.post pj
  have hne : ∀ {b : Addr}, (∃ o, h.get? b = some o) → b ≠ C := fun ⟨o, e⟩ q => by rw [q, hC] at e; cases e
  refine ⟨I'.base, I'.ff, I'.sr, ok.kind, I.glob, I.bi, ⟨m, hn, fun j y d hy hd => ?_⟩, ?_, fun a ha => ?_, fun c hc => ?_⟩
  · unfold sees at hd
    split at hd
    · rename_i hj
      obtain ⟨h1, h2, h3⟩ := ok.see j (by simpa using hj) y hy
      obtain ⟨mo, _, hls⟩ := I'.locs
      obtain ⟨v, na, r⟩ := hls j y d hy hd
      refine ⟨v, ?_, r⟩
      rcases na with ⟨hk, _⟩ | ⟨_, c, hc, hv⟩
      · rw [h1] at hk; cases hk
      · obtain ⟨c', hc'⟩ := Option.isSome_iff_exists.mp h3
        have := ok.cls (y, c') (mem_of_lookup hc')
        rw [hc] at this
        cases this
        exact .inr ⟨h2, _, hc', hv⟩
    · cases hd
  · refine List.nodup_cons.mpr ⟨fun hm => ?_, ?_⟩
    · obtain ⟨p, hp, hq⟩ := List.mem_map.mp hm
      obtain ⟨v, o, e', _⟩ := I.cells p.2 (lookup_mem (ok.cls p hp))
      exact hne ⟨o, e'⟩ hq
    · show (cl.map (·.2)).Nodup
      have hp : e.cells.Pairwise fun x y => x.2 ≠ y.2 := List.pairwise_map.mp (List.nodup_cons.mp I.nd).2
      have hcl : cl.Pairwise fun x y => x.1 ≠ y.1 := List.pairwise_map.mp ok.cln
      have : cl.Pairwise fun x y => x.2 ≠ y.2 := by
        refine List.Pairwise.imp_of_mem (fun {a b} ha hb hab hq => hab ?_) hcl
        exact name_of_addr hp (mem_of_lookup (ok.cls a ha)) (hq ▸ mem_of_lookup (ok.cls b hb))
      exact List.pairwise_map.mpr this
  · rcases List.mem_cons.mp ha with rfl | ha
    · refine ⟨none_back (fun b o q => ⟨o, I.base b o q⟩) hC, fun hm => ?_⟩
      rcases List.mem_append.mp hm with hm | hm
      · obtain ⟨ob, e', _⟩ := I.sr.there hm
        exact hne ⟨ob, e'⟩ rfl
      · exact hDC (List.mem_singleton.mp hm).symm
    · obtain ⟨p, hp, rfl⟩ := List.mem_map.mp ha
      exact I'.own _ (.tail _ (lookup_mem (ok.cls p hp)))
  · obtain ⟨p, hp, rfl⟩ := List.mem_map.mp hc
    exact I'.cells _ (lookup_mem (ok.cls p hp))

structure CompDone (W : Wd) (hid₁ : List Addr) (σ₁ : St) (h₁ : Heap) (C D : Addr) (acc : List V) (h₄ : Heap) : Prop where
  hC : h₁.get? C = none
  hD : h₁.get? D = none
  ne : D ≠ C
  ev : Evo ([] ++ hid₁) h₁ h₄
  sr : SR W (σ₁ ++ [.list acc]) (hid₁ ++ [D]) h₄
  base : W.hT.StaysIn h₄
  ns : ∃ m, h₄.Ns C m
  bare : bares acc = true

inductive CompI (W : Wd) (eC : Env) (tbl : List Str) (lc : Loc) (fr : List Env) (s : Shared) (hid₁ : List Addr) (h₁ : Heap) (σ₁ : St) (D It : Addr) (fp : List Addr) (m : Nat) (P : Nat → Value → Prop) (S : Nat → Heap → Prop) (ds : List V) (K : Nat → List V → Prop) (k : Nat) (s' : Shared) : Prop
  | mk (h' : Heap) (tk : Nat) (acc : List V) (j : Nat) (e1 : s' = { s with heap := h', toks := tk }) (e2 : k = m - j) (hj : j ≤ m) (ha : acc.length ≤ j) (hb : bares acc = true) (st : S j h') (ev : Evo ([] ++ hid₁) h₁ h') (J : Inv W eC tbl lc fr (hid₁ ++ [D]) (σ₁ ++ [.list acc]) h') (lo : Lone W eC fr (hid₁ ++ [D]) h' It) (itm : Items h' (hid₁ ++ [D]) m P ds) (fix : ∀ b ∈ fp, b ≠ It → Fix h' (hid₁ ++ [D]) b) (q : K j acc)

theorem comp_core {x : Str} {i : Nat} {vis : List Nat} {scope : Scope} {cl : List (Str × Addr)} (ok : CompOk e tbl x i vis scope cl) {loc : Loc} {elt iter : Expr} {px pos pos' : Pos} {ifs : List Expr} {a b c : ME} (hs : ∀ x, foldedSetIterable iter e x = pure x)
    (hI : SndI W cls n e tbl loc gv mv O iter a) (hF : ∀ C loc, SndF W cls n (compEnvC scope cl C e) tbl loc gv mv O ifs c) (hE : ∀ C loc, Snd W cls n (compEnvC scope cl C e) tbl loc gv mv O elt b)
    {σ : St} {Q : V → St → Prop} {E : Xc → St → Prop} {A : Around} {fr : List Env} {s : Shared} {hid : List Addr} {use : Option (Value → Sem Unit)} {Q0 : Value → Shared → Prop} {Eo : Value → Shared → Prop} (ak : AOK A fr n) (I : Inv W e tbl loc fr hid σ s.heap)
    (q' : wpI gv mv O a loc σ (fun ds σ => compW (fun l σ Q => wpE gv mv O c l σ (fun d σ' => isB d fun b => σ' = σ ∧ Q b) (fun _ _ => False)) (fun l σ Q => wpE gv mv O b l σ (fun d σ' => σ' = σ ∧ Q d) (fun _ _ => False)) i (sees loc vis) σ ds [] fun r => Q (.list r) σ) E)
    (hEo : ∀ ev s', ErQ W cls s hid E ev s' → Eo ev s')
    (fin : ∀ h₁ hid₁ σ₁ h₄ tk₄ C D acc f, Post W [] s.heap hid h₁ hid₁ σ₁ → Inv W e tbl loc fr hid₁ σ₁ h₁ → CompDone W hid₁ σ₁ h₁ C D acc h₄ → Q (.list acc) σ₁ → compPost (model W.prog W.w) A Eo use Q0 (.ref D) C (.ok f) { s with heap := h₄, toks := tk₄ }) :
    wpAny (model W.prog W.w) A (comprehension (.ListComp elt [⟨.Name x px, iter, ifs, 0⟩] scope pos) scope e pos' (newList []) false (eval iter e) use) Q0 Eo s := by
  refine wpAny_comprehension_free (use := use) rfl hs ok.clos ok.kind ok.names (wpAny_mono (hI.out σ _ E q' A fr s hid ak I) (fun xv s₁ h₁ => wpAny_mono h₁ (fun it s₂ h₂ => ?_) fun _ _ e => hEo _ _ e) fun _ _ e => hEo _ _ e)
  obtain ⟨h₁, hid₁, σ₁, h₂, tk₂, It, fp, m, P, S, ds, rfl, p₁, I₁, q, rfl, hIt, k₂, its, st, itm, fix, hz⟩ := h₂
  refine wpAny_newObj_type (wpAny_newFunctionEnv ok.cell (by intro y hy; simp at hy) (fun h₃ hns hsb => ?_) ok.kind)
  dsimp only at hns hsb ⊢
  generalize hH : h₂.push { cls := .type "list", dict := none, data := .seq ([] : List Value).toArray } = H at hns hsb ⊢
  have hCs : H.objs.size = h₂.objs.size + 1 := by rw [← hH, Heap.size_push]
  have hDC : h₂.objs.size ≠ H.objs.size := by rw [hCs]; exact Nat.ne_of_lt (Nat.lt_succ_self _)
  have below : ∀ b o, h₂.get? b = some o → b ≠ H.objs.size := fun b o e => by rw [hCs]; exact Nat.ne_of_lt (Nat.lt_succ_of_lt (Heap.lt_size e))
  have k₃ : ∀ b o, h₂.get? b = some o → h₃.get? b = some o := fun b o e => hsb.extBut b o (below b o e) (Heap.get?_push_of_some _ (hH ▸ Heap.get?_push_of_some _ e))
  have k₁₃ : ∀ b o, h₁.get? b = some o → h₃.get? b = some o := fun b o e => k₃ b o (k₂ b o e)
  have hl : h₃.get? h₂.objs.size = some (listOf (List.toArray []) 0) := hsb.extBut _ _ hDC (Heap.get?_push_of_some _ (hH ▸ Heap.get?_push_size _ rfl))
  have hD₁ : h₁.get? h₂.objs.size = none := none_back (fun b o e => ⟨o, k₂ b o e⟩) get?_size
  have hC₁ : h₁.get? H.objs.size = none := none_back (fun b o e => ⟨o, k₂ b o e⟩) (get?_big (by rw [hCs]; exact Nat.le_succ _))
  have J₃ := comp_inv ok I₁ k₁₃ hC₁ hD₁ hDC hns hl
  generalize hD : h₂.objs.size = D at hl hDC hD₁ J₃ ⊢
  generalize hC : H.objs.size = C at *
  have seqs : ∀ {h h' : Heap} {b : Addr}, (∃ o vs, h.get? b = some o ∧ o.data = .fields vs) → ∀ o, h.get? b = some o → notSeq o := fun ⟨o', vs, e', hd⟩ o ho xs n q => by
    rw [ho] at e'; cases e'; rw [hd] at q; cases q
  have hIf₃ : ∃ o vs, h₃.get? It = some o ∧ o.data = .fields vs := by
    obtain ⟨o, vs, e', hd⟩ := its.fields _ _ st
    exact ⟨o, vs, k₃ _ _ e', hd⟩
  have hIt₂ : ∃ o, h₂.get? It = some o := let ⟨o, _, e', _⟩ := its.fields _ _ st; ⟨o, e'⟩
  have lo₃ : Lone W (compEnvC scope cl C e) fr (hid₁ ++ [D]) h₃ It := by
    refine ⟨fun hm => ?_, fun hm => ?_, fun hm => ?_, none_back (fun b o q => ⟨o, I₁.base b o q⟩) hIt, seqs (h' := h₃) hIf₃⟩
    · rcases List.mem_append.mp hm with hm | hm
      · obtain ⟨ob, e', _⟩ := I₁.sr.there hm
        rw [hIt] at e'; cases e'
      · rw [List.mem_singleton.mp hm, ← hD, get?_size] at hIt₂
        obtain ⟨_, q⟩ := hIt₂; cases q
    · rcases List.mem_cons.mp hm with hm | hm
      · obtain ⟨o, e'⟩ := hIt₂
        exact below _ _ e' (hC ▸ hm)
      · obtain ⟨p, hp, hq⟩ := List.mem_map.mp hm
        obtain ⟨v, o, e', _⟩ := I₁.cells p.2 (lookup_mem (ok.cls p hp))
        rw [hq, hIt] at e'; cases e'
    · obtain ⟨_, o, es, ep, e', _⟩ := I₁.ff.dict It hm
      rw [hIt] at e'; cases e'
  have ex₁ : Ext hid₁ h₂ (hid₁ ++ [D]) := ⟨[D], rfl, fun a ha => by rw [List.mem_singleton.mp ha, ← hD]; exact get?_size⟩
  have itm₃ : Items h₃ (hid₁ ++ [D]) m P ds := itm.evo (own := []) (Evo.of_keep k₃) (fun _ q => nomatch q) ex₁
  have fix₃ : ∀ b ∈ fp, b ≠ It → Fix h₃ (hid₁ ++ [D]) b := fun b hb hbI => ((fix b hb hbI).evo (own := []) (Evo.of_keep k₃) (fun _ q => nomatch q) ex₁).1
  have st₃ : S 0 h₃ := (its.walks A ak.handled).frame _ _ _ st fun b _ o e => k₃ b o e
  have ev₃ : Evo ([] ++ hid₁) h₁ h₃ := Evo.of_keep k₁₃
  have hloc : ∀ (loc : Loc) (d : V), ∀ j d', sees loc vis j = some d' → upd (sees loc vis) i d j = some d' := fun loc d j d' hj => by
    unfold upd
    split
    · rename_i hji
      subst hji
      unfold sees at hj
      have := ok.vi
      rw [this] at hj
      simp at hj
    · exact hj
  have loop : ∀ s₃ : Shared, s₃ = { s with heap := h₃, toks := tk₂ + ([] : List (Str × Value)).length } → codeAny (model W.prog W.w) A (.compLoop (.ListComp elt [⟨.Name x px, iter, ifs, 0⟩] scope pos) 0 (.ref It) (.ref D) (compEnvC scope cl C e))
      (compPost (model W.prog W.w) A Eo use Q0 (.ref D) C) s₃ := by
    rintro s₃ rfl
    refine codeAny_compLoop_tests (CompI W (compEnvC scope cl C e) tbl (sees loc vis) fr s hid₁ h₁ σ₁ D It fp m P S ds fun j acc => compW (fun l σ Q => wpE gv mv O c l σ (fun d σ' => isB d fun b => σ' = σ ∧ Q b) (fun _ _ => False)) (fun l σ Q => wpE gv mv O b l σ (fun d σ' => σ' = σ ∧ Q d) (fun _ _ => False)) i (sees loc vis) σ₁ (ds.drop j) acc fun r => Q (.list r) σ₁) ?_ (m - 0)
      ⟨h₃, _, [], 0, rfl, rfl, Nat.zero_le _, Nat.zero_le _, rfl, st₃, ev₃, J₃, lo₃, itm₃, fix₃, q⟩
    rintro k s' ⟨h', tk, acc, j, rfl, rfl, hj, hacc, hb, st', ev, J, lo, itm', fix', q⟩
    by_cases hlt : j < m
    · refine (its.walks A ak.handled).item j _ _ _ hlt st' fun v h₄ tk₄ hP st₄ k₄ => ?_
      have hf₄ := its.fields _ _ st₄
      have t₄ : Touch [It] h' h₄ := fun b o e hb => k₄ b o hb e
      have los : Lones W (compEnvC scope cl C e) fr (hid₁ ++ [D]) h' [It] := fun b hb => by rw [List.mem_singleton.mp hb]; exact lo
      have J₄ := los.inv t₄ J
      have lo₄ := lo.touch hf₄
      have hjd : j < ds.length := itm'.1 ▸ hlt
      have r₄ : VR h₄ (hid₁ ++ [D]) ds[j] v := los.vr t₄ (itm'.2 j v _ hP (List.getElem?_eq_getElem hjd))
      have ev₄ : Evo ([] ++ hid₁) h₁ h₄ := ev.touch t₄ fun a ha => by rw [List.mem_singleton.mp ha]; exact hIt
      have itl : ∀ b ∈ [It], ∀ o, h'.get? b = some o → notSeq o := fun b hb o ho => by rw [List.mem_singleton.mp hb] at ho; exact lo.seq o ho
      have itm₄ := itm'.seqk (t₄.seqk itl) (Ext.refl _ _)
      have fix₄ : ∀ b ∈ fp, b ≠ It → Fix h₄ (hid₁ ++ [D]) b := fun b hb hbI => ((fix' b hb hbI).seqk (t₄.seqk itl) (Ext.refl _ _)).1
      have hk : (compEnvC scope cl C e).kindOf x = some .local := lookup_relabel_local ok.hx
      rw [List.drop_eq_getElem_cons hjd, compW] at q
      refine wpAny_assign_Name (store_local (s := { s with heap := h₄, toks := tk₄ }) ok.tx ok.ux hk J₄ r₄ fun h₅ tk₅ hs₅ hns₅ J₅ => ?_)
      have hx₅ : ∃ o, h₅.get? C = some o := let ⟨_, o, _, _, e', _⟩ := hns₅; ⟨o, e'⟩
      have e₅ : ∀ {ex : List Addr}, Evo ([C] ++ ex) h₄ h₅ := Evo.of_sameBut hs₅ (.head _) hx₅
      have ev₅ : Evo ([] ++ hid₁) h₁ h₅ := ev₄.trans (e₅ (ex := [])) fun a ha ⟨o, hl⟩ => by
        rw [List.append_nil] at ha
        rw [List.mem_singleton.mp ha, hC₁] at hl; cases hl
      have cl₅ : ∀ b ∈ [C], ∀ o, h₄.get? b = some o → notSeq o := fun b hb o ho => by
        rw [List.mem_singleton.mp hb] at ho
        exact J₄.notSeq C (.head _) o ho
      have hIC : It ≠ C := fun z => lo.own (z ▸ .head _)
      have lo₅ : Lone W (compEnvC scope cl C e) fr (hid₁ ++ [D]) h₅ It := lo₄.touch (let ⟨o, vs, e', hd⟩ := hf₄; ⟨o, vs, (hs₅.2 It hIC).trans e', hd⟩)
      have itm₅ := itm₄.evo e₅ cl₅ (Ext.refl _ _)
      have fix₅ : ∀ b ∈ fp, b ≠ It → Fix h₅ (hid₁ ++ [D]) b := fun b hb hbI => ((fix₄ b hb hbI).evo e₅ cl₅ (Ext.refl _ _)).1
      have st₅ : S (j + 1) h₅ := (its.walks A ak.handled).frame _ _ _ st₄ fun b hb o ho => by
        by_cases hbI : b = It
        · subst hbI; exact (hs₅.2 b hIC).trans ho
        · exact ((fix₄ b hb hbI).evo e₅ cl₅ (Ext.refl _ _)).2 o ho
      have after : ∀ {h₆ : Heap} {hid₆ : List Addr}, Post W [] h₅ (hid₁ ++ [D]) h₆ hid₆ (σ₁ ++ [.list acc]) → hid₆ = hid₁ ++ [D] ∧ Evo ([] ++ hid₁) h₁ h₆ ∧ Lone W (compEnvC scope cl C e) fr (hid₁ ++ [D]) h₆ It ∧ Items h₆ (hid₁ ++ [D]) m P ds ∧ (∀ b ∈ fp, b ≠ It → Fix h₆ (hid₁ ++ [D]) b) ∧ S (j + 1) h₆ := fun {h₆ hid₆} p => by
        obtain rfl := ext_same p.ext p.sr J.sr.len
        refine ⟨rfl, ev₅.trans p.evo (fun a ha ⟨o, hl⟩ => ?_), ?_, itm₅.evo p.evo (fun _ q => nomatch q) p.ext, fun b hb hbI => ((fix₅ b hb hbI).evo p.evo (fun _ q => nomatch q) p.ext).1, ?_⟩
        · rcases List.mem_append.mp ha with ha | ha
          · cases ha
          · rcases List.mem_append.mp ha with ha | ha
            · exact ha
            · rw [List.mem_singleton.mp ha, hD₁] at hl; cases hl
        · obtain ⟨o, vs, e', hd⟩ := its.fields _ _ st₅
          obtain ⟨o', e'', hs⟩ := p.evo.keep It o e' fun hm => lo₅.hid (by simpa using hm)
          exact lo₅.touch ⟨o', vs, e'', hs.data.trans hd⟩
        · refine (its.walks A ak.handled).frame _ _ _ st₅ fun b hb o ho => ?_
          by_cases hbI : b = It
          · subst hbI
            obtain ⟨o₁, vs, e', hd⟩ := its.fields _ _ st₅
            obtain ⟨o', e'', hs⟩ := p.evo.keep b o ho fun hm => lo₅.hid (by simpa using hm)
            rcases hs with rfl | ⟨⟨es, ep, hd'⟩, _⟩
            · exact e''
            · rw [ho] at e'; cases e'
              rw [hd] at hd'; cases hd'
          · exact ((fix₅ b hb hbI).evo p.evo (fun _ q => nomatch q) p.ext).2 o ho
      refine wpAny_mono ((hF C _).out _ (fun t σ' => σ' = σ₁ ++ [.list acc] ∧ _) _ q A fr { s with heap := h₅, toks := tk₅ } _ ak J₅) (fun t s' g => ?_) (fun _ _ q => noErr q)
      obtain ⟨h₆, tk₆, hid₆, σ₆, rfl, p₆, rfl, q⟩ := g
      obtain ⟨rfl, ev₆, lo₆, itm₆, fix₆, st₆⟩ := after p₆
      have J₆ := (J₅.post p₆).weaken (hloc loc ds[j])
      cases t with
      | false => exact ⟨m - (j + 1), by omega, h₆, tk₆, acc, j + 1, rfl, rfl, hlt, Nat.le_succ_of_le hacc, hb, st₆, ev₆, J₆, lo₆, itm₆, fix₆, q⟩
      | true =>
        refine wpAny_mono ((hE C _).out _ (fun d σ' => σ' = σ₁ ++ [.list acc] ∧ _) _ q A fr { s with heap := h₆, toks := tk₆ } _ ak (J₅.post p₆)) (fun v₂ s' g => ?_) (fun _ _ q => noErr q)
        obtain ⟨h₇, tk₇, hid₇, d₂, σ₇, rfl, p₇, r₇, rfl, hbd, q⟩ := g
        obtain ⟨rfl, ev₇, lo₇, itm₇, fix₇, st₇⟩ := after (p₆.trans p₇)
        have J₇ := J₆.post p₇
        have hget : (σ₁ ++ [MO.list acc])[σ₁.length]? = some (.list acc) := by rw [List.getElem?_append_right (Nat.le_refl _), Nat.sub_self]; rfl
        obtain ⟨D', hD', xs, nn, hlD, rs⟩ := J₇.sr.obj _ _ hget
        have hDD : (hid₁ ++ [D])[σ₁.length]? = some D := by rw [← I₁.sr.len, List.getElem?_append_right (Nat.le_refl _), Nat.sub_self]; rfl
        rw [hDD] at hD'; cases hD'
        have hz₂ : xs.toArray.size ≤ sizeLine := by
          rw [List.size_toArray, ← rs.length]
          exact Nat.le_trans (Nat.le_trans hacc hj) hz
        refine wpAny_list_append_plain (s := { s with heap := h₇, toks := tk₇ }) (hsz := hz₂) ⟨nn, hlD⟩ fun h₈ ⟨nn', hl₈⟩ hs₈ => ?_
        have sq : SeqK (hid₁ ++ [D]) h₇ h₈ := fun b o xs n e hd hb => (hs₈.2 b fun q => hb (by rw [q]; simp)).trans e
        have ho : ObjR W h₈ (hid₁ ++ [D]) D (.list (acc ++ [d₂])) := ⟨xs ++ [v₂], nn', by simpa using hl₈, (VRs.append rs (VRs.cons r₇ VRs.nil)).seqk sq (Ext.refl _ _)⟩
        have p₈ : Post W [] h₇ (hid₁ ++ [D]) h₈ (hid₁ ++ [D]) (σ₁ ++ [.list (acc ++ [d₂])]) := by
          have := write_post (own := []) J₇.sr J₇.base hDD hs₈ ho
          rwa [List.set_append_right _ _ (Nat.le_refl _), Nat.sub_self] at this
        have J₈ := J₇.post p₈
        have hID : It ≠ D := fun z => lo₇.hid (by rw [z]; simp)
        refine ⟨m - (j + 1), by omega, h₈, tk₇, acc ++ [d₂], j + 1, rfl, rfl, hlt, by rw [List.length_append]; simpa using Nat.succ_le_succ hacc, bares_append hb (by simp [bares, hbd]), ?_, ?_, J₈, ?_, itm₇.evo p₈.evo (fun _ q => nomatch q) p₈.ext, fun b hb hbI => ((fix₇ b hb hbI).evo p₈.evo (fun _ q => nomatch q) p₈.ext).1, q⟩
        · refine (its.walks A ak.handled).frame _ _ _ st₇ fun b hb o ho => ?_
          by_cases hbI : b = It
          · subst hbI; exact (hs₈.2 b hID).trans ho
          · exact ((fix₇ b hb hbI).evo p₈.evo (fun _ q => nomatch q) p₈.ext).2 o ho
        · exact ev₇.trans p₈.evo fun a ha ⟨o, hl⟩ => by
            rcases List.mem_append.mp ha with ha | ha
            · cases ha
            · rcases List.mem_append.mp ha with ha | ha
              · exact ha
              · rw [List.mem_singleton.mp ha, hD₁] at hl; cases hl
        · obtain ⟨o, vs, e', hd⟩ := its.fields _ _ st₇
          exact lo₇.touch ⟨o, vs, (hs₈.2 It hID).trans e', hd⟩
    · have hjm : j = m := by omega
      subst hjm
      refine (its.walks A ak.handled).done _ _ _ st' fun h₄ tk₄ k₄ => ?_
      have k₄' : ∀ b o, h'.get? b = some o → b ≠ It → h₄.get? b = some o := fun b o e hb => k₄ b o (by simpa using hb) e
      obtain ⟨mC, hnC, _⟩ := J.locs
      have hIC : C ≠ It := fun z => lo.own (z ▸ .head _)
      rw [← itm'.1, List.drop_length, compW] at q
      have t₄ : Touch [It] h' h₄ := fun b o e hb => k₄ b o hb e
      have los : Lones W (compEnvC scope cl C e) fr (hid₁ ++ [D]) h' [It] := fun b hb => by rw [List.mem_singleton.mp hb]; exact lo
      have J₄ := los.inv t₄ J
      exact fin h₁ hid₁ σ₁ h₄ tk₄ C D acc _ p₁ I₁ ⟨hC₁, hD₁, hDC, ev.touch t₄ fun a ha => by rw [List.mem_singleton.mp ha]; exact hIt, J₄.sr, J₄.base, ⟨mC, hnC.at' fun o e => k₄' C o e hIC⟩, hb⟩ q
  exact codeAny_compStart_list (loop _ rfl) ((its.walks A ak.handled).self 0 _ _ _ st₃ (loop _ rfl))

theorem snd_comp {x : Str} {i : Nat} {vis : List Nat} {scope : Scope} {cl : List (Str × Addr)} (ok : CompOk e tbl x i vis scope cl) {loc : Loc} {elt iter : Expr} {px pos : Pos} {ifs : List Expr} {a b c : ME} (hs : ∀ x, foldedSetIterable iter e x = pure x)
    (hI : SndI W cls n e tbl loc gv mv O iter a) (hF : ∀ C loc, SndF W cls n (compEnvC scope cl C e) tbl loc gv mv O ifs c) (hE : ∀ C loc, Snd W cls n (compEnvC scope cl C e) tbl loc gv mv O elt b) :
    Snd W cls n e tbl loc gv mv O (.ListComp elt [⟨.Name x px, iter, ifs, 0⟩] scope pos) (.comp i vis b a c) := by
  refine ⟨?_⟩
  intro σ Q E q A fr s hid ak I
  have q' : wpI gv mv O a loc σ (fun ds σ => compW (fun l σ Q => wpE gv mv O c l σ (fun d σ' => isB d fun b => σ' = σ ∧ Q b) (fun _ _ => False)) (fun l σ Q => wpE gv mv O b l σ (fun d σ' => σ' = σ ∧ Q d) (fun _ _ => False)) i (sees loc vis) σ ds [] fun r => Q (.list r) σ) E := by
    cases a <;> exact q
  rw [eval_ListComp]
  refine comp_core ok hs hI hF hE (use := none) ak I q' (fun _ _ e => e) fun h₁ hid₁ σ₁ h₄ tk₄ C D acc f p₁ I₁ cd q => ?_
  obtain ⟨hC₁, hD₁, hDC, ev, sr₂, base, ⟨mC, hnC⟩, hb⟩ := cd
  refine ⟨mC, hnC, fun h'' hs'' => ?_⟩
  have hne : ∀ b o, h₁.get? b = some o → b ≠ C := fun b o e z => by rw [z, hC₁] at e; cases e
  have hCn : W.hT.get? C = none := none_back (fun b o q => ⟨o, I₁.base b o q⟩) hC₁
  have hCh : C ∉ hid₁ ++ [D] := fun hm => by
    rcases List.mem_append.mp hm with hm | hm
    · obtain ⟨ob, e', _⟩ := I₁.sr.there hm
      rw [hC₁] at e'; cases e'
    · exact hDC (List.mem_singleton.mp hm).symm
  have hCs : ∀ o, h₄.get? C = some o → notSeq o := fun o e xs n hd => by
    obtain ⟨o', es, ep, e', hd', _⟩ := hnC
    rw [e] at e'; cases e'
    rw [hd] at hd'; cases hd'
  have sq : SeqK (hid₁ ++ [D]) h₄ h'' := fun b o xs n e hd hb => (hs''.2 b fun z => by rw [z] at e; exact hCs o e _ _ hd).trans e
  have sr₂' : SR W (σ₁ ++ [.list acc]) (hid₁ ++ [D]) h'' := sr₂.keepS sq fun a ha o e => (hs''.2 a fun z => hCh (z ▸ ha)).trans e
  have sr₁ : SR W σ₁ hid₁ h'' := sr₂'.drop I₁.sr.len fun i o e => I₁.sr.belows e
  have evf : Evo ([] ++ hid₁) h₁ h'' := ⟨fun b o e => let ⟨o', e'⟩ := ev.alive b o e; ⟨o', (hs''.2 b (hne b o e)).trans e'⟩, fun b o e hb => let ⟨o', e', s'⟩ := ev.keep b o e hb; ⟨o', (hs''.2 b (hne b o e)).trans e', s'⟩⟩
  have basef : W.hT.StaysIn h'' := fun b o e => (hs''.2 b fun z => by rw [z, hCn] at e; cases e).trans (base b o e)
  have hget : (σ₁ ++ [MO.list acc])[σ₁.length]? = some (.list acc) := by rw [List.getElem?_append_right (Nat.le_refl _), Nat.sub_self]; rfl
  obtain ⟨D', hD', xs, nn, hlD, rs⟩ := sr₂'.obj _ _ hget
  have hDD : (hid₁ ++ [D])[σ₁.length]? = some D := by rw [← I₁.sr.len, List.getElem?_append_right (Nat.le_refl _), Nat.sub_self]; rfl
  rw [hDD] at hD'; cases hD'
  refine ⟨h'', tk₄, hid₁, .list acc, σ₁, rfl, p₁.trans ⟨evf, Ext.refl _ _, sr₁, basef⟩, ?_, q⟩
  rw [VR]
  refine ⟨D, xs, nn, rfl, hlD, fun hm => ?_, VRs.drop_ rs (bares_below _ _ hb)⟩
  obtain ⟨o, e', _⟩ := I₁.sr.there hm
  rw [hD₁] at e'; cases e'

theorem CompDone.post {loc : Loc} {fr : List Env} {hid₁ : List Addr} {σ₁ : St} {h₁ h₄ : Heap} {C D : Addr} {acc : List V} (cd : CompDone W hid₁ σ₁ h₁ C D acc h₄) (I₁ : Inv W e tbl loc fr hid₁ σ₁ h₁) : Post W [] h₁ hid₁ h₄ hid₁ σ₁ ∧ VR h₄ hid₁ (.list acc) (.ref D) := by
  obtain ⟨hC₁, hD₁, hDC, ev, sr₂, base, ns, hb⟩ := cd
  have hget : (σ₁ ++ [MO.list acc])[σ₁.length]? = some (.list acc) := by rw [List.getElem?_append_right (Nat.le_refl _), Nat.sub_self]; rfl
  obtain ⟨D', hD', xs, nn, hlD, rs⟩ := sr₂.obj _ _ hget
  have hDD : (hid₁ ++ [D])[σ₁.length]? = some D := by rw [← I₁.sr.len, List.getElem?_append_right (Nat.le_refl _), Nat.sub_self]; rfl
  rw [hDD] at hD'; cases hD'
  refine ⟨⟨ev, Ext.refl _ _, sr₂.drop I₁.sr.len fun i o e => I₁.sr.belows e, base⟩, ?_⟩
  rw [VR]
  refine ⟨D, xs, nn, rfl, hlD, fun hm => ?_, VRs.drop_ rs (bares_below _ _ hb)⟩
  obtain ⟨o, e', _⟩ := I₁.sr.there hm
  rw [hD₁] at e'; cases e'

theorem sndS_asgcomp {x y : Str} {i j : Nat} {vis : List Nat} {scope : Scope} {cl : List (Str × Addr)} (ok : CompOk e tbl x i vis scope cl) {elt iter : Expr} {px py pos spos : Pos} {ifs : List Expr} {a b c : ME} (hs : ∀ x, foldedSetIterable iter e x = pure x)
    (hI : ∀ loc, SndI W cls n e tbl loc gv mv O iter a) (hF : ∀ C loc, SndF W cls n (compEnvC scope cl C e) tbl loc gv mv O ifs c) (hE : ∀ C loc, Snd W cls n (compEnvC scope cl C e) tbl loc gv mv O elt b)
    (hsw : swapsWith (.ListComp elt [⟨.Name x px, iter, ifs, 0⟩] scope pos) (some (.Name y py)) spos.line e = pure true) (ht : tbl[j]? = some y) (hu : ∀ k, tbl[k]? = some y → k = j) (hk : e.kindOf y = some .local) :
    SndS W cls n e tbl gv mv O (exec (.Assign [.Name y py] (.ListComp elt [⟨.Name x px, iter, ifs, 0⟩] scope pos) spos) e) (.asg j (.comp i vis b a c)) := by
  refine ⟨?_⟩
  intro loc σ Q E q A fr s hid ak I
  have q' : wpI gv mv O a loc σ (fun ds σ => compW (fun l σ Q => wpE gv mv O c l σ (fun d σ' => isB d fun b => σ' = σ ∧ Q b) (fun _ _ => False)) (fun l σ Q => wpE gv mv O b l σ (fun d σ' => σ' = σ ∧ Q d) (fun _ _ => False)) i (sees loc vis) σ ds [] fun r => Q .next (upd loc j (.list r)) σ) E := by
    cases a <;> exact q
  rw [exec_Assign_Name_used _ _ _ _ hsw]
  refine wpAny_bind (wpAny_standAt (wpAny_bind ?_))
  show wpAny _ A (do let _ ← comprehension (.ListComp elt [⟨.Name x px, iter, ifs, 0⟩] scope pos) scope e _ (newList []) false (eval iter e) (some (assign (.Name y py) e))) _ _ s
  refine wpAny_bind (wpAny_mono (comp_core ok hs (hI loc) hF hE (use := some (assign (.Name y py) e)) (Q := fun d σ => Q .next (upd loc j d) σ) (Q0 := fun _ s' => StQ W e tbl fr s hid Q .next s') ak I q' (fun _ _ q => q.toSt I) fun h₁ hid₁ σ₁ h₄ tk₄ C D acc f p₁ I₁ cd q => ?_) (fun _ s' hq => wpAny_pure (wpAny_pure hq)) fun _ _ e => e)
  obtain ⟨p₄, r₄⟩ := cd.post I₁
  have I₄ := I₁.post p₄
  have hne : ∀ {b : Addr}, (∃ o, h₁.get? b = some o) → C ≠ b := fun ⟨o, e⟩ z => by rw [← z, cd.hC] at e; cases e
  show wpAny _ A (assign (.Name y py) e (.ref D)) _ _ _
  refine wpAny_assign_Name (store_local (s := { s with heap := h₄, toks := tk₄ }) ht hu hk I₄ r₄ fun h₅ tk₅ hs₅ hn₅ I₅ => ?_)
  obtain ⟨mC, hnC⟩ := cd.ns
  have hCL : C ≠ e.locals := by
    obtain ⟨m, ⟨o, _, _, eo, _⟩, _⟩ := I₁.locs
    exact hne ⟨o, eo⟩
  have hn₅C : h₅.Ns C mC := hnC.sameBut hs₅ hCL
  refine ⟨mC, hn₅C, fun h' hs' => ?_⟩
  have lo : Lone W e fr hid₁ h₅ C := by
    refine ⟨fun hm => ?_, fun hm => ?_, fun hm => ?_, none_back (fun b o q => ⟨o, I₁.base b o q⟩) cd.hC, fun o eo xs n hd => ?_⟩
    · obtain ⟨ob, e', _⟩ := I₁.sr.there hm
      exact hne ⟨ob, e'⟩ rfl
    · obtain ⟨o, e', _⟩ := I₁.notFields hm
      exact hne ⟨o, e'⟩ rfl
    · obtain ⟨_, o, es, ep, e', _⟩ := I₁.ff.dict C hm
      exact hne ⟨o, e'⟩ rfl
    · obtain ⟨o', es, ep, e', hd', _⟩ := hn₅C
      rw [eo] at e'; cases e'
      rw [hd] at hd'; cases hd'
  have los : Lones W e fr hid₁ h₅ [C] := fun b hb => by rw [List.mem_singleton.mp hb]; exact lo
  have t : Touch [C] h₅ h' := fun b o eo hb => (hs'.2 b (by simpa using hb)).trans eo
  have I' := los.inv t I₅
  have p₅ : Post W (ownOf' e) h₄ hid₁ h₅ hid₁ σ₁ := set_post I₄ (.head _) hs₅ (let ⟨_, o, _, _, e', _⟩ := hn₅; ⟨o, e'⟩)
  have p15 : Post W (ownOf' e) s.heap hid h₅ hid₁ σ₁ := ((p₁.trans p₄).wider fun _ q => nomatch q).trans p₅
  exact ⟨h', tk₅, hid₁, .next, _, σ₁, rfl, p15.touch t (fun a ha => by rw [List.mem_singleton.mp ha]; exact none_back p₁.evo.alive cd.hC) I'.sr I'.base, I', rfl, q⟩
end
end Mine
end
section
set_option tactic.hygienic false
open PySem PySem.W PyProof.Rows PySem.Spec PySem.Calls PySem.Builtin.Str
set_option Elab.async false
set_option maxRecDepth 100000
set_option autoImplicit false
namespace Mine

section
variable {W : Wd} {cls : Xc → Addr} {n n₀ : Nat} {e : Env} {tbl : List Str} {gv : Nat → V} {mv : Str → V} {O : V → List V → St → (V → St → Prop) → (Xc → St → Prop) → Prop}

theorem lone_new {loc : Loc} {fr : List Env} {hid : List Addr} {σ : St} {h h' : Heap} {It : Addr} (I : Inv W e tbl loc fr hid σ h) (hIt : h.get? It = none) (hf : ∃ o vs, h'.get? It = some o ∧ o.data = .fields vs) : Lone W e fr hid h' It := by
  have ne : ∀ {b : Addr}, (∃ o, h.get? b = some o) → It ≠ b := fun ⟨o, e⟩ z => by rw [← z, hIt] at e; cases e
  refine ⟨fun hm => ?_, fun hm => ?_, fun hm => ?_, none_back (fun b o q => ⟨o, I.base b o q⟩) hIt, fun o ho xs n q => ?_⟩
  · obtain ⟨ob, e', _⟩ := I.sr.there hm
    exact ne ⟨ob, e'⟩ rfl
  · obtain ⟨o, e', _⟩ := I.notFields hm
    exact ne ⟨o, e'⟩ rfl
  · obtain ⟨_, o, es, ep, e', _⟩ := I.ff.dict It hm
    exact ne ⟨o, e'⟩ rfl
  · obtain ⟨o', vs, e', hd⟩ := hf
    rw [ho] at e'; cases e'
    rw [hd] at q; cases q

inductive ForI (W : Wd) (e : Env) (tbl : List Str) (fr : List Env) (s : Shared) (hid : List Addr) (It : Addr) (fp : List Addr) (m : Nat) (P : Nat → Value → Prop) (S : Nat → Heap → Prop) (ds : List V) (K : Nat → Loc → St → Prop) (k : Nat) (s' : Shared) : Prop
  | mk (h' : Heap) (tk : Nat) (hid' : List Addr) (loc' : Loc) (σ' : St) (j : Nat) (e1 : s' = { s with heap := h', toks := tk }) (e2 : k = m - j) (hj : j ≤ m) (st : S j h') (p : Post W (ownOf' e) s.heap hid h' hid' σ') (J : Inv W e tbl loc' fr hid' σ' h') (lo : Lone W e fr hid' h' It) (itm : Items h' hid' m P ds) (fix : ∀ b ∈ fp, b ≠ It → Fix h' hid' b) (q : K j loc' σ')

theorem sndS_for {x : Str} {i : Nat} {iter : Expr} {body : List Stmt} {px pos : Pos} {a : ME} {b : MS} (tx : tbl[i]? = some x) (ux : ∀ j, tbl[j]? = some x → j = i) (hk : e.kindOf x = some .local ∨ (e.kindOf x = some .cell ∧ ∃ c, e.cells.lookup x = some c)) (hs : ∀ x, foldedSetIterable iter e x = pure x)
    (hI : ∀ loc, SndI W cls n e tbl loc gv mv O iter a) (hb : SndS W cls n e tbl gv mv O (execs body e) b) : SndS W cls n e tbl gv mv O (exec (.For (.Name x px) iter body [] pos) e) (.forr i a b) := by
  refine ⟨?_⟩
  intro loc σ Q E q A fr s hid ak I
  have q' : wpI gv mv O a loc σ (fun ds σ => forW (fun loc σ Q => wpS gv mv O b loc σ Q (fun _ _ => False)) (fun loc _ d => upd loc i d) 0 ds loc σ Q) E := by cases a <;> exact q
  refine wpAny_For (wpAny_mono ((hI loc).out σ _ E q' A fr s hid ak I) (fun xv s₁ h₁ => wpAny_mono h₁ (fun it s₂ h₂ => ?_) (fun _ _ q => q.toSt I)) (fun _ _ q => q.toSt I)) hs
  obtain ⟨h₁, hid₁, σ₁, h₂, tk₂, It, fp, m, P, S, ds, rfl, p₁, I₁, q, rfl, hIt, k₂, its, st, itm, fix, hz⟩ := h₂
  have lo₂ := lone_new I₁ hIt (its.fields _ _ st)
  have g₂ : Post W (ownOf' e) h₁ hid₁ h₂ hid₁ σ₁ := grow_post' I₁.sr I₁.base k₂
  have J₂ : Inv W e tbl loc fr hid₁ σ₁ h₂ := I₁.post (grow_post' I₁.sr I₁.base k₂)
  have p₂ : Post W (ownOf' e) s.heap hid h₂ hid₁ σ₁ := (p₁.wider fun _ q => nomatch q).trans g₂
  have hIs : ∀ I ∈ [It], s.heap.get? I = none := fun I hI => by rw [List.mem_singleton.mp hI]; exact none_back p₁.evo.alive hIt
  refine codeAny_forLoop_any (ForI W e tbl fr s hid It fp m P S ds fun j loc' σ' => forW (fun loc σ Q => wpS gv mv O b loc σ Q (fun _ _ => False)) (fun loc _ d => upd loc i d) j (ds.drop j) loc' σ' Q) ?_ (m - 0)
    ⟨h₂, tk₂, hid₁, loc, σ₁, 0, rfl, rfl, Nat.zero_le _, st, p₂, J₂, lo₂, itm, fix, q⟩
  rintro k s' ⟨h', tk, hid', loc', σ', j, rfl, rfl, hj, st', p', J, lo, itm', fix', q⟩
  have los : Lones W e fr hid' h' [It] := fun b hb => by rw [List.mem_singleton.mp hb]; exact lo
  have itl : ∀ b ∈ [It], ∀ o, h'.get? b = some o → notSeq o := fun b hb o ho => by rw [List.mem_singleton.mp hb] at ho; exact lo.seq o ho
  by_cases hlt : j < m
  · refine (its.walks A ak.handled).item j _ _ _ hlt st' fun v h₄ tk₄ hP st₄ k₄ => ?_
    have hf₄ := its.fields _ _ st₄
    have t₄ : Touch [It] h' h₄ := fun b o e hb => k₄ b o hb e
    have J₄ := los.inv t₄ J
    have lo₄ := lo.touch hf₄
    have hjd : j < ds.length := itm'.1 ▸ hlt
    have r₄ : VR h₄ hid' ds[j] v := los.vr t₄ (itm'.2 j v _ hP (List.getElem?_eq_getElem hjd))
    have p₄ := p'.touch t₄ hIs J₄.sr J₄.base
    have itm₄ := itm'.seqk (t₄.seqk itl) (Ext.refl _ _)
    have fix₄ : ∀ b ∈ fp, b ≠ It → Fix h₄ hid' b := fun b hb hbI => ((fix' b hb hbI).seqk (t₄.seqk itl) (Ext.refl _ _)).1
    rw [List.drop_eq_getElem_cons hjd, forW] at q
    refine wpAny_of_eq rfl ?_
    refine wpAny_assign_Name (store_rule (s := { s with heap := h₄, toks := tk₄ }) tx ux hk J₄ r₄ fun h₅ tk₅ p₅ J₅ => ?_)
    refine wpAny_mono (hb.out _ _ _ _ q A fr { s with heap := h₅, toks := tk₅ } hid' ak J₅) (fun fl s' g => ?_) fun _ _ q => noStE q
    obtain ⟨h₆, tk₆, hid₆, f, loc₆, σ₆, rfl, p₆, J₆, r, q⟩ := g
    have p₅₆ := p₅.trans p₆
    have p₆' := p₄.trans p₅₆
    obtain ⟨o, vs, e', hd⟩ := hf₄
    have lo₆ := lo₄.later ⟨o, e'⟩ (fun _ q => q) p₅₆
    have sm := lo₄.same (fun _ q => q) p₅₆ e' hd
    cases f with
    | next =>
      cases r
      refine ⟨m - (j + 1), by omega, h₆, tk₆, hid₆, loc₆, σ₆, j + 1, rfl, rfl, hlt, ?_, p₆', J₆, lo₆, itm₄.evo p₅₆.evo J₄.notSeq p₅₆.ext, fun b hb hbI => ((fix₄ b hb hbI).evo p₅₆.evo J₄.notSeq p₅₆.ext).1, q⟩
      refine (its.walks A ak.handled).frame _ _ _ st₄ fun b hb o ho => ?_
      by_cases hbI : b = It
      · subst hbI; rw [e'] at ho; cases ho; exact sm
      · exact ((fix₄ b hb hbI).evo p₅₆.evo J₄.notSeq p₅₆.ext).2 o ho
    | brk => cases r; exact ⟨h₆, tk₆, hid₆, .next, loc₆, σ₆, rfl, p₆', J₆, rfl, q⟩
    | ret d => obtain ⟨v, rfl, r⟩ := r; exact ⟨h₆, tk₆, hid₆, .ret d, loc₆, σ₆, rfl, p₆', J₆, ⟨v, rfl, r⟩, q⟩
  · have hjm : j = m := by omega
    subst hjm
    refine (its.walks A ak.handled).done _ _ _ st' fun h₄ tk₄ k₄ => ?_
    have t₄ : Touch [It] h' h₄ := fun b o e hb => k₄ b o hb e
    have J₄ := los.inv t₄ J
    rw [← itm'.1, List.drop_length, forW] at q
    exact wpAny_execs_nil ⟨h₄, tk₄, hid', .next, loc', σ', rfl, p'.touch t₄ hIs J₄.sr J₄.base, J₄, rfl, q⟩
end
end Mine
end
section
open PySem PySem.W PyProof.Rows PySem.Spec PySem.Calls PySem.Builtin.Str
set_option Elab.async false
set_option maxRecDepth 100000
set_option autoImplicit false
namespace Mine

section
variable {W : Wd} {cls : Xc → Addr} {n n₀ : Nat} {e : Env} {tbl : List Str} {gv : Nat → V} {mv : Str → V} {O : V → List V → St → (V → St → Prop) → (Xc → St → Prop) → Prop}

structure Put (e : Env) (tbl : List Str) (i : Nat) (x : Str) : Prop where
  tx : tbl[i]? = some x
  ux : ∀ j, tbl[j]? = some x → j = i
  kind : e.kindOf x = some .local ∨ (e.kindOf x = some .cell ∧ ∃ c, e.cells.lookup x = some c)

theorem store_two {x y : Str} {i j : Nat} (px : Put e tbl i x) (py : Put e tbl j y) {d₁ d₂ : V} {v₁ v₂ : Value} {loc : Loc} {A : Around} {fr : List Env} {s : Shared} {hid : List Addr} {σ : St} {E' : Value → Shared → Prop} {Q : Unit → Shared → Prop} (I : Inv W e tbl loc fr hid σ s.heap)
    (r₁ : VR s.heap hid d₁ v₁) (r₂ : VR s.heap hid d₂ v₂) (q : ∀ h' tk, Post W (ownOf' e) s.heap hid h' hid σ → Inv W e tbl (upd (upd loc i d₁) j d₂) fr hid σ h' → Q () { s with heap := h', toks := tk }) :
    wpAny (model W.prog W.w) A (storeName e x v₁) (fun _ s₁ => wpAny (model W.prog W.w) A (storeName e y v₂) Q E' s₁) E' s :=
  store_rule px.tx px.ux px.kind I r₁ fun h₁ tk₁ p₁ I₁ => store_rule (s := { s with heap := h₁, toks := tk₁ }) py.tx py.ux py.kind I₁ (VR.evo p₁.evo I.notSeq p₁.ext r₂) fun h₂ tk₂ p₂ I₂ => q h₂ tk₂ (p₁.trans p₂) I₂

theorem upd_comm {loc : Loc} {i j : Nat} {a b : V} (h : i ≠ j) : upd (upd loc i a) j b = upd (upd loc j b) i a := by
  funext k
  unfold upd
  by_cases h1 : k = j
  · by_cases h2 : k = i
    · exact absurd (h2.symm.trans h1) h
    · rw [if_pos h1, if_neg h2, if_pos h1]
  · by_cases h2 : k = i
    · rw [if_neg h1, if_pos h2, if_pos h2]
    · rw [if_neg h1, if_neg h2, if_neg h2, if_neg h1]

theorem two_of {l : List V} {vs : List Value} {h : Heap} {hid : List Addr} {x y : V} (r : VRs h hid [x, y] vs) : ∃ a b, vs = [a, b] ∧ VR h hid x a ∧ VR h hid y b := by
  have := r.length
  match vs, r with
  | [a, b], r => simp only [VRs] at r; exact ⟨a, b, rfl, r.1, r.2.1⟩

theorem sndS_unp2 {x y : Str} {i j : Nat} {value : Expr} {a : ME} {p₁ p₂ pt pos : Pos} {k : Nat} (px : Put e tbl i x) (py : Put e tbl j y) (h : ∀ loc, Snd W cls n e tbl loc gv mv O value a)
    (hs : swapsWithSole [.Tuple [.Name x p₁, .Name y p₂] k pt] value pos.line e = pure false) (hw : swappedStores [.Tuple [.Name x p₁, .Name y p₂] k pt] value e = pure none) :
    SndS W cls n e tbl gv mv O (exec (.Assign [.Tuple [.Name x p₁, .Name y p₂] k pt] value pos) e) (.unp2 i j a) := by
  refine ⟨?_⟩
  intro loc σ Q E q A fr s hid ak I
  refine PyProof.Rows.Assign_Tuple (((h loc).out σ _ E q).then ak I (fun _ _ q => q.toSt I) fun v h₁ tk₁ hid₁ d σ₁ p I₁ r q => ?_) hs hw
  have p' : Post W (ownOf' e) s.heap hid h₁ hid₁ σ₁ := p.wider fun _ q => nomatch q
  cases d <;> first | exact False.elim q | skip
  rename_i l
  rcases l with _ | ⟨dx, _ | ⟨dy, _ | ⟨dz, l⟩⟩⟩ <;> first | exact False.elim q | skip
  · simp only [VR] at r
    obtain ⟨t, xs, m, rfl, ht, hm, rs⟩ := r
    obtain ⟨v₁, v₂, rfl, r₁, r₂⟩ := two_of (l := []) rs
    refine wpAny_assign_Tuple (s := { s with heap := h₁, toks := tk₁ }) ak.handled ⟨_, ht, rfl, _, rfl⟩ rfl rfl fun h₂ hx => ?_
    have kk : ∀ b o, h₁.get? b = some o → h₂.get? b = some o := fun b o e => hx b o (Nat.ne_of_lt (Heap.lt_size e)) e
    have g₂ := grow_post' (own := []) I₁.sr I₁.base kk
    have I₂ := I₁.post g₂
    show wpAny _ A (do holding [v₂] (assign (.Name x p₁) e v₁); do holding [] (assign (.Name y p₂) e v₂); pure ()) _ _ _
    refine wpAny_bind (wpAny_holding (wpAny_assign_Name (wpAny_mono (store_two (s := { s with heap := h₂, toks := tk₁ }) (E' := StE W cls e tbl fr s hid E) px py I₂ (VR.evo g₂.evo (fun _ q => nomatch q) g₂.ext r₁) (VR.evo g₂.evo (fun _ q => nomatch q) g₂.ext r₂) fun h₃ tk₃ p₃ I₃ => ?_) (fun _ s' g => wpAny_bind (wpAny_holding (wpAny_assign_Name (wpAny_mono g (fun _ _ q => wpAny_pure q) fun _ _ q => q)))) fun _ _ q => q)))
    exact ⟨h₃, tk₃, hid₁, .next, _, σ₁, rfl, (p'.trans (g₂.wider fun _ q => nomatch q)).trans p₃, I₃, rfl, q⟩

theorem sndS_unp2w {x y : Str} {i j : Nat} {value : Expr} {a : ME} {p₁ p₂ pt pos : Pos} {k : Nat} (px : Put e tbl i x) (py : Put e tbl j y) (hij : i ≠ j) (h : ∀ loc, Snd W cls n e tbl loc gv mv O value a)
    (hs : swapsWithSole [.Tuple [.Name x p₁, .Name y p₂] k pt] value pos.line e = pure false) (hw : swappedStores [.Tuple [.Name x p₁, .Name y p₂] k pt] value e = pure (some [x, y])) :
    SndS W cls n e tbl gv mv O (exec (.Assign [.Tuple [.Name x p₁, .Name y p₂] k pt] value pos) e) (.unp2 i j a) := by
  refine ⟨?_⟩
  intro loc σ Q E q A fr s hid ak I
  refine Assign_Tuple_swapped (((h loc).out σ _ E q).then ak I (fun _ _ q => q.toSt I) fun v h₁ tk₁ hid₁ d σ₁ p I₁ r q => ?_) hs hw
  have p' : Post W (ownOf' e) s.heap hid h₁ hid₁ σ₁ := p.wider fun _ q => nomatch q
  cases d <;> first | exact False.elim q | skip
  rename_i l
  rcases l with _ | ⟨dx, _ | ⟨dy, _ | ⟨dz, l⟩⟩⟩ <;> first | exact False.elim q | skip
  · simp only [VR] at r
    obtain ⟨t, xs, m, rfl, ht, hm, rs⟩ := r
    obtain ⟨v₁, v₂, rfl, r₁, r₂⟩ := two_of (l := []) rs
    refine wpAny_unpackItems_tuple (s := { s with heap := h₁, toks := tk₁ }) (items := #[v₁, v₂]) ak.handled ⟨_, ht, rfl, _, rfl⟩ fun h₂ hx => ?_
    have kk : ∀ b o, h₁.get? b = some o → h₂.get? b = some o := fun b o e => hx b o (Nat.ne_of_lt (Heap.lt_size e)) e
    have g₂ := grow_post' (own := []) I₁.sr I₁.base kk
    have I₂ := I₁.post g₂
    show wpAny _ A (do holding [v₁] (bindName e y v₂); do holding [] (bindName e x v₁); pure ()) _ _ _
    refine wpAny_bind (wpAny_holding (wpAny_bindName (wpAny_mono (store_two (s := { s with heap := h₂, toks := tk₁ }) (E' := StE W cls e tbl fr s hid E) py px I₂ (VR.evo g₂.evo (fun _ q => nomatch q) g₂.ext r₂) (VR.evo g₂.evo (fun _ q => nomatch q) g₂.ext r₁) fun h₃ tk₃ p₃ I₃ => ?_) (fun _ s' g => wpAny_bind (wpAny_holding (wpAny_bindName (wpAny_mono g (fun _ _ q => wpAny_pure q) fun _ _ q => q)))) fun _ _ q => q)))
    refine ⟨h₃, tk₃, hid₁, .next, _, σ₁, rfl, (p'.trans (g₂.wider fun _ q => nomatch q)).trans p₃, I₃, rfl, ?_⟩
    rw [← upd_comm hij]; exact q
end
end Mine
end
section
open PySem PySem.W PyProof.Rows PySem.Spec PySem.Calls PySem.Builtin.Str
set_option Elab.async false
set_option maxRecDepth 100000
set_option autoImplicit false
namespace Mine

section
variable {W : Wd} {cls : Xc → Addr} {n n₀ : Nat} {e : Env} {tbl : List Str} {gv : Nat → V} {mv : Str → V} {O : V → List V → St → (V → St → Prop) → (Xc → St → Prop) → Prop}

inductive ForeI (W : Wd) (e : Env) (tbl : List Str) (fr : List Env) (s : Shared) (hid : List Addr) (en it l : Addr) (xs : List Value) (ds : List V) (K : Nat → Loc → St → Prop) (k : Nat) (s' : Shared) : Prop
  | mk (h' : Heap) (tk : Nat) (hid' : List Addr) (loc' : Loc) (σ' : St) (j' : Nat) (e1 : s' = { s with heap := h', toks := tk }) (e2 : k = xs.toArray.size - j') (hj : j' ≤ xs.toArray.size) (st : (∃ old, IsEnum h' en it (j' : Nat) old) ∧ h'.IsListIter it l j' ∧ h'.IsList l xs.toArray) (p : Post W (ownOf' e) s.heap hid h' hid' σ') (J : Inv W e tbl loc' fr hid' σ' h') (le : Lone W e fr hid' h' en) (li : Lone W e fr hid' h' it) (rs : VRs h' hid' ds xs) (fx : Fix h' hid' l) (q : K j' loc' σ')

theorem sndS_fore {x y : Str} {i j : Nat} {arg : Expr} {body : List Stmt} {pn₀ pn₁ pn₂ pn₃ pt pos : Pos} {kk : Nat} {a : ME} {b : MS} (px : Put e tbl i x) (py : Put e tbl j y) (hl : Boot W e "enumerate" (.type "enumerate")) (hs : ∀ x, foldedSetIterable (.Call (.Name "enumerate" pn₀) [arg] [] pn₁) e x = pure x)
    (hx : ∀ loc, Snd W cls n e tbl loc gv mv O arg a) (hst : isStar arg = false) (hb : SndS W cls n e tbl gv mv O (execs body e) b) : SndS W cls n e tbl gv mv O (exec (.For (.Tuple [.Name x pn₂, .Name y pn₃] kk pt) (.Call (.Name "enumerate" pn₀) [arg] [] pn₁) body [] pos) e) (.fore i j a b) := by
  refine ⟨?_⟩
  intro loc σ Q E q A fr s hid ak I
  refine wpAny_For (Call_ (hl I ?_)) hs
  rw [starEach_cons hst]
  refine PySem.callWith_type1 (((hx loc).out σ _ E q).then ak I (fun _ _ q => q.toSt I) fun v h₁ tk₁ hid₁ d σ₁ p₁ I₁ r q => ?_)
  split at q
  case h_2 => exact q.elim
  rename_i ds
  simp only [VR] at r
  obtain ⟨l, xs, m₀, rfl, ht, hml, rs⟩ := r
  refine call_enumerate_list (s := { s with heap := h₁, toks := tk₁ }) (items := xs.toArray) ⟨_, ht, rfl, _, rfl⟩ fun h₂ hen hit hsz k₂ => ?_
  dsimp only at hen hit hsz k₂ ⊢
  have hIt : h₁.get? h₁.objs.size = none := get?_size
  have hEn : h₁.get? (h₁.objs.size + 1) = none := get?_big (Nat.le_succ _)
  have hlI : l ≠ h₁.objs.size := Nat.ne_of_lt (Heap.lt_size ht)
  have hlE : l ≠ h₁.objs.size + 1 := Nat.ne_of_lt (Nat.lt_succ_of_lt (Heap.lt_size ht))
  have hEI : h₁.objs.size + 1 ≠ h₁.objs.size := Nat.succ_ne_self _
  generalize h₁.objs.size + 1 = en at *
  generalize h₁.objs.size = it at *
  refine wpAny_pyIter_enum hen ?_
  have Wk : ∀ A' : Around, A'.handled = none → _ := fun A' hA => WalksT.enumerate (prog := W.prog) (w := W.w) (A := A') hA en it l hEI hlE hlI xs.toArray
  have k₂' : ∀ b o, h₁.get? b = some o → h₂.get? b = some o := k₂
  have J₂ : Inv W e tbl loc fr hid₁ σ₁ h₂ := I₁.post (grow_post' I₁.sr I₁.base k₂')
  have g₂ : Post W (ownOf' e) h₁ hid₁ h₂ hid₁ σ₁ := grow_post' I₁.sr I₁.base k₂'
  have p₂ : Post W (ownOf' e) s.heap hid h₂ hid₁ σ₁ := (p₁.wider fun _ q => nomatch q).trans g₂
  have fen : ∀ {h : Heap} {i : Int} {old : Value}, IsEnum h en it i old → ∃ o vs, h.get? en = some o ∧ o.data = .fields vs := fun e => ⟨_, _, e, rfl⟩
  have feo : ∀ {h : Heap} {i : Int} {old : Value} {T : Addr}, IsEnumOut h en it i old T → ∃ o vs, h.get? en = some o ∧ o.data = .fields vs := fun e => ⟨_, _, e, rfl⟩
  have fit : ∀ {h : Heap} {i : Nat}, h.IsListIter it l i → ∃ o vs, h.get? it = some o ∧ o.data = .fields vs := fun ⟨o, e, _, hd⟩ => ⟨o, _, e, hd⟩
  have lo2 : ∀ {hid : List Addr} {h : Heap}, Lone W e fr hid h en → Lone W e fr hid h it → Lones W e fr hid h [en, it] := fun a b I hI => by
    rcases List.mem_cons.mp hI with rfl | hI
    · exact a
    · rw [List.mem_singleton.mp hI]; exact b
  have le₂ := lone_new I₁ hEn (fen hen)
  have li₂ := lone_new I₁ hIt (fit hit)
  have hIs : ∀ I ∈ [en, it], s.heap.get? I = none := fun I hI => none_back p₁.evo.alive (by
    rcases List.mem_cons.mp hI with rfl | hI
    · exact hEn
    · rw [List.mem_singleton.mp hI]; exact hIt)
  have hzx : ds.length = xs.toArray.size := by rw [rs.length]; simp
  refine codeAny_forLoop_any (ForeI W e tbl fr s hid en it l xs ds fun j' loc' σ' => forW (fun loc σ Q => wpS gv mv O b loc σ Q (fun _ _ => False)) (fun loc k d => upd (upd loc i (.int (k : Nat))) j d) j' (ds.drop j') loc' σ' Q) ?_ (xs.toArray.size - 0)
    ⟨h₂, tk₁, hid₁, loc, σ₁, 0, rfl, rfl, Nat.zero_le _, ⟨⟨_, hen⟩, hit, ⟨_, k₂' _ _ ht, rfl, _, rfl⟩⟩, p₂, J₂, le₂, li₂, VRs.evo (own := []) (Evo.of_keep k₂') (fun _ q => nomatch q) (Ext.refl _ _) rs, ⟨_, _, _, k₂' _ _ ht, rfl, hml⟩, q.2⟩
  rintro k s' ⟨h', tk, hid', loc', σ', j', rfl, rfl, hj, st', p', J, le, li, rs', fix', q⟩
  have los := lo2 le li
  by_cases hlt : j' < xs.toArray.size
  · refine (Wk A ak.handled).item j' _ _ _ hlt st' fun T vals h₄ tk₄ hP hT hTT mid k₄ => ?_
    have t₄ : Touch [en, it] h' h₄ := fun b o e hb => k₄ b o hb e
    have J₄ := los.inv t₄ J
    have le₄ := le.touch (let ⟨⟨_, m⟩, _⟩ := mid; feo m)
    have li₄ := li.touch (let ⟨_, m, _⟩ := mid; fit m)
    have p₄ := p'.touch t₄ hIs J₄.sr J₄.base
    have sq₄ : SeqK hid' h' h₄ := t₄.seqk fun I hI => (los I hI).seq
    have rs₄ := VRs.seqk sq₄ (Ext.refl _ _) rs'
    have fix₄ := (fix'.seqk sq₄ (Ext.refl _ _)).1
    have hTw := (Wk A ak.handled).apart _ _ _ mid
    refine (Wk A ak.handled).go _ _ _ _ _ { s with heap := h₄, toks := tk₄ } _ _ mid fun h₅ st₅ k₅ => ?_
    have t₅ : Touch [en, it] h₄ h₅ := fun b o e hb => k₅ b o hb e
    have los₄ := lo2 le₄ li₄
    have J₅ := los₄.inv t₅ J₄
    have le₅ := le₄.touch (let ⟨⟨_, m⟩, _⟩ := st₅; fen m)
    have li₅ := li₄.touch (let ⟨_, m, _⟩ := st₅; fit m)
    have p₅ := p₄.touch t₅ hIs J₅.sr J₅.base
    have sq₅ : SeqK hid' h₄ h₅ := t₅.seqk fun I hI => (los₄ I hI).seq
    have rs₅ := VRs.seqk sq₅ (Ext.refl _ _) rs₄
    have fix₅ := (fix₄.seqk sq₅ (Ext.refl _ _)).1
    have hT₅ : h₅.IsTuple T vals := let ⟨o, e, r⟩ := hTT; ⟨o, k₅ T o hTw e, r⟩
    obtain ⟨tv, xv, hxv, rfl⟩ := hP
    refine wpAny_assign_Tuple (s := { s with heap := h₅, toks := tk₄ }) ak.handled hT₅ rfl rfl fun h₆ hx₆ => ?_
    have k₆ : ∀ b o, h₅.get? b = some o → h₆.get? b = some o := fun b o e => hx₆ b o (Nat.ne_of_lt (Heap.lt_size e)) e
    have g₆ := grow_post' (own := ownOf' e) J₅.sr J₅.base k₆
    have J₆ := J₅.post (grow_post' J₅.sr J₅.base k₆)
    have rs₆ := VRs.evo (own := []) (Evo.of_keep k₆) (fun _ q => nomatch q) (Ext.refl _ _) rs₅
    have hjd : j' < ds.length := hzx ▸ hlt
    obtain ⟨v', e', r₆⟩ := rs₆.get (List.getElem?_eq_getElem hjd)
    have hxv' : xs[j']? = some xv := by simpa using hxv
    rw [hxv'] at e'; cases e'
    rw [List.drop_eq_getElem_cons hjd, forW] at q
    show wpAny _ A (do holding [xv] (assign (.Name x pn₂) e (.int j' tv)); do holding [] (assign (.Name y pn₃) e xv); pure ()) _ _ _
    refine wpAny_bind (wpAny_holding (wpAny_assign_Name (wpAny_mono (store_two (s := { s with heap := h₆, toks := tk₄ }) px py J₆ (vr_int (i := (j' : Nat))) r₆ fun h₇ tk₇ p₇ J₇ => ?_) (fun _ s' g => wpAny_bind (wpAny_holding (wpAny_assign_Name (wpAny_mono g (fun _ _ q => wpAny_pure q) fun _ _ q => q)))) fun _ _ q => q)))
    refine wpAny_mono (hb.out _ _ _ _ q A fr { s with heap := h₇, toks := tk₇ } hid' ak J₇) (fun fl s' g => ?_) fun _ _ q => noStE q
    obtain ⟨h₈, tk₈, hid₈, f, loc₈, σ₈, rfl, p₈, J₈, r, q⟩ := g
    have p₅₈ := g₆.trans (p₇.trans p₈)
    have pf := p₅.trans p₅₈
    cases f with
    | next =>
      cases r
      obtain ⟨⟨old, he⟩, hit, hls⟩ := st₅
      obtain ⟨o₁, vs₁, e₁, d₁⟩ := fit hit
      have se := le₅.same (fun _ q => q) p₅₈ he rfl
      have si := li₅.same (fun _ q => q) p₅₈ e₁ d₁
      have sf := fix₅.evo p₅₈.evo J₅.notSeq p₅₈.ext
      refine ⟨xs.toArray.size - (j' + 1), by omega, h₈, tk₈, hid₈, loc₈, σ₈, j' + 1, rfl, rfl, hlt, ⟨⟨old, ?_⟩, hit.at fun o e => ?_, hls.at fun o e => sf.2 o e⟩, pf, J₈, le₅.later ⟨_, he⟩ (fun _ q => q) p₅₈, li₅.later ⟨_, e₁⟩ (fun _ q => q) p₅₈, VRs.evo p₅₈.evo J₅.notSeq p₅₈.ext rs₅, sf.1, q⟩
      · exact se
      · rw [e₁] at e; cases e; exact si
    | brk => cases r; exact ⟨h₈, tk₈, hid₈, .next, loc₈, σ₈, rfl, pf, J₈, rfl, q⟩
    | ret d => obtain ⟨v, rfl, r⟩ := r; exact ⟨h₈, tk₈, hid₈, .ret d, loc₈, σ₈, rfl, pf, J₈, ⟨v, rfl, r⟩, q⟩
  · have hjm : j' = xs.toArray.size := by omega
    subst hjm
    refine (Wk A ak.handled).done _ _ _ st' fun h₄ tk₄ k₄ => ?_
    have t₄ : Touch [en, it] h' h₄ := fun b o e hb => k₄ b o hb e
    have J₄ := los.inv t₄ J
    rw [← hzx, List.drop_length, forW] at q
    exact wpAny_execs_nil ⟨h₄, tk₄, hid', .next, loc', σ', rfl, p'.touch t₄ hIs J₄.sr J₄.base, J₄, rfl, q⟩
end
end Mine
end
section
set_option tactic.hygienic false
open PySem PySem.W PyProof.Rows PySem.Spec PySem.Calls PySem.Builtin.Str
set_option Elab.async false
set_option maxRecDepth 100000
set_option autoImplicit false
namespace Mine

theorem mapSeq_list (f : Array Value → Array Value) (xs : List Value) (n : Nat) : ∃ m, Obj.mapSeq f (listOf xs.toArray n) = listOf (f xs.toArray).toList.toArray m := ⟨_, by simp only [Obj.mapSeq, Array.toArray_toList]; rfl⟩

theorem list_post {W : Wd} {own hid : List Addr} {σ : St} {h : Heap} {i : Nat} {a : Addr} {xs : List Value} {n : Nat} {f : Array Value → Array Value} {ds : List V} (sr : SR W σ hid h) (b : W.hT.StaysIn h) (hi : hid[i]? = some a) (hl : h.get? a = some (listOf xs.toArray n))
    (r : VRs h hid ds (f xs.toArray).toList) : Post W own h hid (h.update a (Obj.mapSeq f)) hid (σ.set i (.list ds)) := by
  obtain ⟨m, hm⟩ := mapSeq_list f xs n
  have hg : (h.update a (Obj.mapSeq f)).get? a = some (listOf (f xs.toArray).toList.toArray m) := by
    rw [Heap.get?_update_self _ hl (by rw [hm]; rfl), hm]
  have hs : Heap.SameBut a h (h.update a (Obj.mapSeq f)) := Heap.SameBut.update ..
  refine write_post sr b hi hs ⟨_, m, hg, r.seqk (fun b o xs n e hd hb => (hs.2 b fun q => hb ?_).trans e) (Ext.refl _ _)⟩
  rw [q]; exact List.mem_of_getElem? hi

section
variable {W : Wd} {cls : Xc → Addr} {n n₀ : Nat} {e : Env} {tbl : List Str} {loc : Loc} {gv : Nat → V} {mv : Str → V} {O : V → List V → St → (V → St → Prop) → (Xc → St → Prop) → Prop}

theorem obj_is {σ : St} {hid : List Addr} {h : Heap} {i : Nat} {v : Value} {o : MO} (sr : SR W σ hid h) (r : VR h hid (.obj i) v) (e : σ[i]? = some o) : ∃ a, v = .ref a ∧ hid[i]? = some a ∧ ObjR W h hid a o := by
  rw [VR] at r
  obtain ⟨a, rfl, hi⟩ := r
  obtain ⟨a', hi', ho⟩ := sr.obj i o e
  rw [hi] at hi'; cases hi'
  exact ⟨a, rfl, hi, ho⟩

theorem snd_append {o x : Expr} {a b : ME} {apos pos : Pos} (ho : Snd W cls n e tbl loc gv mv O o a) (hx : Snd W cls n e tbl loc gv mv O x b) (hs : isStar x = false) (hb : attributeBase o "append" e (eval o e) = eval o e) (hl : (apos.endLine == pos.line) = true) :
    Snd W cls n e tbl loc gv mv O (.Call (.Attribute o "append" apos) [x] [] pos) (.append a b) := by
  refine ⟨?_⟩
  intro σ Q E q A fr s hid ak I
  refine PySem.Call_method1 hb (starEach_cons hs) hl ((ho.out σ _ E q).then ak I (fun _ _ q => q) fun v h₁ tk₁ hid₁ d σ₁ p I₁ r q => ?_)
  obtain ⟨⟨i, l, rfl, hσ⟩, q⟩ := q
  obtain ⟨c, rfl, hi, xs, m, hc, rs⟩ := obj_is I₁.sr r hσ
  refine ⟨"list", "list.append", PySem.F.plainAttrs_list, PySem.F.slot_list_append, type_list_append, ⟨_, hc, rfl⟩, fun a' ha => ⟨_, (by cases ha; exact hc), rfl⟩, ?_⟩
  refine PySem.P.append_list ((hx.out σ₁ _ E q).then (s := { s with heap := h₁, toks := tk₁ }) ak I₁ (fun _ _ q => ErQ.lift p q) fun v₂ h₂ tk₂ hid₂ d₂ σ₂ p₂ I₂ r₂ q => ?_)
  obtain ⟨l', hσ', hz, q⟩ := q
  have r' : VR h₂ hid₂ (.obj i) (.ref c) := VR.evo (own := []) p₂.evo (fun _ q => nomatch q) p₂.ext r
  obtain ⟨c', hcc, hi', xs', m', hc', rs'⟩ := obj_is I₂.sr r' hσ'
  cases hcc
  refine ⟨xs'.toArray, m', by rw [List.size_toArray, ← rs'.length]; exact Nat.le_trans hz big_le, hc', OkQ.lift (tk₁ := tk₂) (p.trans p₂) ⟨_, tk₂, hid₂, .none, _, rfl, list_post (ds := l' ++ [d₂]) I₂.sr I₂.base hi' hc' ?_, vr_none, q⟩⟩
  simpa using rs'.append (VRs.cons r₂ VRs.nil)

theorem snd_pop {o : Expr} {a : ME} {apos pos : Pos} (ho : Snd W cls n e tbl loc gv mv O o a) (hb : attributeBase o "pop" e (eval o e) = eval o e) (hl : (apos.endLine == pos.line) = true) :
    Snd W cls n e tbl loc gv mv O (.Call (.Attribute o "pop" apos) [] [] pos) (.pop a) := by
  refine ⟨?_⟩
  intro σ Q E q A fr s hid ak I
  refine PySem.Call_method0 hb hl ((ho.out σ _ E q).then ak I (fun _ _ q => q) fun v h₁ tk₁ hid₁ d σ₁ p I₁ r q => ?_)
  cases d <;> first | exact False.elim q | skip
  · rename_i i
    obtain ⟨l, x, hσ, hz, q⟩ := q
    obtain ⟨c, rfl, hi, xs, m, hc, rs⟩ := obj_is I₁.sr r hσ
    refine ⟨"list", "list.pop", PySem.F.plainAttrs_list, PySem.F.slot_list_pop, PySem.F.type_list_pop, ⟨_, hc, rfl⟩, fun a' ha => ⟨_, (by cases ha; exact hc), rfl⟩, ?_⟩
    obtain ⟨ys, y, rfl, rl, rx⟩ : ∃ ys y, xs = ys ++ [y] ∧ VRs h₁ hid₁ l ys ∧ VR h₁ hid₁ x y := by
      have hlen := rs.length
      rw [List.length_append, List.length_singleton] at hlen
      have hne : xs ≠ [] := fun z => by rw [z] at hlen; simp at hlen
      have ex : xs = xs.take l.length ++ xs.drop l.length := (List.take_append_drop _ _).symm
      have r1 := VRs.take l.length rs
      have r2 := VRs.drop l.length rs
      rw [List.take_left] at r1
      rw [List.drop_left] at r2
      have hd := r2.length
      match hq : xs.drop l.length, r2 with
      | [y], r2 => rw [hq] at ex; rw [VRs] at r2; exact ⟨_, y, ex, r1, r2.1⟩
      | [], r2 => rw [VRs] at r2; exact r2.elim
      | _ :: _ :: _, r2 => rw [VRs] at r2; have := r2.2; rw [VRs] at this; exact this.elim
    have hsz : (ys ++ [y]).toArray.size = ys.length + 1 := by simp
    refine PySem.P.pop_list (s := { s with heap := h₁, toks := tk₁ }) (items := (ys ++ [y]).toArray) hc (y := y) (by simp) ?_ (by rw [hsz, ← rl.length, sizeLine_eq]; simp only [big] at hz; omega)
    refine OkQ.lift (tk₁ := tk₁) p ⟨_, tk₁, hid₁, x, _, rfl, list_post (ds := l) I₁.sr I₁.base hi hc ?_, ?_, q⟩
    · have : (Array.eraseIdxIfInBounds (ys ++ [y]).toArray ((ys ++ [y]).toArray.size - 1)).toList = ys := by
        rw [hsz]
        simp [Array.eraseIdxIfInBounds, List.eraseIdx_append_of_length_le]
      rw [this]; exact rl
    · have sb : Heap.SameBut c h₁ (h₁.update c (Obj.mapSeq fun xs => xs.eraseIdxIfInBounds ((ys ++ [y]).toArray.size - 1))) := Heap.SameBut.update ..
      exact VR.seqk (fun b o xs n e hd hb => (sb.2 b fun q => hb (by rw [q]; exact List.mem_of_getElem? hi)).trans e) (Ext.refl _ _) rx

theorem snd_extend {o x : Expr} {a b : ME} {apos pos : Pos} (ho : Snd W cls n e tbl loc gv mv O o a) (hx : Snd W cls n e tbl loc gv mv O x b) (hs : isStar x = false) (hb : attributeBase o "extend" e (eval o e) = eval o e) (hl : (apos.endLine == pos.line) = true) :
    Snd W cls n e tbl loc gv mv O (.Call (.Attribute o "extend" apos) [x] [] pos) (.extend a b) := by
  refine ⟨?_⟩
  intro σ Q E q A fr s hid ak I
  refine PySem.Call_method1 hb (starEach_cons hs) hl ((ho.out σ _ E q).then ak I (fun _ _ q => q) fun v h₁ tk₁ hid₁ d σ₁ p I₁ r q => ?_)
  obtain ⟨⟨i, l, rfl, hσ⟩, q⟩ := q
  obtain ⟨c, rfl, hi, xs, m, hc, rs⟩ := obj_is I₁.sr r hσ
  refine ⟨"list", "list.extend", PySem.F.plainAttrs_list, PySem.F.slot_list_extend, PySem.F.type_list_extend, ⟨_, hc, rfl⟩, fun a' ha => ⟨_, (by cases ha; exact hc), rfl⟩, ?_⟩
  refine PySem.P.extend_list ((hx.out σ₁ _ E q).then (s := { s with heap := h₁, toks := tk₁ }) ak I₁ (fun _ _ q => ErQ.lift p q) fun v₂ h₂ tk₂ hid₂ d₂ σ₂ p₂ I₂ r₂ q => ?_)
  cases d₂ with
  | list l₂ =>
    obtain ⟨l', hσ', hz, q⟩ := q
    have r' : VR h₂ hid₂ (.obj i) (.ref c) := VR.evo (own := []) p₂.evo (fun _ q => nomatch q) p₂.ext r
    obtain ⟨c', hcc, hi', xs', m', hc', rs'⟩ := obj_is I₂.sr r' hσ'
    cases hcc
    simp only [VR] at r₂
    obtain ⟨b₂, ys, m₂, rfl, hb₂, hn₂, rs₂⟩ := r₂
    have hl1 := rs'.length
    have hl2 := rs₂.length
    have hbig := big_le
    simp only [big] at hz hbig
    have hsl := sizeLine_eq
    refine ⟨b₂, xs'.toArray, ys.toArray, m', m₂, by rw [List.size_toArray]; omega, by rw [List.size_toArray, List.size_toArray]; omega, ?_, rfl, hc', hb₂, OkQ.lift (tk₁ := tk₂) (p.trans p₂) ⟨_, tk₂, hid₂, .none, _, rfl, list_post (ds := l' ++ l₂) I₂.sr I₂.base hi' hc' ?_, vr_none, q⟩⟩
    · unfold Builtin.List.listTooLong
      simp only [List.size_toArray]
      rw [← hl1, ← hl2]
      have : decide (l'.length + l₂.length > sizeLine) = false := decide_eq_false (by omega)
      rw [this, Bool.and_false]; exact Bool.false_ne_true
    · simpa using rs'.append rs₂
  | _ => exact q.elim
end
end Mine
end
section
set_option tactic.hygienic false
open PySem PySem.W PyProof.Rows PySem.Spec PySem.Calls PySem.Builtin.Str
set_option Elab.async false
set_option maxRecDepth 100000
set_option autoImplicit false
namespace Mine

theorem isStr_str {y x : Str} {t : Tok} : Value.isStr (.str y t) x = (y == x) := rfl

theorem EntR.getL {W : Wd} {h : Heap} {hid : List Addr} {x : Str} : ∀ {es : List (Str × V)} {l : List DictEntry} {d : V}, EntR W h hid es l → es.lookup x = some d → ∃ v, PySem.W.getL x l = some (some v) ∧ VR h hid d v
  | [], _, _, _, e => by cases e
  | (y, d') :: es, e :: l, d, r, he => by
    obtain ⟨⟨t, hk⟩, hh, rv, rr⟩ := r
    rw [List.lookup_cons] at he
    unfold PySem.W.getL
    rw [List.find?_cons, hk, isStr_str]
    by_cases hxy : x = y
    · subst hxy
      simp only [beq_self_eq_true] at he ⊢
      cases he
      exact ⟨e.val, rfl, rv⟩
    · have h1 : (x == y) = false := by simpa using hxy
      have h2 : (y == x) = false := by simpa using fun q => hxy (Eq.symm q)
      rw [h1] at he
      rw [h2]
      obtain ⟨v, e', r'⟩ := EntR.getL rr he
      refine ⟨v, ?_, r'⟩
      unfold PySem.W.getL at e'
      dsimp only
      cases hf : l.find? (fun e => e.key.isStr x) with
      | some e => rw [hf] at e'; exact e'
      | none =>
        rw [hf] at e'
        dsimp only at e'
        split at e' <;> cases e'
  | (_, _) :: _, [], _, r, _ => r.elim

theorem EntR.noRef {W : Wd} {h : Heap} {hid : List Addr} : ∀ {es : List (Str × V)} {l : List DictEntry}, EntR W h hid es l → l.any (·.refKey) = false
  | [], [], _ => rfl
  | (_, _) :: _, e :: l, r => by
    obtain ⟨⟨t, hk⟩, _, _, rr⟩ := r
    rw [List.any_cons, EntR.noRef rr, Bool.or_false]
    unfold DictEntry.refKey; rw [hk]
  | [], _ :: _, r => r.elim
  | (_, _) :: _, [], r => r.elim

theorem EntR.getL_none {W : Wd} {h : Heap} {hid : List Addr} {x : Str} : ∀ {es : List (Str × V)} {l : List DictEntry}, EntR W h hid es l → es.lookup x = none → l.find? (fun e => e.key.isStr x) = none
  | [], [], _, _ => rfl
  | (y, d') :: es, e :: l, r, he => by
    obtain ⟨⟨t, hk⟩, _, _, rr⟩ := r
    rw [List.lookup_cons] at he
    rw [List.find?_cons, hk, isStr_str]
    by_cases hxy : x = y
    · subst hxy
      simp at he
    · have h1 : (x == y) = false := by simpa using hxy
      have h2 : (y == x) = false := by simpa using fun q => hxy (Eq.symm q)
      rw [h1] at he
      rw [h2]
      exact EntR.getL_none rr he
  | [], _ :: _, r, _ => r.elim
  | (_, _) :: _, [], r, _ => r.elim

theorem EntR.len {W : Wd} {h : Heap} {hid : List Addr} : ∀ {es : List (Str × V)} {l : List DictEntry}, EntR W h hid es l → es.length = l.length
  | [], [], _ => rfl
  | (_, _) :: es, e :: l, r => by rw [List.length_cons, List.length_cons, EntR.len r.2.2.2]
  | [], _ :: _, r => r.elim
  | (_, _) :: _, [], r => r.elim

theorem EntR.put {W : Wd} {h : Heap} {hid : List Addr} {x : Str} {d : V} {v : Value} {u : Tok} (rv : VR h hid d v) : ∀ {es : List (Str × V)} {l : List DictEntry}, EntR W h hid es l → EntR W h hid (putV x d es) (putL x (PyData.keyHash W.w.params x) (.str x u) v l)
  | [], [], _ => ⟨⟨u, rfl⟩, rfl, rv, trivial⟩
  | (y, d') :: es, e :: l, r => by
    obtain ⟨⟨t, hk⟩, hh, rv', rr⟩ := r
    rw [putV, putL, hk, isStr_str]
    by_cases hyx : y = x
    · subst hyx
      rw [if_pos rfl, if_pos (by simp)]
      exact ⟨⟨t, rfl⟩, hh, rv, rr⟩
    · rw [if_neg hyx, if_neg (by simpa using hyx)]
      exact ⟨⟨t, hk⟩, hh, rv', EntR.put rv rr⟩
  | [], _ :: _, r => r.elim
  | (_, _) :: _, [], r => r.elim

theorem putL_len (x : Str) (hh : Int) (k v : Value) : ∀ l : List DictEntry, (putL x hh k v l).length ≤ l.length + 1
  | [] => by simp [putL]
  | e :: l => by
    rw [putL]
    split
    · simp
    · have := putL_len x hh k v l
      simp; exact this

theorem dict_post {W : Wd} {own hid : List Addr} {σ : St} {h : Heap} {i : Nat} {a : Addr} {l : List DictEntry} {n : Nat} {es : List (Str × V)} {x : Str} {d : V} {v : Value} {u : Tok} (sr : SR W σ hid h) (b : W.hT.StaysIn h) (hi : hid[i]? = some a) (hl : h.get? a = some (dictOf l n))
    (r : EntR W h hid es l) (rv : VR h hid d v) : Post W own h hid (h.update a (Obj.putName x (PyData.keyHash W.w.params x) (.str x u) v)) hid (σ.set i (.dict (putV x d es))) := by
  have hg : (h.update a (Obj.putName x (PyData.keyHash W.w.params x) (.str x u) v)).get? a = some (dictOf (putL x (PyData.keyHash W.w.params x) (.str x u) v l) (putN x l n)) := by
    rw [Heap.get?_update_self _ hl (by rw [putName_dict]; rfl), putName_dict]
  have hs : Heap.SameBut a h (h.update a (Obj.putName x (PyData.keyHash W.w.params x) (.str x u) v)) := Heap.SameBut.update ..
  have sq : SeqK hid h (h.update a (Obj.putName x (PyData.keyHash W.w.params x) (.str x u) v)) := fun b o xs n e hd hb => (hs.2 b fun q => hb (by rw [q]; exact List.mem_of_getElem? hi)).trans e
  exact write_post sr b hi hs ⟨_, _, hg, EntR.seqk sq (Ext.refl _ _) (EntR.put rv r)⟩

theorem set_base {K : Frag} {prog : Program} {w : World} {A : Around} {E : Value → Shared → Prop} {s : Shared} {x C dx : Addr} {l : List DictEntry} {n : Nat} {name : Str} {v : Value} {Q : Unit → Shared → Prop} (X : K.In s.heap) (I : InstAt s.heap x (instObj C dx) C (some (dictOf l n)))
    (hs : findIn K (.ref C) "__setattr__" = some (some (.builtin "object.__setattr__"))) (hp : plainOver K C = true) (ht : takerIn K C name = some none) (hh : hasDictIn K C = true) (hr : l.any (·.refKey) = false) (hz : l.length ≤ 900)
    (h : Q () { s with heap := s.heap.update dx (Obj.putName name (PyData.keyHash w.params name) (.str name (s.toks + 1)) v), toks := s.toks + 2 }) : wpAny (model prog w) A (setAttr (.ref x) name v) Q E s := by
  obtain ⟨H, g, dr, tk, os⟩ := s
  dsimp only at X I h
  refine set_plain X I hs (osa_open (s := ⟨H, g, dr, tk + 1, os⟩) X I hp ht fun b => ?_)
  obtain ⟨cd, hc, hd⟩ := any_some hh
  have D : H.get? dx = some (dictOf l n) := I.dict
  have U : (H.update dx (Obj.putName name (PyData.keyHash w.params name) (.str name (tk + 1)) v)).get? dx = some (dictOf (putL name (PyData.keyHash w.params name) (.str name (tk + 1)) v l) (putN name l n)) := by
    rw [Heap.get?_update_self _ D (by rw [putName_dict]; rfl), putName_dict]
  show wpAny _ _ (Builtin.ObjectAttr.storeInOwnDict (.ref x) (.ref C) (.str name tk) name v b) _ _ _
  unfold Builtin.ObjectAttr.storeInOwnDict
  refine wpAny_bind (wpAny_pure (wpAny_bind (wpAny_bind (wpAny_loadPart I.at_ (wpAny_bind ((looks_clsIn X hc).here ?_))))))
  rw [hd]
  refine wpAny_pure (a := some dx) (wpAny_bind (wpAny_pure (wpAny_bind ?_)))
  unfold nsSet
  refine wpAny_bind (wpAny_bind (wpAny_askSetting (wpAny_pure (wpAny_bind (wpAny_mkText (wpAny_bind (wpAny_loadPart D ?_)))))))
  dsimp only
  have c : (!l.toArray.any (·.key.isStr name) && l.toArray.any (·.refKey)) = false := by
    rw [List.any_toArray, List.any_toArray, hr, Bool.and_false]
  rw [aRefKeyMayBeTheName_at, c]
  refine wpAny_updatePart D ?_
  have hz' := putL_len name (PyData.keyHash w.params name) (.str name (tk + 1)) v l
  refine wpAny_bind (wpAny_lookBehind U (pastItsLine_dict (by rw [List.size_toArray, sizeLine_eq]; omega)) ?_)
  exact wpAny_pure h
end Mine
end
section
set_option tactic.hygienic false
open PySem PySem.W PyProof.Rows PySem.Spec PySem.Calls PySem.Builtin.Str
set_option Elab.async false
set_option maxRecDepth 100000
set_option autoImplicit false
namespace Mine

noncomputable def kvOf : List (Str × V) → List DictEntry → List (Str × Value)
  | (x, _) :: es, e :: l => (x, e.val) :: kvOf es l
  | _, _ => []
theorem EntR.kv {W : Wd} {h : Heap} {hid : List Addr} : ∀ {es : List (Str × V)} {l : List DictEntry}, EntR W h hid es l → Pairs (strKind W.prog W.w) l (kvOf es l) ∧ (kvOf es l).map (·.1) = es.map (·.1) ∧ VRs h hid (es.map (·.2)) ((kvOf es l).map (·.2)) ∧ ∀ e ∈ l, ∃ k, (strKind W.prog W.w).is k e.key = true ∧ e.hash = (strKind W.prog W.w).hash k
  | [], [], _ => ⟨.nil, rfl, VRs.nil, fun _ h => nomatch h⟩
  | (x, d) :: es, e :: l, r => by
    obtain ⟨⟨t, hk⟩, hh, rv, rr⟩ := r
    obtain ⟨h1, h2, h3, h4⟩ := EntR.kv rr
    have hi : (strKind W.prog W.w).is x e.key = true := by rw [hk]; exact strKind_is _ _ x t
    refine ⟨.cons hi rfl h1, by rw [kvOf, List.map_cons, List.map_cons, h2], VRs.cons rv h3, fun e' he' => ?_⟩
    rcases List.mem_cons.mp he' with rfl | he'
    · exact ⟨x, hi, hh⟩
    · exact h4 e' he'
  | [], _ :: _, r => r.elim
  | (_, _) :: _, [], r => r.elim

theorem EntR.dictOf {W : Wd} {h : Heap} {hid : List Addr} {es : List (Str × V)} {l : List DictEntry} {n : Nat} {a : Addr} (r : EntR W h hid es l) (ho : h.get? a = some (PySem.W.dictOf l n)) (hn : (es.map (·.1)).Nodup) :
    h.DictOf (strKind W.prog W.w) a (kvOf es l) := by
  obtain ⟨h1, h2, h3, h4⟩ := r.kv
  exact ⟨_, l.toArray, n, ho, ⟨rfl, rfl, rfl⟩, rfl, fun e he => h4 e (by simpa using he), by simpa using h1, h2 ▸ hn⟩

theorem ent_of {W : Wd} {h : Heap} {hid : List Addr} : ∀ {kvs : List (Str × Value)} {l : List DictEntry} {es : List (Str × V)}, Pairs (strKind W.prog W.w) l kvs → (∀ e ∈ l, ∃ k, (strKind W.prog W.w).is k e.key = true ∧ e.hash = (strKind W.prog W.w).hash k) → es.map (·.1) = kvs.map (·.1) → VRs h hid (es.map (·.2)) (kvs.map (·.2)) → EntR W h hid es l
  | [], _, [], .nil, _, _, _ => trivial
  | (k, v) :: kvs, e :: l, (x, d) :: es, .cons h1 h2 h3, hk, hm, hv => by
    simp only [List.map_cons, List.cons.injEq] at hm
    obtain ⟨rfl, hm⟩ := hm
    simp only [List.map_cons] at hv
    rw [VRs] at hv
    obtain ⟨t, ht⟩ := Value.isStrOf_shape h1
    obtain ⟨k', hk', hh⟩ := hk e (.head _)
    have : k' = x := by
      obtain ⟨t', ht'⟩ := Value.isStrOf_shape hk'
      rw [ht] at ht'; cases ht'; rfl
    subst this
    exact ⟨⟨t, ht⟩, hh, h2 ▸ hv.1, ent_of h3 (fun e he => hk e (.tail _ he)) hm hv.2⟩
  | [], _, _ :: _, _, _, hm, _ => by simp at hm
  | _ :: _, _, [], _, _, hm, _ => by simp at hm

theorem dict_ent {W : Wd} {h : Heap} {hid : List Addr} {a : Addr} {kvs : List (Str × Value)} {es : List (Str × V)} (hd : h.DictOf (strKind W.prog W.w) a kvs) (hm : es.map (·.1) = kvs.map (·.1)) (hv : VRs h hid (es.map (·.2)) (kvs.map (·.2))) : ∃ l n, h.get? a = some (PySem.W.dictOf l n) ∧ EntR W h hid es l := by
  obtain ⟨o, ea, ep, ho, ⟨h1, h2, h3⟩, hd, hk, hp, _⟩ := hd
  refine ⟨ea.toList, ep, ?_, ent_of hp (fun e he => hk e (by simpa using he)) hm hv⟩
  rw [ho]
  obtain ⟨c, d, dt, sl⟩ := o
  dsimp only at h1 h2 h3 hd
  subst h1 h2 h3 hd
  rfl

section
variable {W : Wd} {cls : Xc → Addr} {n n₀ : Nat} {e : Env} {tbl : List Str} {loc : Loc} {gv : Nat → V} {mv : Str → V} {O : V → List V → St → (V → St → Prop) → (Xc → St → Prop) → Prop}

theorem inst_is {σ : St} {hid : List Addr} {h : Heap} {i j : Nat} {v : Value} {es : List (Str × V)} (sr : SR W σ hid h) (r : VR h hid (.obj i) v) (e : σ[i]? = some (.inst j)) (e' : σ[j]? = some (.dict es)) :
    ∃ a dx l n, v = .ref a ∧ hid[i]? = some a ∧ hid[j]? = some dx ∧ h.get? a = some (instObj W.C dx) ∧ h.get? dx = some (PySem.W.dictOf l n) ∧ EntR W h hid es l := by
  obtain ⟨a, rfl, hi, dx, hj, ha⟩ := obj_is sr r e
  obtain ⟨dx', hj', l, m, hd, re⟩ := sr.obj j _ e'
  rw [hj] at hj'; cases hj'
  exact ⟨a, dx, l, m, rfl, hi, hj, ha, hd, re⟩

theorem handed {h : Heap} {hid : List Addr} {d : V} {v : Value} (r : VR h hid d v) (hd : notFn d) : handedIn v = true := by
  cases d with
  | fn u => exact hd.elim
  | none => simp only [VR] at r; subst r; rfl
  | bool b => simp only [VR] at r; subst r; rfl
  | int i => simp only [VR] at r; obtain ⟨t, rfl⟩ := r; rfl
  | str x => simp only [VR] at r; obtain ⟨t, rfl⟩ := r; rfl
  | tup l => simp only [VR] at r; obtain ⟨a, xs, n, rfl, _⟩ := r; rfl
  | list l => simp only [VR] at r; obtain ⟨a, xs, n, rfl, _⟩ := r; rfl
  | obj i => simp only [VR] at r; obtain ⟨a, rfl, _⟩ := r; rfl

theorem snd_attr {o : Expr} {x : Str} {a : ME} {pos : Pos} {attr : Option Value} (ho : Snd W cls n e tbl loc gv mv O o a) (ha : findIn W.K (.ref W.C) x = some attr) (hn : noGet W.K attr = true) (he : eval (.Attribute o x pos) e = (do
      let ob ← eval o e
      standAt pos.atName
      let r ← holding [ob] (getAttr ob x true)
      letTemporaryGo o ob r
      pure r)) : Snd W cls n e tbl loc gv mv O (.Attribute o x pos) (.attr a x) := by
  refine ⟨?_⟩
  intro σ Q E q A fr s hid ak I
  refine Attribute_any_ ((ho.out σ _ E q).then ak I (fun _ _ q => q) fun v h₁ tk₁ hid₁ d σ₁ p I₁ r q => ?_) he
  cases d <;> first | exact False.elim q | skip
  · obtain ⟨j, es, d, hi, hj, hl, hf, q⟩ := q
    obtain ⟨a, dx, l, m, rfl, ha', hdx, ga, gd, re⟩ := inst_is I₁.sr r hi hj
    obtain ⟨v, gl, rv⟩ := re.getL hl
    have IA : InstAt h₁ a (instObj W.C dx) W.C (some (PySem.W.dictOf l m)) := ⟨ga, rfl, rfl, gd⟩
    exact get_value (s := { s with heap := h₁, toks := tk₁ }) (W.X.keeps I₁.base) IA (plainGet_of (W.hC.get)).1 (findObj_own (od := PySem.W.dictOf l m) W.hC.hasD ha hn gl) (handed rv hf) (OkQ.lift (tk₁ := tk₁) p (Inv.okHere (s := { s with heap := h₁, toks := tk₁ }) I₁ rv q))

theorem snd_meth {o : Expr} {x : Str} {a : ME} {f : Addr} {xs : List Expr} {as : List ME} {apos pos : Pos} {pl : Sem Bool} (hn : n₀ ≤ n) (ho : Snd W cls n e tbl loc gv mv (Orc W cls n₀) o a) (hf : findIn W.K (.ref W.C) x = some (some (.ref f))) (ht : isFn W.K (.ref f) = true) (hk : keepIn W.K (.ref f) = true) (hv : mv x = .fn (.ref f))
    (h : SndL W cls n e tbl loc gv mv (Orc W cls n₀) xs as) (he : eval (.Call (.Attribute o x apos) xs [] pos) e = (do
      let ov ← eval o e
      standAt apos.atName
      let (f, first) ← holding [ov] (getMethod ov x pl)
      callWith pos f first (backTo pos (starEach xs e)) [])) {σ : St} {Q : V → St → Prop} {E : Xc → St → Prop}
    (q : wpE gv mv (Orc W cls n₀) a loc σ (fun d σ => methW σ d x (wpEs gv mv (Orc W cls n₀) loc as σ (fun ds σ => Orc W cls n₀ (mv x) (d :: ds) σ Q E) E)) E) : EvW W cls n e tbl loc σ (eval (.Call (.Attribute o x apos) xs [] pos) e) Q E := by
  intro A fr s hid ak I
  refine PyProof.Rows.MethodCall_ (pl := pl) ((ho.out σ _ E q).then ak I (fun _ _ q => q) fun v h₁ tk₁ hid₁ d σ₁ p I₁ r q => ?_) he
  cases d <;> first | exact False.elim q | skip
  · obtain ⟨j, es, hi, hj, hl, q⟩ := q
    obtain ⟨a, dx, l, m, rfl, ha', hdx, ga, gd, re⟩ := inst_is I₁.sr r hi hj
    have hg := plainGet_of W.hC.get
    have IA : InstAt h₁ a (instObj W.C dx) W.C (some (PySem.W.dictOf l m)) := ⟨ga, rfl, rfl, gd⟩
    refine method_fn (s := { s with heap := h₁, toks := tk₁ }) (W.X.keeps I₁.base) IA hg.1 hg.2 hf (beq_iff_eq.mp ht) ?_ ?_
    · show (lookIn x (PySem.W.dictOf l m)).map _ = _
      rw [lookIn_dict]
      unfold PySem.W.getL
      rw [re.getL_none hl]
      dsimp only
      rw [re.noRef]; rfl
    · rw [hv] at q
      exact wpAny_mono (call_here (s := { s with heap := h₁, toks := tk₁ }) (fs := [_]) hn ak I₁ hk h (VRs.cons r VRs.nil) q) (fun _ _ q => OkQ.lift p q) fun _ _ q => ErQ.lift p q

theorem sndS_setAttr {o value : Expr} {x : Str} {a b : ME} {p' pos : Pos} (ho : ∀ loc, Snd W cls n e tbl loc gv mv O o b) (hx : ∀ loc, Snd W cls n e tbl loc gv mv O value a) (ht : takerIn W.K W.C x = some none) (hs : swapsWith value (some (.Attribute o x p')) pos.line e = pure false) :
    SndS W cls n e tbl gv mv O (exec (.Assign [.Attribute o x p'] value pos) e) (.setAttr b x a) := by
  refine ⟨?_⟩
  intro loc σ Q E q A fr s hid ak I
  refine plainObj_wpAny_Assign_Attribute (((hx loc).out σ _ E q).then ak I (fun _ _ q => q.toSt I) fun v h₁ tk₁ hid₁ d σ₁ p I₁ r q => ?_) hs
  refine ((ho loc).out σ₁ _ E q).then (s := { s with heap := h₁, toks := tk₁ }) ak I₁ (fun _ _ q => StE.lift (p.wider fun _ q => nomatch q) (q.toSt I₁)) fun v₂ h₂ tk₂ hid₂ d₂ σ₂ p₂ I₂ r₂ q => ?_
  have r' := VR.evo (own := []) p₂.evo (fun _ q => nomatch q) p₂.ext r
  cases d₂ <;> first | exact False.elim q | skip
  · obtain ⟨j, es, hi, hj, hz, q⟩ := q
    obtain ⟨c, dx, l, m, rfl, ha', hdx, ga, gd, re⟩ := inst_is I₂.sr r₂ hi hj
    refine set_base (s := { s with heap := h₂, toks := tk₂ }) (W.X.keeps I₂.base) ⟨ga, rfl, rfl, gd⟩ W.hC.set W.hC.over ht W.hC.hasD re.noRef (by rw [← re.len]; exact hz) ?_
    have pd : Post W [] h₂ hid₂ _ hid₂ _ := dict_post (x := x) (u := tk₂ + 1) I₂.sr I₂.base hdx gd re r'
    exact ⟨_, tk₂ + 2, hid₂, .next, loc, _, rfl, ((p.trans p₂).trans pd).wider fun _ q => (nomatch q), I₂.post pd, rfl, q⟩
end
end Mine
end
section
set_option tactic.hygienic false
open PySem PySem.W PyProof.Rows PySem.Spec PySem.Calls PySem.Builtin.Str
set_option Elab.async false
set_option maxRecDepth 100000
set_option autoImplicit false
namespace Mine

section
variable {W : Wd} {cls : Xc → Addr} {n n₀ : Nat} {e : Env} {tbl : List Str} {loc : Loc} {gv : Nat → V} {mv : Str → V} {O : V → List V → St → (V → St → Prop) → (Xc → St → Prop) → Prop}

theorem stored_fst {kvs : List (Str × Value)} {k : Str} {v : Value} (h : (kvs.any fun kv => kv.1 = k) = true) : stored kvs k v = kvs.map fun kv => if kv.1 = k then (kv.1, v) else kv := by
  unfold stored; rw [if_pos h]

theorem kv_upd {h : Heap} {hid : List Addr} {k : Str} {d : V} {v : Value} (r : VR h hid d v) : ∀ {es : List (Str × V)} {kvs : List (Str × Value)}, es.map (·.1) = kvs.map (·.1) → VRs h hid (es.map (·.2)) (kvs.map (·.2)) →
    (es.map fun p => if p.1 = k then (p.1, d) else p).map (·.1) = (kvs.map fun p => if p.1 = k then (p.1, v) else p).map (·.1) ∧ VRs h hid ((es.map fun p => if p.1 = k then (p.1, d) else p).map (·.2)) ((kvs.map fun p => if p.1 = k then (p.1, v) else p).map (·.2)) ∧ (es.any fun p => p.1 = k) = (kvs.any fun p => p.1 = k)
  | [], [], _, _ => ⟨rfl, VRs.nil, rfl⟩
  | (x, a) :: es, (y, b) :: kvs, hm, hv => by
    simp only [List.map_cons, List.cons.injEq] at hm
    obtain ⟨rfl, hm⟩ := hm
    simp only [List.map_cons] at hv
    rw [VRs] at hv
    obtain ⟨h1, h2, h3⟩ := kv_upd r hm hv.2
    simp only [List.map_cons, List.any_cons]
    by_cases hx : x = k
    · simp only [hx, if_true]
      exact ⟨by rw [h1], VRs.cons r h2, by rw [h3]⟩
    · simp only [hx, if_false]
      exact ⟨by rw [h1], VRs.cons hv.1 h2, by rw [h3]⟩
  | [], _ :: _, hm, _ => by simp at hm
  | _ :: _, [], hm, _ => by simp at hm

theorem sndS_setIdx {o value : Expr} {x : Str} {k : Nat} {pk : Pos} {a b : ME} {p' pos : Pos} (ho : ∀ loc, Snd W cls n e tbl loc gv mv O o b) (hx : ∀ loc, Snd W cls n e tbl loc gv mv O value a) (hs : swapsWith value (some (.Subscript o (.Constant (.str x) k pk) p')) pos.line e = pure false) :
    SndS W cls n e tbl gv mv O (exec (.Assign [.Subscript o (.Constant (.str x) k pk) p'] value pos) e) (.setIdx b x a) := by
  refine ⟨?_⟩
  intro loc σ Q E q A fr s hid ak I
  refine wpAny_Assign_Subscript (((hx loc).out σ _ E q).then ak I (fun _ _ q => q.toSt I) fun v h₁ tk₁ hid₁ d σ₁ p I₁ r q => ?_) hs
  refine ((ho loc).out σ₁ _ E q).then (s := { s with heap := h₁, toks := tk₁ }) ak I₁ (fun _ _ q => StE.lift (p.wider fun _ q => nomatch q) (q.toSt I₁)) fun v₂ h₂ tk₂ hid₂ d₂ σ₂ p₂ I₂ r₂ q => ?_
  have r' := VR.evo (own := []) p₂.evo (fun _ q => nomatch q) p₂.ext r
  cases d₂ <;> first | exact False.elim q | skip
  · rename_i i
    obtain ⟨es, hi, hz, hnd, hany, q⟩ := q
    obtain ⟨c, rfl, hc, l, m, gd, re⟩ := obj_is I₂.sr r₂ hi
    refine wpAny_Constant_str ?_
    obtain ⟨hp, hm, hv, _⟩ := re.kv
    have hlen : (kvOf es l).length ≤ sizeLine := by
      have : (kvOf es l).length = es.length := by have := congrArg List.length hm; simpa using this
      rw [this, sizeLine_eq]; omega
    refine wpAny_setItem_pairs (hsz := hlen) (strKind_is _ _ x _) (re.dictOf gd hnd) fun h₃ hd₃ hs₃ => ?_
    obtain ⟨u1, u2, u3⟩ := kv_upd (k := x) r' hm.symm hv
    rw [stored_fst (u3 ▸ hany)] at hd₃
    have sq : SeqK hid₂ h₂ h₃ := fun b o xs n e hd hb => (hs₃.2 b fun q => hb (by rw [q]; exact List.mem_of_getElem? hc)).trans e
    obtain ⟨l', m', gd', re'⟩ := dict_ent hd₃ u1 (VRs.seqk sq (Ext.refl _ _) u2)
    have pd : Post W [] h₂ hid₂ h₃ hid₂ (σ₂.set i (.dict (es.map fun p => if p.1 = x then (p.1, d) else p))) := write_post I₂.sr I₂.base hc hs₃ ⟨l', m', gd', re'⟩
    exact ⟨h₃, _, hid₂, .next, loc, _, rfl, ((p.trans p₂).trans pd).wider fun _ q => (nomatch q), I₂.post pd, rfl, q⟩

theorem snd_hand {x y : Expr} {a b : ME} {k k' : Nat} {p₁ p₂ pos : Pos} (hx : Snd W cls n e tbl loc gv mv O x a) (hy : Snd W cls n e tbl loc gv mv O y b) : Snd W cls n e tbl loc gv mv O (.Dict [some (.Constant (.str "cells") k p₁), some (.Constant (.str "at") k' p₂)] [x, y] pos) (.hand a b) := by
  refine ⟨?_⟩
  intro σ Q E q A fr s hid ak I
  refine wpAny_Dict_walk (knd := strKind W.prog W.w) rfl rfl (by simp) (by simp) ?_
  have pj : Post W [] s.heap hid (s.heap.push { cls := .type "dict", data := .dict #[] }) (hid ++ [s.heap.objs.size]) (σ ++ [.dict []]) :=
    join_post I.sr I.base (fun _ _ e => Heap.get?_push_of_some _ e) get?_size ⟨[], 0, Heap.get?_push_size _ rfl, trivial⟩
  have I₀ := I.post pj
  refine pairTrees_cons_walk (wpAny_Constant_str ?_)
  refine (hx.out _ _ E q).then (s := { s with heap := s.heap.push { cls := .type "dict", data := .dict #[] }, toks := s.toks + 1 }) ak I₀ (fun _ _ q => ErQ.lift pj q) fun v h₁ tk₁ hid₁ d σ₁ p I₁ r q => ?_
  refine pairTrees_cons_walk (wpAny_Constant_str ?_)
  refine (hy.out _ _ E q).then (s := { s with heap := h₁, toks := tk₁ + 1 }) ak I₁ (fun _ _ q => ErQ.lift (pj.trans p) q) fun v₂ h₂ tk₂ hid₂ d₂ σ₂ p₂ I₂ r₂ q => ?_
  obtain ⟨hσ, q⟩ := q
  have r' := VR.evo (own := []) p₂.evo (fun _ q => nomatch q) p₂.ext r
  have hD : hid₂[σ.length]? = some s.heap.objs.size := (p₂.ext.get (p.ext.get (by rw [← I.sr.len, List.getElem?_append_right (Nat.le_refl _), Nat.sub_self]; rfl)))
  obtain ⟨D', hD', l, m, gd, re⟩ := I₂.sr.obj _ _ hσ
  rw [hD] at hD'; cases hD'
  refine pairTrees_nil_walk ⟨[(Str.ofString "cells", v), (Str.ofString "at", v₂)], ⟨strKind_is _ _ _ _, rfl, strKind_is _ _ _ _, rfl, trivial⟩, ?_, fun h₃ hd₃ hs₃ => ?_⟩
  · have := re.dictOf gd List.nodup_nil
    cases l with
    | nil => exact this
    | cons => exact re.elim
  · have hm : merged ([] : List (Str × Value)) [(Str.ofString "cells", v), (Str.ofString "at", v₂)] = [(Str.ofString "cells", v), (Str.ofString "at", v₂)] := by
      have hne : ¬ (Str.ofString "cells" = Str.ofString "at") := by decide
      simp [merged, stored, hne]
    rw [hm] at hd₃
    have sq : SeqK hid₂ h₂ h₃ := fun b o xs n e hd hb => (hs₃.2 b fun q => hb (by rw [q]; exact List.mem_of_getElem? hD)).trans e
    obtain ⟨l', m', gd', re'⟩ := dict_ent (es := [(Str.ofString "cells", d), (Str.ofString "at", d₂)]) hd₃ rfl (VRs.seqk sq (Ext.refl _ _) (VRs.cons r' (VRs.cons r₂ VRs.nil)))
    have pd : Post W [] h₂ hid₂ h₃ hid₂ (σ₂.set σ.length (.dict [(Str.ofString "cells", d), (Str.ofString "at", d₂)])) := write_post I₂.sr I₂.base hD hs₃ ⟨l', m', gd', re'⟩
    refine ⟨h₃, _, hid₂, .obj σ.length, _, rfl, (((pj.trans p).trans p₂).trans pd), ?_, q⟩
    rw [VR]; exact ⟨_, rfl, hD⟩
end
end Mine
end
section
set_option tactic.hygienic false
open PySem PySem.W PyProof.Rows PySem.Spec PySem.Calls PySem.Builtin.Str
set_option Elab.async false
set_option maxRecDepth 100000
set_option autoImplicit false
namespace Mine

section
variable {M : Model} {A : Around} {E : Value → Shared → Prop} {h : Heap} {g : Array GenState} {d : Drawn} {t : Nat} {os : OsState}
variable {nm q : Str} {C N : Addr} {bs bm : List Value} {hdct : Bool} {sn : List Str} {sub : List Value} {ab : Bool} {col : Option Bool} {dd : Option Addr} {k0 k1 k2 k3 k5 : Option Value}

noncomputable abbrev xNew : String := "Exception.__new__"
structure XBm (bm : List Value) : Prop where
  exc : bm.contains (.type "Exception") = true
  base : bm.contains (.type "BaseException") = true
  noA : bm.contains (.type "AttributeError") = false
  noN : bm.contains (.type "NameError") = false

theorem xchk_new (B : XBm bm) {rest : List Value} {Q : Unit → Shared → Prop} (hC : h.get? C = some (excClassObj nm q C N bs bm hdct sn sub ab col dd k0 k1 k2 k3 k5 xNew)) (hq : Q () ⟨h, g, d, t, os⟩) : wpAny M A (checkBuiltinCall xNew ⟨.ref C :: rest, []⟩) Q E ⟨h, g, d, t, os⟩ := by
  have F := PySem.F.excBase_Exception
  have hcont : (Value.ref C :: bm).contains (.type "Exception") = true := by rw [List.contains_cons, B.exc, Bool.or_true]
  have hstar := F.noStar
  simp only [checkBuiltinCall, F.newKind, F.newSplit, F.newRow]
  repeat (first | refine wpAny_loadPart_at hC ?_ | (refine wpAny_isSubtype_exc hC ?_; rw [hcont]) | refine wpAny_staticBase_exc hC ?_ | refine wpAny_madeBy_exc hC ?_ | simp only [bne_self_eq_false, Bool.false_eq_true, if_false] | wp_step)
  exact hq
end

section
variable {prog : Program} {w : World} {A : Around} {R : Result → Shared → Prop} {E : Value → Shared → Prop} {h : Heap} {g : Array GenState} {d : Drawn} {t : Nat} {os : OsState}
variable {nm q : Str} {C N : Addr} {bs bm : List Value} {hdct : Bool} {sn : List Str} {sub : List Value} {ab : Bool} {col : Option Bool} {dd : Option Addr} {k0 k1 k2 k3 k5 : Option Value}

noncomputable abbrev xTup (rest : List Value) : Obj := { cls := .type "tuple", data := .seq rest.toArray }
noncomputable abbrev xObj (C : Addr) (t : Addr) (dx : Option Addr) : Obj := { cls := .ref C, dict := dx, data := .fields #[.ref t, .none, .none, .none, .bool false, .none] }

theorem xcode_new (B : XBm bm) {rest : List Value} (hC : h.get? C = some (excClassObj nm q C N bs bm hdct sn sub ab col dd k0 k1 k2 k3 k5 xNew))
    (hq : R (.ok (.ret (.ref (h.objs.size + 1)))) ⟨(h.push (xTup rest)).push (xObj C h.objs.size none), g, d, t, os⟩) (hrest : rest.length ≤ sizeLine) :
    codeAny (model prog w) A (.builtin xNew ⟨.ref C :: rest, []⟩) R ⟨h, g, d, t, os⟩ := by
  have F := PySem.F.excBase_Exception
  have hends := F.ends
  have hcB : (Value.ref C :: bm).contains (.type "Exception") = true := by rw [List.contains_cons, B.exc, Bool.or_true]
  have hcA : (Value.ref C :: bm).contains (.type "AttributeError") = false := by rw [List.contains_cons, B.noA]; rfl
  have hcN : (Value.ref C :: bm).contains (.type "NameError") = false := by rw [List.contains_cons, B.noN]; rfl
  refine codeAny_builtinAt F.entry ?_
  unfold Builtin.«BaseException.__new__»
  refine PySem.wpAt_bind ?_
  show PySem.wpAt _ _ _ (stack >>= _) _ _ _
  refine PySem.wpAt_bind (PySem.wpAt_stack fun p below => wpAt_of_wpAny ?_)
  wp_walk
  refine wpAt_of_wpAny ?_
  rw [F.owner]
  repeat (first | with_reducible refine wpAny_madeHere_exc F.canon hC ?_ | with_reducible refine wpAny_loadPart_at hC ?_ | (with_reducible refine wpAny_isSubtype_exc hC ?_; first | rw [hcB] | rw [hcA] | rw [hcN]) | wp_step)
  show R _ _
  rw [Heap.size_push]
  exact hq

theorem xcall (B : XBm bm) {K : Frag} (X : K.In h) {rest : List Value} {fI : Addr} {Q : Value → Shared → Prop} (hC : h.get? C = some (excClassObj nm q C N bs bm hdct sn sub ab col dd k0 k1 k2 k3 k5 xNew))
    (hi : findIn K (.ref C) "__init__" = some (some (.ref fI))) (ht : typeIn K (.ref fI) = some (.type "function"))
    (hq : codeAny (model prog w) ((A.under (.builtin "type.__call__" ⟨.ref C :: rest, []⟩))) (.call (.ref fI) ⟨.ref (h.objs.size + 1) :: rest, []⟩) (fun r s' => match r with | .ok (.ret v) => v = .none ∧ Q (.ref (h.objs.size + 1)) s' | .ok _ => False | .error e => E e s') ⟨(h.push (xTup rest)).push (xObj C h.objs.size none), g, d, t, os⟩)
    (hrest : rest.length ≤ sizeLine) : wpAny (model prog w) A (call (.ref C) rest) Q E ⟨h, g, d, t, os⟩ := by
  have F := PySem.F.excBase_Exception
  have f1 := tc_lookup
  have f2 := tc_bind (.ref C)
  have hT : (⟨h, g, d, t, os⟩ : Shared).TypeIs (.ref C) "type" := ⟨_, hC, rfl⟩
  refine wpAny_call (codeAny_of_tree ?_)
  show wpAny _ _ (callAny (.ref C) _) _ _ _
  repeat (any_goals (first | assumption | with_reducible refine wpAny_loadPart_at hC ?_ | wp_step))
  refine ⟨rfl, ?_⟩
  refine codeAny_call_builtin_at (Code.quiet_builtin _ (by decide +kernel)) entry_typeCall (wpAny_check_type_call_sub hC ?_)
  repeat (first | with_reducible refine wpAny_loadPart_at hC ?_ | with_reducible refine wpAny_madeBy_exc hC ?_ | wp_step)
  refine codeAny_call_builtin_code (Code.quiet_builtin _ F.quiet) (xchk_new B hC ?_)
  refine xcode_new B hC ?_ hrest
  show wpAny _ _ _ _ _ _
  have k : ∀ b o, h.get? b = some o → ((h.push (xTup rest)).push (xObj C h.objs.size none)).get? b = some o := fun b o e => Heap.get?_push_of_some _ (Heap.get?_push_of_some _ e)
  have hC₁ := k _ _ hC
  have hget : ((h.push (xTup rest)).push (xObj C h.objs.size none)).get? (h.objs.size + 1) = some (xObj C h.objs.size none) := by heap_get
  have hcC : (Value.ref C :: bm).contains (.ref C) = true := by simp
  have i1 := (looks_findIn (M := model prog w) X hi).keeps k
  have b1 := (bind_fn (M := model prog w) X (.ref (h.objs.size + 1)) ht).keeps k
  unfold isInstance
  repeat (first | with_reducible refine wpAny_loadPart_at hget ?_ | wp_step)
  refine wpAny_isSubtype_exc hC₁ ?_
  rw [hcC]
  repeat (first | with_reducible refine wpAny_loadPart_at hget ?_ | wp_step)
  show wpAny _ _ (typeLookup (.ref C) _) _ _ _
  refine i1.here ?_
  refine wpAny_holding (wpAny_bind (b1.here ?_))
  refine wpAny_bind (wpAny_call (codeAny_mono hq fun r s' z => ?_))
  rcases r with e | (v | _ | _ | _) <;> first | exact z | exact z.elim | skip
  obtain ⟨rfl, z⟩ := z
  exact wpAny_pure (wpAny_pure z)
end
end Mine
end
section
set_option tactic.hygienic false
open PySem PySem.W PyProof.Rows PySem.Spec PySem.Calls PySem.Builtin.Str
set_option Elab.async false
set_option maxRecDepth 100000
set_option autoImplicit false
set_option maxHeartbeats 400000
namespace Mine

noncomputable abbrev xInit : String := "Exception.__init__"
theorem xi_type : typeOf (.builtin xInit) = pure (.type "wrapper_descriptor") := by kernel_rfl
theorem wd_get : Slot "wrapper_descriptor" "__get__" "wrapper_descriptor.__get__" := .of (owner := "wrapper_descriptor") (n := "__get__") (by rw [typeLookup_type, builtinLookup_eq_fast]; kernel_rfl) (by decide +kernel) (by decide +kernel) (by decide +kernel)
  (by first | exact .inl (by decide +kernel) | exact .inr (by decide +kernel)) (by rw [isSubtype_type]; kernel_rfl)
theorem wd_entry : entryFor table "wrapper_descriptor.__get__" = some Builtin.«wrapper_descriptor.__get__» := entryFor_of_tree (by kernel_rfl)
theorem wd_args (a b c : Value) : argsOk "wrapper_descriptor.__get__" ⟨[a, b, c], []⟩ := by unfold argsOk; kernel_rfl
section
variable {nm q : Str} {C N : Addr} {bs bm : List Value} {hdct : Bool} {sn : List Str} {sub : List Value} {ab : Bool} {col : Option Bool} {dd : Option Addr} {k0 k1 k2 k3 k5 : Option Value}
theorem xi_bound {M : Model} {A : Around} {E : Value → Shared → Prop} {h : Heap} {g : Array GenState} {d : Drawn} {t : Nat} {os : OsState} {x : Addr} {oe : Obj} {b : Value} {Q : Unit → Shared → Prop} (hC : h.get? C = some (excClassObj nm q C N bs bm hdct sn sub ab col dd k0 k1 k2 k3 k5 xNew))
    (he : h.get? x = some oe) (hcls : oe.cls = .ref C) (hq : Q () ⟨h, g, d, t, os⟩) : wpAny M A (checkBoundCall xInit ⟨[.ref x, b], []⟩) Q E ⟨h, g, d, t, os⟩ := by
  have F := PySem.F.excBase_Exception
  have hk := F.initKind
  have hr := F.initRow
  unfold checkBoundCall
  simp only [hk, hr]
  rw [if_pos (by decide)]
  have hshort := F.noStar
  repeat (first | (with_reducible refine wpAny_loadPart_at he ?_; rw [hcls]) | with_reducible refine wpAny_loadPart_at hC ?_ | wp_step)
  exact hq
end
theorem xi_along (K : Frag) : alongIn K "__init__" [.type "Exception", .type "BaseException", .type "object"] = some (some (.builtin xInit)) := by kernel_rfl

noncomputable abbrev mwObj (x : Addr) : Obj := { cls := .type "method-wrapper", data := .fields #[.builtin xInit, .ref x] }

section
variable {prog : Program} {w : World} {A : Around} {E : Value → Shared → Prop} {h : Heap} {g : Array GenState} {d : Drawn} {t : Nat} {os : OsState}
variable {so D x C : Addr} {l₀ : List Value} {K : Frag} {tk : Tok}

theorem xsuper_ga {name : Str} {i : String} {l : List Value} {Q : Fin → Shared → Prop}
    (hso : h.get? so = some { cls := .type "super", dict := none, data := .fields #[.ref D, .ref x, .ref C], slots := #[] }) (hno : Looks (model prog w) h (opaqueClassAbove (.ref C)) none)
    (hC : Looks (model prog w) h (mroOf (.ref C)) l₀) (hl : (l₀.dropWhile (· != .ref D)).drop 1 = l) (X : K.In h) (hf : alongIn K name l = some (some (.builtin i)))
    (hty : typeOf (.builtin i) = pure (.type "wrapper_descriptor")) (hxC : x ≠ C) (hn : (name == ("__class__" : Str)) = false)
    (hq : codeAny (model prog w) A (.call (.builtin "wrapper_descriptor.__get__") ⟨[.builtin i, .ref x, .ref C], []⟩) (fun r s' => match r with | .ok (.ret v) => Q (.done (.ret v)) s' | .ok _ => False | .error e => E e s') ⟨h, g, d, t, os⟩) :
    wpAny (model prog w) A (Builtin.«super.__getattribute__» ⟨[.ref so, .str name tk], []⟩) Q E ⟨h, g, d, t, os⟩ := by
  have hlk := wd_get.lookup
  have hne : (Value.ref x == Value.ref C) = false := by simp [hxC]
  have hdt : ({ cls := .type "super", dict := none, data := .fields #[.ref D, .ref x, .ref C], slots := #[] } : Obj).data = .fields #[.ref D, .ref x, .ref C] := rfl
  have f0 : (#[.ref D, .ref x, .ref C] : Array Value)[0]? = some (.ref D) := rfl
  have f1 : (#[.ref D, .ref x, .ref C] : Array Value)[1]? = some (.ref x) := rfl
  have f2 : (#[.ref D, .ref x, .ref C] : Array Value)[2]? = some (.ref C) := rfl
  unfold Builtin.«super.__getattribute__»
  repeat (first
    | (with_reducible refine wpAny_field hso hdt f0 ?_) | (with_reducible refine wpAny_field hso hdt f1 ?_) | (with_reducible refine wpAny_field hso hdt f2 ?_)
    | (with_reducible refine ks_wpAny_notOpaque hno ?_)
    | (with_reducible refine Looks.at hC ?_; rw [hl])
    | (refine ks_forIn_along X (fun _ _ => rfl) rfl ?_ hf)
    | (with_reducible refine wpAny_of_eq hty ?_)
    | (simp only [hn, hne, Bool.or_false, Bool.false_eq_true, if_false])
    | wp_step
    | dsimp only)
  refine codeAny_mono hq fun r s' z => ?_
  rcases r with e | (v | _ | _ | _) <;> first | exact z | exact z.elim | exact wpAny_pure (wpAny_pure z)

theorem xi_owner : ".".intercalate (xInit.cutAt '.').dropLast = "Exception" := by decide +kernel
theorem xwrap_get {R : Result → Shared → Prop} {ox : Obj} (hx : h.get? x = some ox) (hc : ox.cls = .ref C) (hs : Looks (model prog w) h (isSubtype (.ref C) (.type "Exception")) true) (hq : R (.ok (.ret (.ref h.objs.size))) ⟨h.push (mwObj x), g, d, t, os⟩) :
    codeAny (model prog w) A (.call (.builtin "wrapper_descriptor.__get__") ⟨[.builtin xInit, .ref x, .ref C], []⟩) R ⟨h, g, d, t, os⟩ := by
  have hT : (⟨h, g, d, t, os⟩ : Shared).TypeIs (.builtin xInit) "wrapper_descriptor" := xi_type
  refine codeAny_call_builtin wd_get.plain wd_entry (wd_get.check _ _ _ _ _ _ _ _ hT (wd_args _ _ _) ?_)
  unfold Builtin.«wrapper_descriptor.__get__»
  repeat (first | (with_reducible refine wpAny_loadPart_at hx ?_; rw [hc]) | wp_step)
  rw [xi_owner]
  refine hs.at ?_
  unfold newFields
  repeat (first | (with_reducible refine wpAny_newObj_type ?_ (by size_fits)) | wp_step)
  exact hq

theorem xmeth {pl : Sem Bool} {Q : Value × List Value → Shared → Prop} {ox : Obj}
    (hso : h.get? so = some { cls := .type "super", dict := none, data := .fields #[.ref D, .ref x, .ref C], slots := #[] }) (hno : Looks (model prog w) h (opaqueClassAbove (.ref C)) none)
    (hC : Looks (model prog w) h (mroOf (.ref C)) l₀) (hl : (l₀.dropWhile (· != .ref D)).drop 1 = [.type "Exception", .type "BaseException", .type "object"]) (X : K.In h) (hxC : x ≠ C)
    (hx : h.get? x = some ox) (hc : ox.cls = .ref C) (hs : Looks (model prog w) h (isSubtype (.ref C) (.type "Exception")) true)
    (hq : Q (.ref h.objs.size, []) ⟨h.push (mwObj x), g, d, t + 1, os⟩) :
    wpAny (model prog w) A (getMethod (.ref so) "__init__" pl) Q E ⟨h, g, d, t, os⟩ := by
  have hlk := PySem.F.ks_slot_super_ga.lookup
  have hcan := PySem.F.ks_canon_super_ga
  have hT : ∀ t', (⟨h, g, d, t', os⟩ : Shared).TypeIs (.ref so) "super" := fun _ => ⟨_, hso, rfl⟩
  unfold getMethod
  refine wpAny_bind (wpAny_specialOf (hT _) hlk ?_)
  show wpAny _ _ (if (Manifest.canonical "super.__getattribute__" != "object.__getattribute__") = true then _ else _) _ _ _
  rw [if_pos hcan]
  unfold getAttr getAttrBy
  refine wpAny_bind (wpAny_bind (wpAny_mkText (wpAny_holding (wpAny_bind (wpAny_typeOf (hT _) (wpAny_bind (wpAny_of_eq hlk ?_)))))))
  show wpAny _ _ (getAttrByItsOwn (.ref so) (.str "__init__" t) (.type "super") (.builtin "super.__getattribute__") true false) _ _ _
  unfold getAttrByItsOwn hookBefore callGetattribute boundAndCalled
  refine wpAny_bind (wpAny_of_eq (show (if onTheHeap (.type "super") then typeLookup (.type "super") "__getattr__" else pure none) = pure none from rfl) ?_)
  refine wpAny_bind (wpAny_attempt (wpAny_holding ?_))
  show wpAny _ _ (bindSpecial (.builtin "super.__getattribute__") (.ref so) >>= _) _ _ _
  refine wpAny_bind (wpAny_of_eq (PySem.F.ks_slot_super_ga.bind _) ?_)
  refine wpAny_mono (Q := fun v s' => v = .ref h.objs.size ∧ s' = ⟨h.push (mwObj x), g, d, t + 1, os⟩) (E := fun _ _ => False)
    (wpAny_call_entry PySem.F.ks_slot_super_ga (hT _) PySem.F.ks_entry_super_ga (xsuper_ga hso hno hC hl X (xi_along K) xi_type hxC (by decide +kernel) (xwrap_get hx hc hs ⟨_, rfl, rfl, rfl⟩)) (PySem.F.ks_gaArgs_super _ _)) (fun v s' hv => ?_) fun _ _ z => z.elim
  obtain ⟨rfl, rfl⟩ := hv
  exact wpAny_pure (wpAny_pure hq)

theorem xmw_call {Q : Value → Shared → Prop} {mw tp : Addr} {dx : Option Addr} {what : Value} {nm q : Str} {N : Addr} {bs bm : List Value} {hdct : Bool} {sn : List Str} {sub : List Value} {ab : Bool} {col : Option Bool} {dd : Option Addr} {k0 k1 k2 k3 k5 : Option Value}
    (hC : h.get? C = some (excClassObj nm q C N bs bm hdct sn sub ab col dd k0 k1 k2 k3 k5 xNew)) (hm : h.get? mw = some (mwObj x)) (hx : h.get? x = some (xObj C tp dx))
    (hq : Q .none ⟨(h.push (xTup [what])).update x (Obj.mapFields (·.setIfInBounds 0 (.ref h.objs.size))), g, d, t, os⟩) :
    wpAny (model prog w) A (call (.ref mw) [what]) Q E ⟨h, g, d, t, os⟩ := by
  have F := PySem.F.excBase_Exception
  refine wpAny_call (codeAny_of_tree ?_)
  show wpAny _ _ (callAny (.ref mw) _) _ _ _
  unfold callAny
  refine wpAny_bind (wpAny_load hm ?_)
  show wpAny _ _ (checkBoundCall xInit ⟨[.ref x, what], []⟩ >>= _) _ _ _
  refine wpAny_bind (xi_bound hC hx rfl ?_)
  refine wpAny_pure ⟨Code.quiet_builtin _ (by decide +kernel), codeAny_builtin F.initEntry ?_⟩
  unfold Builtin.«BaseException.__init__»
  have hx₁ : (h.push { cls := .type "tuple", data := .seq [what].toArray }).get? x = some (xObj C tp dx) := Heap.get?_push_of_some _ hx
  repeat (first | (with_reducible refine wpAny_newObj_type ?_ (by size_fits)) | wp_step)
  exact hq
end
end Mine
end
section
set_option tactic.hygienic false
open PySem PySem.W PyProof.Rows PySem.Spec PySem.Calls PySem.Builtin.Str Builtin Builtin.ObjectAttr
set_option Elab.async false
set_option maxRecDepth 100000
set_option autoImplicit false
set_option maxHeartbeats 400000
namespace Mine

theorem refuse_exc (self : Value) : refuseLoop self "__setattr__" [.type "Exception", .type "BaseException", .type "object"] = pure () := by kernel_rfl

noncomputable def xmro (K : Frag) (C : Addr) : Option (List Value) := (clsIn K C).map (·.mro)
noncomputable def xtail : List Value → Bool
  | .ref _ :: r => xtail r
  | l => l == [.type "Exception", .type "BaseException", .type "object"]
theorem xtail_refuse (self : Value) : ∀ {l : List Value}, xtail l = true → refuseLoop self "__setattr__" l = pure ()
  | .ref c :: r, e => by rw [refuseLoop_ref]; exact xtail_refuse self (l := r) (by rw [xtail] at e; exact e)
  | [], e => by cases e
  | .none :: _, e => by rw [xtail] at e; · cases beq_iff_eq.mp e
                        · intro _ _ h; cases h
  | .ellipsis :: _, e => by rw [xtail] at e; · cases beq_iff_eq.mp e
                            · intro _ _ h; cases h
  | .notImplemented :: _, e => by rw [xtail] at e; · cases beq_iff_eq.mp e
                                  · intro _ _ h; cases h
  | .bool _ :: _, e => by rw [xtail] at e; · cases beq_iff_eq.mp e
                          · intro _ _ h; cases h
  | .int _ _ :: _, e => by rw [xtail] at e; · cases beq_iff_eq.mp e
                           · intro _ _ h; cases h
  | .float _ _ :: _, e => by rw [xtail] at e; · cases beq_iff_eq.mp e
                             · intro _ _ h; cases h
  | .str _ _ :: _, e => by rw [xtail] at e; · cases beq_iff_eq.mp e
                           · intro _ _ h; cases h
  | .bytes _ _ :: _, e => by rw [xtail] at e; · cases beq_iff_eq.mp e
                             · intro _ _ h; cases h
  | .builtin _ :: _, e => by rw [xtail] at e; · cases beq_iff_eq.mp e
                             · intro _ _ h; cases h
  | .type n :: r, e => by
    rw [xtail] at e
    · rw [beq_iff_eq.mp e]; exact refuse_exc self
    · intro _ _ h; cases h
theorem contains_of_xtail : ∀ {l : List Value} {v : Value}, xtail l = true → [Value.type "Exception", .type "BaseException", .type "object"].contains v = true → l.contains v = true
  | .ref c :: r, v, e, h => by rw [List.contains_cons, contains_of_xtail (l := r) (by rw [xtail] at e; exact e) h, Bool.or_true]
  | [], _, e, _ => by cases e
  | .type n :: r, v, e, h => by
    rw [xtail] at e
    · rw [beq_iff_eq.mp e]; exact h
    · intro _ _ h; cases h
  | .none :: _, _, e, _ => by rw [xtail] at e; · cases beq_iff_eq.mp e
                              · intro _ _ h; cases h
  | .ellipsis :: _, _, e, _ => by rw [xtail] at e; · cases beq_iff_eq.mp e
                                  · intro _ _ h; cases h
  | .notImplemented :: _, _, e, _ => by rw [xtail] at e; · cases beq_iff_eq.mp e
                                        · intro _ _ h; cases h
  | .bool _ :: _, _, e, _ => by rw [xtail] at e; · cases beq_iff_eq.mp e
                                · intro _ _ h; cases h
  | .int _ _ :: _, _, e, _ => by rw [xtail] at e; · cases beq_iff_eq.mp e
                                 · intro _ _ h; cases h
  | .float _ _ :: _, _, e, _ => by rw [xtail] at e; · cases beq_iff_eq.mp e
                                   · intro _ _ h; cases h
  | .str _ _ :: _, _, e, _ => by rw [xtail] at e; · cases beq_iff_eq.mp e
                                 · intro _ _ h; cases h
  | .bytes _ _ :: _, _, e, _ => by rw [xtail] at e; · cases beq_iff_eq.mp e
                                   · intro _ _ h; cases h
  | .builtin _ :: _, _, e, _ => by rw [xtail] at e; · cases beq_iff_eq.mp e
                                   · intro _ _ h; cases h

section
variable {prog : Program} {w : World} {A : Around} {E : Value → Shared → Prop} {s : Shared} {K : Frag} {x C tp : Addr} {name : Str} {v : Value} {Q : Unit → Shared → Prop} {cd : ClassData}

theorem xosa {R : Result → Shared → Prop} {ox : Obj} {od : Option Obj} {tk : Tok} (X : K.In s.heap) (I : InstAt s.heap x ox C od) (hc : clsIn K C = some cd) (ho : xtail cd.mro = true) (ht : takerIn K C name = some none)
    (h : ∀ b, wpAny (model prog w) A.in1 (storeInOwnDict (.ref x) (.ref C) (.str name tk) name v b)
      (fun fin s' => match fin with | .done f => R (.ok f) s' | .again c' => c'.quiet = true ∧ codeAny (model prog w) A c' R s') (fun e s' => R (.error e) s') s) :
    codeAny (model prog w) A (.call (.builtin "object.__setattr__") ⟨[.ref x, .str name tk, v], []⟩) R s := by
  have SF := PySem.F.store_object
  have hobj : cd.mro.contains (.type "object") = true := contains_of_xtail ho (by decide +kernel)
  have ne : cd.mro.isEmpty = false := by cases q : cd.mro with | nil => rw [q] at ho; cases ho | cons _ _ => rfl
  have sub : Looks (model prog w) s.heap (isInstance (.ref x) (.type "object")) true := I.type.andThen (looks_mroIn X (by unfold mroIn; rw [hc, Option.bind_some, if_neg (by rw [ne]; decide), hobj]))
  refine codeAny_call_builtin SF.slot.plain SF.entry (@check_slot (model prog w) _ _ s "object.__setattr__" "object" "__setattr__" (.ref x) [.str name tk, v] [] _ SF.kind SF.split sub (SF.args (.ref x) (.str name tk) v) ?_)
  obtain ⟨attr, ha, hr⟩ := Option.bind_eq_some_iff.mp ht
  have hm : Looks (model prog w) s.heap (mroOf (.ref C)) cd.mro := (looks_clsIn X hc).andThen .now
  have L3 : Looks (model prog w) s.heap (storeTaker? attr) none := by
    cases attr with
    | none => exact .now
    | some a =>
      obtain ⟨b, hb, hbr⟩ := Option.map_eq_some_iff.mp hr
      cases b with
      | true => cases hbr
      | false => exact (looks_takesIn X hb).andThen .now
  rw [osa_eq, refuse_eq]
  refine wpAny_bind (wpAny_bind (I.type.here (wpAny_bind (hm.here ?_))))
  rw [xtail_refuse _ ho]
  refine wpAny_pure (wpAny_bind (I.type.here (wpAny_bind ((looks_findIn X ha).here (wpAny_bind (L3.here ?_))))))
  exact h _

theorem xput {R : Result → Shared → Prop} {dx : Addr} {l : List DictEntry} {n : Nat} {tk : Tok} {H : Heap} {g : Array GenState} {dr : Drawn} {u : Nat} {os : OsState} (D : H.get? dx = some (dictOf l n)) (hr : l.any (·.refKey) = false) (hz : l.length ≤ 900)
    (h : R (.ok (.ret .none)) ⟨H.update dx (Obj.putName name (PyData.keyHash w.params name) (.str name u) v), g, dr, u + 1, os⟩) :
    wpAny (model prog w) A.in1 (storeInDict dx (.str name tk) name v) (fun fin s' => match fin with | .done f => R (.ok f) s' | .again c' => c'.quiet = true ∧ codeAny (model prog w) A c' R s') (fun e s' => R (.error e) s') ⟨H, g, dr, u, os⟩ := by
  have U : (H.update dx (Obj.putName name (PyData.keyHash w.params name) (.str name u) v)).get? dx = some (dictOf (putL name (PyData.keyHash w.params name) (.str name u) v l) (putN name l n)) := by
    rw [Heap.get?_update_self _ D (by rw [putName_dict]; rfl), putName_dict]
  unfold storeInDict
  refine wpAny_bind (wpAny_pure (wpAny_bind ?_))
  unfold nsSet
  refine wpAny_bind (wpAny_bind (wpAny_askSetting (wpAny_pure (wpAny_bind (wpAny_mkText (wpAny_bind (wpAny_loadPart D ?_)))))))
  dsimp only
  have c : (!l.toArray.any (·.key.isStr name) && l.toArray.any (·.refKey)) = false := by
    rw [List.any_toArray, List.any_toArray, hr, Bool.and_false]
  rw [aRefKeyMayBeTheName_at, c]
  refine wpAny_updatePart D ?_
  have hz' := putL_len name (PyData.keyHash w.params name) (.str name u) v l
  refine wpAny_bind (wpAny_lookBehind U (pastItsLine_dict (by rw [List.size_toArray, sizeLine_eq]; omega)) ?_)
  exact wpAny_pure h

theorem xset_first (X : K.In s.heap) (hx : s.heap.get? x = some (xObj C tp none)) (hc : clsIn K C = some cd) (hd : cd.hasDict = true) (ho : xtail cd.mro = true)
    (hs : findIn K (.ref C) "__setattr__" = some (some (.builtin "object.__setattr__"))) (ht : takerIn K C name = some none)
    (h : ∀ h', (∀ b o, s.heap.get? b = some o → b ≠ x → h'.get? b = some o) → h'.get? x = some (xObj C tp (some s.heap.objs.size)) → h'.get? s.heap.objs.size = some (dictOf (putL name (PyData.keyHash w.params name) (.str name (s.toks + 1)) v []) (putN name [] 0)) →
      Q () { s with heap := h', toks := s.toks + 2 }) : wpAny (model prog w) A (setAttr (.ref x) name v) Q E s := by
  obtain ⟨H, g, dr, tk, os⟩ := s
  dsimp only at X hx h
  have I : InstAt H x (xObj C tp none) C none := ⟨hx, rfl, rfl, trivial⟩
  refine set_plain X I hs (xosa (s := ⟨H, g, dr, tk + 1, os⟩) X I hc ho ht fun b => ?_)
  unfold Builtin.ObjectAttr.storeInOwnDict
  refine wpAny_bind (wpAny_pure (wpAny_bind (wpAny_bind (wpAny_loadPart I.at_ (wpAny_bind ((looks_clsIn X hc).here ?_))))))
  rw [hd]
  show wpAny _ _ (alloc (dictOf [] 0) >>= fun d => (update x fun o => { o with dict := some d }) >>= fun _ => dictMade (.ref C) x d) _ _ _
  have hne : x ≠ H.objs.size := Nat.ne_of_lt (Heap.lt_size hx)
  have hx₁ : (H.push (dictOf [] 0)).get? x = some (xObj C tp none) := Heap.get?_push_of_some _ hx
  have D₁ : (H.push (dictOf [] 0)).get? H.objs.size = some (dictOf [] 0) := Heap.get?_push_at rfl rfl
  refine wpAny_bind (wpAny_alloc (wpAny_bind (wpAny_update hx₁ ?_)))
  have D₂ : ((H.push (dictOf [] 0)).update x fun o => { o with dict := some H.objs.size }).get? H.objs.size = some (dictOf [] 0) := by rw [Heap.get?_update_other _ _ hne]; exact D₁
  have hx₂ : ((H.push (dictOf [] 0)).update x fun o => { o with dict := some H.objs.size }).get? x = some (xObj C tp (some H.objs.size)) := Heap.get?_update_self _ hx₁ rfl
  refine wpAny_pure (a := some H.objs.size) ?_
  refine xput (R := fun r s' => match r with | .ok (.ret _) => Q () s' | .ok _ => False | .error e => E e s') D₂ rfl (by simp) (h _ (fun b o e hb => ?_) ?_ ?_)
  · have hbn : H.objs.size ≠ b := Nat.ne_of_gt (Heap.lt_size e)
    rw [Heap.get?_update_other _ _ hbn, Heap.get?_update_other _ _ (Ne.symm hb)]
    exact Heap.get?_push_of_some _ e
  · rw [Heap.get?_update_other _ _ (Ne.symm hne)]; exact hx₂
  · rw [Heap.get?_update_self _ D₂ (by rw [putName_dict]; rfl), putName_dict]

theorem xset_next {dx : Addr} {l : List DictEntry} {n : Nat} (X : K.In s.heap) (hx : s.heap.get? x = some (xObj C tp (some dx))) (D : s.heap.get? dx = some (dictOf l n)) (hr : l.any (·.refKey) = false) (hz : l.length ≤ 900) (hc : clsIn K C = some cd) (hd : cd.hasDict = true) (ho : xtail cd.mro = true)
    (hs : findIn K (.ref C) "__setattr__" = some (some (.builtin "object.__setattr__"))) (ht : takerIn K C name = some none)
    (h : ∀ h', (∀ b o, s.heap.get? b = some o → b ≠ dx → h'.get? b = some o) → h'.get? dx = some (dictOf (putL name (PyData.keyHash w.params name) (.str name (s.toks + 1)) v l) (putN name l n)) →
      Q () { s with heap := h', toks := s.toks + 2 }) : wpAny (model prog w) A (setAttr (.ref x) name v) Q E s := by
  obtain ⟨H, g, dr, tk, os⟩ := s
  dsimp only at X hx h D
  have I : InstAt H x (xObj C tp (some dx)) C (some (dictOf l n)) := ⟨hx, rfl, rfl, D⟩
  refine set_plain X I hs (xosa (s := ⟨H, g, dr, tk + 1, os⟩) X I hc ho ht fun b => ?_)
  unfold Builtin.ObjectAttr.storeInOwnDict
  refine wpAny_bind (wpAny_pure (wpAny_bind (wpAny_bind (wpAny_loadPart I.at_ (wpAny_bind ((looks_clsIn X hc).here ?_))))))
  rw [hd]
  refine wpAny_pure (a := some dx) ?_
  refine xput (R := fun r s' => match r with | .ok (.ret _) => Q () s' | .ok _ => False | .error e => E e s') D hr hz (h _ (fun b o e hb => ?_) ?_)
  · rw [Heap.get?_update_other _ _ (Ne.symm hb)]; exact e
  · rw [Heap.get?_update_self _ D (by rw [putName_dict]; rfl), putName_dict]
end
end Mine
end
section
set_option tactic.hygienic false
open PySem PySem.W PyProof.Rows PySem.Spec PySem.Calls PySem.Builtin.Str
set_option Elab.async false
set_option maxRecDepth 100000
set_option autoImplicit false
namespace Mine

noncomputable def objAt (K : Frag) (a : Addr) : Obj := (K.lookup a).getD default
noncomputable def fdAt (K : Frag) (a : Addr) : FuncData := match (objAt K a).data with | .func f => f | _ => default
noncomputable def bodyAt (K : Frag) (a : Addr) : List Stmt := match (fdAt K a).body with | .stmts b => b | _ => []
noncomputable def fxAt (K : Frag) (f : Addr) : FuncData := fnX (fdAt K f).name (fdAt K f).qualname (fdAt K f).params (bodyAt K f) (fdAt K f).scope [] (fdAt K f).defaults (fdAt K f).kwdefaults (fdAt K f).doc (fdAt K f).pyModule (fdAt K f).annotations (fdAt K f).code (fdAt K f).closureTuple

theorem len1 {α : Type} {l : List α} (h : l.length = 1) : ∃ a, l = [a] := by
  match l, h with | [a], _ => exact ⟨a, rfl⟩
theorem len2 {α : Type} {l : List α} (h : l.length = 2) : ∃ a b, l = [a, b] := by
  match l, h with | [a, b], _ => exact ⟨a, b, rfl⟩
theorem len3 {α : Type} {l : List α} (h : l.length = 3) : ∃ a b c, l = [a, b, c] := by
  match l, h with | [a, b, c], _ => exact ⟨a, b, c, rfl⟩
theorem len4 {α : Type} {l : List α} (h : l.length = 4) : ∃ a b c d, l = [a, b, c, d] := by
  match l, h with | [a, b, c, d], _ => exact ⟨a, b, c, d, rfl⟩

noncomputable def kindsB (n : Nat) (scope : Scope) (ps : List Str) : Bool := ps.all fun x => match scope.names.lookup x with
  | some .local => true
  | some .cell => ((cellsFrom n scope.names []).lookup x).isSome
  | _ => false
theorem kindsB_is {scope : Scope} {ps : List Str} (h : ∀ n, kindsB n scope ps = true) : ∀ x ∈ ps, scope.names.lookup x = some .local ∨ (scope.names.lookup x = some .cell ∧ ∀ n, ((cellsFrom n scope.names []).lookup x).isSome = true) := by
  intro x hx
  have k := fun n => List.all_eq_true.mp (h n) x hx
  cases q : scope.names.lookup x with
  | none => have := k 0; rw [q] at this; cases this
  | some kd =>
    cases kd with
    | «local» => exact .inl rfl
    | cell => exact .inr ⟨rfl, fun n => by have := k n; rw [q] at this; exact this⟩
    | _ => have := k 0; rw [q] at this; cases this

structure FnK (K : Frag) (f : Addr) (ps : List Str) : Prop where
  look : K.lookup f = some ⟨(objAt K f).cls, (objAt K f).dict, .func (fxAt K f), (objAt K f).slots⟩
  bind : ∀ s vs, vs.length = ps.length → BindsTo s (fxAt K f) ⟨vs, []⟩ (ps.zip vs)
  code : codeIn K (fdAt K f).code (fdAt K f).qualname = true
  co : (fdAt K f).scope.isCoroutine = false
  gen : (fdAt K f).scope.isGenerator = false
  kind : (fdAt K f).scope.kind = .function
  nd : ps.Nodup
  kinds : ∀ x ∈ ps, (fdAt K f).scope.names.lookup x = some .local ∨ ((fdAt K f).scope.names.lookup x = some .cell ∧ ∀ n, ((cellsFrom n (fdAt K f).scope.names []).lookup x).isSome = true)
  cells : ((cellsFrom 0 (fdAt K f).scope.names []).map (·.1)).Nodup

theorem FnK.fn {W : Wd} {K : Frag} {f : Addr} {ps : List Str} (h : FnK K f ps) (hK : W.K = K) : Fn W f (fdAt K f).qualname ps (bodyAt K f) (fdAt K f).scope (fdAt K f).code := by
  subst hK
  exact ⟨⟨_, _, _, _, _, _, _, _, _, _, _, h.look, h.bind⟩, h.code, h.co, h.gen, h.kind, h.nd, h.kinds, h.cells⟩

noncomputable def KP (P : Params) : Frag := hd.heap_1 P
noncomputable def eF (P : Params) (f L : Addr) : Env := envF (fdAt (KP P) f).qualname (fdAt (KP P) f).scope L f (fdAt (KP P) f).code

theorem FnK.of1 {K : Frag} {f : Addr} {x : Str} (look : K.lookup f = some ⟨(objAt K f).cls, (objAt K f).dict, .func (fxAt K f), (objAt K f).slots⟩) (bind : ∀ a, bindArgs (fxAt K f) ⟨[a], []⟩ = pure [(x, a)]) (code : codeIn K (fdAt K f).code (fdAt K f).qualname = true)
    (co : (fdAt K f).scope.isCoroutine = false) (gen : (fdAt K f).scope.isGenerator = false) (kind : (fdAt K f).scope.kind = .function) (kinds : ∀ n, kindsB n (fdAt K f).scope [x] = true) (cells : decide ((cellsFrom 0 (fdAt K f).scope.names []).map (·.1)).Nodup = true) : FnK K f [x] :=
  ⟨look, fun s vs hl => by obtain ⟨a, rfl⟩ := len1 hl; exact BindsTo.of_eq (bind a), code, co, gen, kind, by simp, kindsB_is kinds, of_decide_eq_true cells⟩
theorem FnK.of2 {K : Frag} {f : Addr} {x y : Str} (look : K.lookup f = some ⟨(objAt K f).cls, (objAt K f).dict, .func (fxAt K f), (objAt K f).slots⟩) (bind : ∀ a b, bindArgs (fxAt K f) ⟨[a, b], []⟩ = pure [(x, a), (y, b)]) (code : codeIn K (fdAt K f).code (fdAt K f).qualname = true)
    (co : (fdAt K f).scope.isCoroutine = false) (gen : (fdAt K f).scope.isGenerator = false) (kind : (fdAt K f).scope.kind = .function) (nd : decide [x, y].Nodup = true) (kinds : ∀ n, kindsB n (fdAt K f).scope [x, y] = true) (cells : decide ((cellsFrom 0 (fdAt K f).scope.names []).map (·.1)).Nodup = true) : FnK K f [x, y] :=
  ⟨look, fun s vs hl => by obtain ⟨a, b, rfl⟩ := len2 hl; exact BindsTo.of_eq (bind a b), code, co, gen, kind, of_decide_eq_true nd, kindsB_is kinds, of_decide_eq_true cells⟩
theorem FnK.of3 {K : Frag} {f : Addr} {x y z : Str} (look : K.lookup f = some ⟨(objAt K f).cls, (objAt K f).dict, .func (fxAt K f), (objAt K f).slots⟩) (bind : ∀ a b c, bindArgs (fxAt K f) ⟨[a, b, c], []⟩ = pure [(x, a), (y, b), (z, c)]) (code : codeIn K (fdAt K f).code (fdAt K f).qualname = true)
    (co : (fdAt K f).scope.isCoroutine = false) (gen : (fdAt K f).scope.isGenerator = false) (kind : (fdAt K f).scope.kind = .function) (nd : decide [x, y, z].Nodup = true) (kinds : ∀ n, kindsB n (fdAt K f).scope [x, y, z] = true) (cells : decide ((cellsFrom 0 (fdAt K f).scope.names []).map (·.1)).Nodup = true) : FnK K f [x, y, z] :=
  ⟨look, fun s vs hl => by obtain ⟨a, b, c, rfl⟩ := len3 hl; exact BindsTo.of_eq (bind a b c), code, co, gen, kind, of_decide_eq_true nd, kindsB_is kinds, of_decide_eq_true cells⟩
theorem FnK.of4 {K : Frag} {f : Addr} {x y z u : Str} (look : K.lookup f = some ⟨(objAt K f).cls, (objAt K f).dict, .func (fxAt K f), (objAt K f).slots⟩) (bind : ∀ a b c d, bindArgs (fxAt K f) ⟨[a, b, c, d], []⟩ = pure [(x, a), (y, b), (z, c), (u, d)]) (code : codeIn K (fdAt K f).code (fdAt K f).qualname = true)
    (co : (fdAt K f).scope.isCoroutine = false) (gen : (fdAt K f).scope.isGenerator = false) (kind : (fdAt K f).scope.kind = .function) (nd : decide [x, y, z, u].Nodup = true) (kinds : ∀ n, kindsB n (fdAt K f).scope [x, y, z, u] = true) (cells : decide ((cellsFrom 0 (fdAt K f).scope.names []).map (·.1)).Nodup = true) : FnK K f [x, y, z, u] :=
  ⟨look, fun s vs hl => by obtain ⟨a, b, c, d, rfl⟩ := len4 hl; exact BindsTo.of_eq (bind a b c d), code, co, gen, kind, of_decide_eq_true nd, kindsB_is kinds, of_decide_eq_true cells⟩

theorem fn_142 (P : Params) : FnK (KP P) 142 ["t"] := FnK.of1 (by kernel_rfl) (fun _ => by kernel_rfl) (by kernel_rfl) (by kernel_rfl) (by kernel_rfl) (by kernel_rfl) (fun _ => by kernel_rfl) (by kernel_rfl)
theorem fn_147 (P : Params) : FnK (KP P) 147 ["t", "by", "begin", "around"] := FnK.of4 (by kernel_rfl) (fun _ _ _ _ => by kernel_rfl) (by kernel_rfl) (by kernel_rfl) (by kernel_rfl) (by kernel_rfl) (by kernel_rfl) (fun _ => by kernel_rfl) (by kernel_rfl)
end Mine
end
section
set_option tactic.hygienic false
open PySem PySem.W PyProof.Rows PySem.Spec PySem.Calls PySem.Builtin.Str
set_option Elab.async false
set_option maxRecDepth 100000
set_option autoImplicit false
set_option maxHeartbeats 1000000
namespace Mine

theorem ux_of {tbl : List Str} {i : Nat} {x : Str} (hn : decide tbl.Nodup = true) (ht : tbl[i]? = some x) : ∀ j, tbl[j]? = some x → j = i := by
  intro j hj
  have hi := (List.getElem?_eq_some_iff.mp ht).1
  exact ((List.getElem?_inj hi (of_decide_eq_true hn)).mp (ht.trans hj.symm)).symm

section
variable {W : Wd} {cls : Xc → Addr} {n n₀ : Nat} {e : Env} {tbl : List Str} {loc : Loc} {gv : Nat → V} {mv : Str → V} {O : V → List V → St → (V → St → Prop) → (Xc → St → Prop) → Prop}

theorem put_loc {i : Nat} {x : Str} (hn : decide tbl.Nodup = true) (ht : tbl[i]? = some x) (hk : e.kindOf x = some .local) : Put e tbl i x := ⟨ht, ux_of hn ht, .inl hk⟩
theorem put_cell {i : Nat} {x : Str} (hn : decide tbl.Nodup = true) (ht : tbl[i]? = some x) (hk : e.kindOf x = some .cell) (hc : (e.cells.lookup x).isSome = true) : Put e tbl i x := ⟨ht, ux_of hn ht, .inr ⟨hk, Option.isSome_iff_exists.mp hc⟩⟩

theorem sndS_asg' {x : Str} {i : Nat} {value : Expr} {a : ME} {p' pos : Pos} (p : Put e tbl i x) (h : ∀ loc, Snd W cls n e tbl loc gv mv O value a) (hs : swapsWith value (some (.Name x p')) pos.line e = pure false) : SndS W cls n e tbl gv mv O (exec (.Assign [.Name x p'] value pos) e) (.asg i a) := sndS_asg p.tx p.ux p.kind h hs
theorem sndS_for' {x : Str} {i : Nat} {iter : Expr} {body : List Stmt} {px pos : Pos} {a : ME} {b : MS} (p : Put e tbl i x) (hs : ∀ x, foldedSetIterable iter e x = pure x)
    (hI : ∀ loc, SndI W cls n e tbl loc gv mv O iter a) (hb : SndS W cls n e tbl gv mv O (execs body e) b) : SndS W cls n e tbl gv mv O (exec (.For (.Name x px) iter body [] pos) e) (.forr i a b) := sndS_for p.tx p.ux p.kind hs hI hb
theorem sndS_bad {t : Sem Flow} : SndS W cls n e tbl gv mv O t .bad := ⟨fun _ _ _ _ q => q.elim⟩
theorem snd_bad {x : Expr} : Snd W cls n e tbl loc gv mv O x .bad := ⟨fun _ _ _ q => q.elim⟩

theorem snd_call0 {x : Str} {p₀ pos : Pos} {k : Nat} {f : Value} (hn : n₀ ≤ n) (hf : Snd W cls n e tbl loc gv mv (Orc W cls n₀) (.Name x p₀) (.glob k)) (hv : gv k = .fn f) (hk : keepIn W.K f = true) : Snd W cls n e tbl loc gv mv (Orc W cls n₀) (.Call (.Name x p₀) [] [] pos) (.call0 (.glob k)) :=
  ⟨fun _ _ _ q => snd_call (as := []) hn hf hv hk .nil q⟩
theorem snd_call1 {x : Str} {p₀ pos : Pos} {k : Nat} {f : Value} {x₁ : Expr} {a₁ : ME} (hn : n₀ ≤ n) (hf : Snd W cls n e tbl loc gv mv (Orc W cls n₀) (.Name x p₀) (.glob k)) (hv : gv k = .fn f) (hk : keepIn W.K f = true)
    (h₁ : Snd W cls n e tbl loc gv mv (Orc W cls n₀) x₁ a₁) (s₁ : isStar x₁ = false) : Snd W cls n e tbl loc gv mv (Orc W cls n₀) (.Call (.Name x p₀) [x₁] [] pos) (.call1 (.glob k) a₁) :=
  ⟨fun _ _ _ q => snd_call (as := [a₁]) hn hf hv hk (.cons s₁ h₁ .nil) q⟩
theorem snd_call2 {x : Str} {p₀ pos : Pos} {k : Nat} {f : Value} {x₁ x₂ : Expr} {a₁ a₂ : ME} (hn : n₀ ≤ n) (hf : Snd W cls n e tbl loc gv mv (Orc W cls n₀) (.Name x p₀) (.glob k)) (hv : gv k = .fn f) (hk : keepIn W.K f = true)
    (h₁ : Snd W cls n e tbl loc gv mv (Orc W cls n₀) x₁ a₁) (s₁ : isStar x₁ = false) (h₂ : Snd W cls n e tbl loc gv mv (Orc W cls n₀) x₂ a₂) (s₂ : isStar x₂ = false) : Snd W cls n e tbl loc gv mv (Orc W cls n₀) (.Call (.Name x p₀) [x₁, x₂] [] pos) (.call2 (.glob k) a₁ a₂) :=
  ⟨fun _ _ _ q => snd_call (as := [a₁, a₂]) hn hf hv hk (.cons s₁ h₁ (.cons s₂ h₂ .nil)) q⟩
theorem snd_call3 {x : Str} {p₀ pos : Pos} {k : Nat} {f : Value} {x₁ x₂ x₃ : Expr} {a₁ a₂ a₃ : ME} (hn : n₀ ≤ n) (hf : Snd W cls n e tbl loc gv mv (Orc W cls n₀) (.Name x p₀) (.glob k)) (hv : gv k = .fn f) (hk : keepIn W.K f = true)
    (h₁ : Snd W cls n e tbl loc gv mv (Orc W cls n₀) x₁ a₁) (s₁ : isStar x₁ = false) (h₂ : Snd W cls n e tbl loc gv mv (Orc W cls n₀) x₂ a₂) (s₂ : isStar x₂ = false) (h₃ : Snd W cls n e tbl loc gv mv (Orc W cls n₀) x₃ a₃) (s₃ : isStar x₃ = false) : Snd W cls n e tbl loc gv mv (Orc W cls n₀) (.Call (.Name x p₀) [x₁, x₂, x₃] [] pos) (.call3 (.glob k) a₁ a₂ a₃) :=
  ⟨fun _ _ _ q => snd_call (as := [a₁, a₂, a₃]) hn hf hv hk (.cons s₁ h₁ (.cons s₂ h₂ (.cons s₃ h₃ .nil))) q⟩
theorem snd_call4 {x : Str} {p₀ pos : Pos} {k : Nat} {f : Value} {x₁ x₂ x₃ x₄ : Expr} {a₁ a₂ a₃ a₄ : ME} (hn : n₀ ≤ n) (hf : Snd W cls n e tbl loc gv mv (Orc W cls n₀) (.Name x p₀) (.glob k)) (hv : gv k = .fn f) (hk : keepIn W.K f = true)
    (h₁ : Snd W cls n e tbl loc gv mv (Orc W cls n₀) x₁ a₁) (s₁ : isStar x₁ = false) (h₂ : Snd W cls n e tbl loc gv mv (Orc W cls n₀) x₂ a₂) (s₂ : isStar x₂ = false) (h₃ : Snd W cls n e tbl loc gv mv (Orc W cls n₀) x₃ a₃) (s₃ : isStar x₃ = false) (h₄ : Snd W cls n e tbl loc gv mv (Orc W cls n₀) x₄ a₄) (s₄ : isStar x₄ = false) : Snd W cls n e tbl loc gv mv (Orc W cls n₀) (.Call (.Name x p₀) [x₁, x₂, x₃, x₄] [] pos) (.call4 (.glob k) a₁ a₂ a₃ a₄) :=
  ⟨fun _ _ _ q => snd_call (as := [a₁, a₂, a₃, a₄]) hn hf hv hk (.cons s₁ h₁ (.cons s₂ h₂ (.cons s₃ h₃ (.cons s₄ h₄ .nil)))) q⟩

theorem snd_tup0 {k : Nat} {pos : Pos} : Snd W cls n e tbl loc gv mv O (.Tuple [] k pos) .tup0 := ⟨fun _ _ _ q => snd_tuple (gv := gv) (mv := mv) (O := O) (as := []) .nil (by simp) q⟩
theorem snd_tup1 {k : Nat} {pos : Pos} {x₁ : Expr} {a₁ : ME} (h₁ : Snd W cls n e tbl loc gv mv O x₁ a₁) (s₁ : isStar x₁ = false) : Snd W cls n e tbl loc gv mv O (.Tuple [x₁] k pos) (.tup1 a₁) := ⟨fun _ _ _ q => snd_tuple (as := [a₁]) (.cons s₁ h₁ .nil) (by simp) q⟩
theorem snd_tup2 {k : Nat} {pos : Pos} {x₁ x₂ : Expr} {a₁ a₂ : ME} (h₁ : Snd W cls n e tbl loc gv mv O x₁ a₁) (s₁ : isStar x₁ = false) (h₂ : Snd W cls n e tbl loc gv mv O x₂ a₂) (s₂ : isStar x₂ = false) : Snd W cls n e tbl loc gv mv O (.Tuple [x₁, x₂] k pos) (.tup2 a₁ a₂) := ⟨fun _ _ _ q => snd_tuple (as := [a₁, a₂]) (.cons s₁ h₁ (.cons s₂ h₂ .nil)) (by simp) q⟩
theorem snd_tup3 {k : Nat} {pos : Pos} {x₁ x₂ x₃ : Expr} {a₁ a₂ a₃ : ME} (h₁ : Snd W cls n e tbl loc gv mv O x₁ a₁) (s₁ : isStar x₁ = false) (h₂ : Snd W cls n e tbl loc gv mv O x₂ a₂) (s₂ : isStar x₂ = false) (h₃ : Snd W cls n e tbl loc gv mv O x₃ a₃) (s₃ : isStar x₃ = false) : Snd W cls n e tbl loc gv mv O (.Tuple [x₁, x₂, x₃] k pos) (.tup3 a₁ a₂ a₃) := ⟨fun _ _ _ q => snd_tuple (as := [a₁, a₂, a₃]) (.cons s₁ h₁ (.cons s₂ h₂ (.cons s₃ h₃ .nil))) (by simp) q⟩
theorem snd_lst0 {pos : Pos} : Snd W cls n e tbl loc gv mv O (.List [] pos) .lst0 := ⟨fun _ _ _ q => snd_listD (gv := gv) (mv := mv) (O := O) (as := []) .nil (by simp) q⟩
theorem snd_lst1 {pos : Pos} {x₁ : Expr} {a₁ : ME} (h₁ : Snd W cls n e tbl loc gv mv O x₁ a₁) (s₁ : isStar x₁ = false) : Snd W cls n e tbl loc gv mv O (.List [x₁] pos) (.lst1 a₁) := ⟨fun _ _ _ q => snd_listD (as := [a₁]) (.cons s₁ h₁ .nil) (by simp) q⟩
theorem snd_lst3 {pos : Pos} {x₁ x₂ x₃ : Expr} {a₁ a₂ a₃ : ME} (h₁ : Snd W cls n e tbl loc gv mv O x₁ a₁) (s₁ : isStar x₁ = false) (h₂ : Snd W cls n e tbl loc gv mv O x₂ a₂) (s₂ : isStar x₂ = false) (h₃ : Snd W cls n e tbl loc gv mv O x₃ a₃) (s₃ : isStar x₃ = false) : Snd W cls n e tbl loc gv mv O (.List [x₁, x₂, x₃] pos) (.lst3 a₁ a₂ a₃) := ⟨fun _ _ _ q => snd_listD (as := [a₁, a₂, a₃]) (.cons s₁ h₁ (.cons s₂ h₂ (.cons s₃ h₃ .nil))) (by simp) q⟩
theorem snd_new0 {pos : Pos} : Snd W cls n e tbl loc gv mv O (.List [] pos) .new0 := ⟨fun _ _ _ q => snd_newlist (gv := gv) (mv := mv) (O := O) (as := []) .nil (by simp) q⟩
theorem snd_new1 {pos : Pos} {x₁ : Expr} {a₁ : ME} (h₁ : Snd W cls n e tbl loc gv mv O x₁ a₁) (s₁ : isStar x₁ = false) : Snd W cls n e tbl loc gv mv O (.List [x₁] pos) (.new1 a₁) := ⟨fun _ _ _ q => snd_newlist (as := [a₁]) (.cons s₁ h₁ .nil) (by simp) q⟩

theorem snd_meth0 {o : Expr} {x : Str} {a : ME} {f : Addr} {apos pos : Pos} {pl : Sem Bool} (hn : n₀ ≤ n) (ho : Snd W cls n e tbl loc gv mv (Orc W cls n₀) o a) (hf : findIn W.K (.ref W.C) x = some (some (.ref f))) (ht : isFn W.K (.ref f) = true) (hk : keepIn W.K (.ref f) = true) (hv : mv x = .fn (.ref f))
    (he : eval (.Call (.Attribute o x apos) [] [] pos) e = (do
      let ov ← eval o e
      standAt apos.atName
      let (f, first) ← holding [ov] (getMethod ov x pl)
      callWith pos f first (backTo pos (starEach [] e)) [])) : Snd W cls n e tbl loc gv mv (Orc W cls n₀) (.Call (.Attribute o x apos) [] [] pos) (.meth0 a x) := ⟨fun _ _ _ q => snd_meth (as := []) hn ho hf ht hk hv .nil he q⟩
theorem snd_meth1 {o : Expr} {x : Str} {a : ME} {f : Addr} {x₁ : Expr} {a₁ : ME} {apos pos : Pos} {pl : Sem Bool} (hn : n₀ ≤ n) (ho : Snd W cls n e tbl loc gv mv (Orc W cls n₀) o a) (hf : findIn W.K (.ref W.C) x = some (some (.ref f))) (ht : isFn W.K (.ref f) = true) (hk : keepIn W.K (.ref f) = true) (hv : mv x = .fn (.ref f))
    (h₁ : Snd W cls n e tbl loc gv mv (Orc W cls n₀) x₁ a₁) (s₁ : isStar x₁ = false) (he : eval (.Call (.Attribute o x apos) [x₁] [] pos) e = (do
      let ov ← eval o e
      standAt apos.atName
      let (f, first) ← holding [ov] (getMethod ov x pl)
      callWith pos f first (backTo pos (starEach [x₁] e)) [])) : Snd W cls n e tbl loc gv mv (Orc W cls n₀) (.Call (.Attribute o x apos) [x₁] [] pos) (.meth1 a x a₁) := ⟨fun _ _ _ q => snd_meth (as := [a₁]) hn ho hf ht hk hv (.cons s₁ h₁ .nil) he q⟩
end
end Mine
end
section
set_option tactic.hygienic false
open PySem PySem.W PyProof.Rows PySem.Spec PySem.Calls PySem.Builtin.Str
set_option Elab.async false
set_option maxRecDepth 100000
set_option autoImplicit false
set_option maxHeartbeats 1000000
namespace Mine
noncomputable def GV : Nat → V
  | 0 => .fn (.ref 102)
  | 1 => .fn (.ref 109)
  | 2 => .fn (.ref 114)
  | 3 => .fn (.ref 121)
  | 4 => .fn (.ref 128)
  | 5 => .fn (.ref 135)
  | 6 => .fn (.ref 142)
  | 7 => .fn (.ref 147)
  | 8 => .fn (.ref 154)
  | 9 => .fn (.ref 159)
  | 10 => .fn (.ref 166)
  | 11 => .fn (.ref 173)
  | 12 => .fn (.ref 180)
  | 13 => .fn (.ref 185)
  | 14 => .fn (.ref 192)
  | 15 => .fn (.ref 199)
  | 16 => .fn (.ref 206)
  | 17 => .fn (.ref 213)
  | 18 => .fn (.ref 265)
  | 19 => .fn (.ref 276)
  | 20 => .fn (.ref 285)
  | 21 => .fn (.ref 292)
  | 22 => .fn (.ref 299)
  | 23 => .fn (.ref 306)
  | 24 => .fn (.ref 313)
  | 25 => .fn (.ref 320)
  | 26 => .fn (.ref 327)
  | 27 => .fn (.ref 334)
  | 28 => .fn (.ref 341)
  | 29 => .fn (.ref 348)
  | 30 => .str "0123456789"
  | 31 => .str "abcdefghijklmnopqrstuvwxyzABCDEFGHIJKLMNOPQRSTUVWXYZ"
  | 32 => .int 20000
  | 33 => .int 150
  | 34 => .int 40
  | 35 => .tup [.str "p", .str "y0", .str "x0", .str "q7"]
  | 36 => .tup [.str "k", .str "y0", .str "y1", .str "m2"]
  | 37 => .fn (.ref 93)
  | 38 => .fn (.ref 69)
  | _ => .none
noncomputable def MV (x : Str) : V := if x = "sign" then .fn (.ref 234) else if x = "want" then .fn (.ref 241) else if x = "name" then .fn (.ref 248) else if x = "leaf" then .fn (.ref 255) else if x = "term" then .fn (.ref 262) else .none

noncomputable def gval (P : Params) (x : Str) : Value := match nsIn (KP P) mainGlobals x with | some (some v) => v | _ => .none
noncomputable def tokOf : Value → Tok
  | .str _ t => t
  | .int _ t => t
  | _ => 0
noncomputable def refOf : Value → Addr
  | .ref a => a
  | _ => 0
noncomputable def seqOf (o : Obj) : List Value := match o.data with | .seq xs _ => xs.toList | _ => []
noncomputable def cntOf (o : Obj) : Nat := match o.data with | .seq _ n => n | _ => 0

theorem gk_part_at (P : Params) : nsIn (KP P) mainGlobals "part_at" = some (some (.ref 102)) := by kernel_rfl
theorem kk_part_at (P : Params) : keepIn (KP P) (.ref 102) = true := by kernel_rfl
theorem gv_part_at : GV 0 = .fn (.ref 102) := rfl
theorem gk_replaced (P : Params) : nsIn (KP P) mainGlobals "replaced" = some (some (.ref 109)) := by kernel_rfl
theorem kk_replaced (P : Params) : keepIn (KP P) (.ref 109) = true := by kernel_rfl
theorem gv_replaced : GV 1 = .fn (.ref 109) := rfl
theorem gk_is_row_of (P : Params) : nsIn (KP P) mainGlobals "is_row_of" = some (some (.ref 114)) := by kernel_rfl
theorem kk_is_row_of (P : Params) : keepIn (KP P) (.ref 114) = true := by kernel_rfl
theorem gv_is_row_of : GV 2 = .fn (.ref 114) := rfl
theorem gk_number_behind (P : Params) : nsIn (KP P) mainGlobals "number_behind" = some (some (.ref 121)) := by kernel_rfl
theorem kk_number_behind (P : Params) : keepIn (KP P) (.ref 121) = true := by kernel_rfl
theorem gv_number_behind : GV 3 = .fn (.ref 121) := rfl
theorem gk_index_of (P : Params) : nsIn (KP P) mainGlobals "index_of" = some (some (.ref 128)) := by kernel_rfl
theorem kk_index_of (P : Params) : keepIn (KP P) (.ref 128) = true := by kernel_rfl
theorem gv_index_of : GV 4 = .fn (.ref 128) := rfl
theorem gk_variable (P : Params) : nsIn (KP P) mainGlobals "variable" = some (some (.ref 135)) := by kernel_rfl
theorem kk_variable (P : Params) : keepIn (KP P) (.ref 135) = true := by kernel_rfl
theorem gv_variable : GV 5 = .fn (.ref 135) := rfl
theorem gk_below (P : Params) : nsIn (KP P) mainGlobals "below" = some (some (.ref 142)) := by kernel_rfl
theorem kk_below (P : Params) : keepIn (KP P) (.ref 142) = true := by kernel_rfl
theorem gv_below : GV 6 = .fn (.ref 142) := rfl
theorem gk_moved_within (P : Params) : nsIn (KP P) mainGlobals "moved_within" = some (some (.ref 147)) := by kernel_rfl
theorem kk_moved_within (P : Params) : keepIn (KP P) (.ref 147) = true := by kernel_rfl
theorem gv_moved_within : GV 7 = .fn (.ref 147) := rfl
theorem gk_shifted (P : Params) : nsIn (KP P) mainGlobals "shifted" = some (some (.ref 154)) := by kernel_rfl
theorem kk_shifted (P : Params) : keepIn (KP P) (.ref 154) = true := by kernel_rfl
theorem gv_shifted : GV 8 = .fn (.ref 154) := rfl
theorem gk_put_in (P : Params) : nsIn (KP P) mainGlobals "put_in" = some (some (.ref 159)) := by kernel_rfl
theorem kk_put_in (P : Params) : keepIn (KP P) (.ref 159) = true := by kernel_rfl
theorem gv_put_in : GV 9 = .fn (.ref 159) := rfl
theorem gk_is_redex (P : Params) : nsIn (KP P) mainGlobals "is_redex" = some (some (.ref 166)) := by kernel_rfl
theorem kk_is_redex (P : Params) : keepIn (KP P) (.ref 166) = true := by kernel_rfl
theorem gv_is_redex : GV 10 = .fn (.ref 166) := rfl
theorem gk_beta (P : Params) : nsIn (KP P) mainGlobals "beta" = some (some (.ref 173)) := by kernel_rfl
theorem kk_beta (P : Params) : keepIn (KP P) (.ref 173) = true := by kernel_rfl
theorem gv_beta : GV 11 = .fn (.ref 173) := rfl
theorem gk_first_redex (P : Params) : nsIn (KP P) mainGlobals "first_redex" = some (some (.ref 180)) := by kernel_rfl
theorem kk_first_redex (P : Params) : keepIn (KP P) (.ref 180) = true := by kernel_rfl
theorem gv_first_redex : GV 12 = .fn (.ref 180) := rfl
theorem gk_is_beyond (P : Params) : nsIn (KP P) mainGlobals "is_beyond" = some (some (.ref 185)) := by kernel_rfl
theorem kk_is_beyond (P : Params) : keepIn (KP P) (.ref 185) = true := by kernel_rfl
theorem gv_is_beyond : GV 13 = .fn (.ref 185) := rfl
theorem gk_normal (P : Params) : nsIn (KP P) mainGlobals "normal" = some (some (.ref 192)) := by kernel_rfl
theorem kk_normal (P : Params) : keepIn (KP P) (.ref 192) = true := by kernel_rfl
theorem gv_normal : GV 14 = .fn (.ref 192) := rfl
theorem gk_alike_to (P : Params) : nsIn (KP P) mainGlobals "alike_to" = some (some (.ref 199)) := by kernel_rfl
theorem kk_alike_to (P : Params) : keepIn (KP P) (.ref 199) = true := by kernel_rfl
theorem gv_alike_to : GV 15 = .fn (.ref 199) := rfl
theorem gk_named (P : Params) : nsIn (KP P) mainGlobals "named" = some (some (.ref 206)) := by kernel_rfl
theorem kk_named (P : Params) : keepIn (KP P) (.ref 206) = true := by kernel_rfl
theorem gv_named : GV 16 = .fn (.ref 206) := rfl
theorem gk_to_names (P : Params) : nsIn (KP P) mainGlobals "to_names" = some (some (.ref 213)) := by kernel_rfl
theorem kk_to_names (P : Params) : keepIn (KP P) (.ref 213) = true := by kernel_rfl
theorem gv_to_names : GV 17 = .fn (.ref 213) := rfl
theorem gk_NameReader (P : Params) : nsIn (KP P) mainGlobals "NameReader" = some (some (.ref 265)) := by kernel_rfl
theorem kk_NameReader (P : Params) : keepIn (KP P) (.ref 265) = true := by kernel_rfl
theorem gv_NameReader : GV 18 = .fn (.ref 265) := rfl
theorem gk_of_names (P : Params) : nsIn (KP P) mainGlobals "of_names" = some (some (.ref 276)) := by kernel_rfl
theorem kk_of_names (P : Params) : keepIn (KP P) (.ref 276) = true := by kernel_rfl
theorem gv_of_names : GV 19 = .fn (.ref 276) := rfl
theorem gk_law_digit (P : Params) : nsIn (KP P) mainGlobals "_law_digit" = some (some (.ref 285)) := by kernel_rfl
theorem kk_law_digit (P : Params) : keepIn (KP P) (.ref 285) = true := by kernel_rfl
theorem gv_law_digit : GV 20 = .fn (.ref 285) := rfl
theorem gk_law_tree (P : Params) : nsIn (KP P) mainGlobals "_law_tree" = some (some (.ref 292)) := by kernel_rfl
theorem kk_law_tree (P : Params) : keepIn (KP P) (.ref 292) = true := by kernel_rfl
theorem gv_law_tree : GV 21 = .fn (.ref 292) := rfl
theorem gk_law_bound (P : Params) : nsIn (KP P) mainGlobals "_law_bound" = some (some (.ref 299)) := by kernel_rfl
theorem kk_law_bound (P : Params) : keepIn (KP P) (.ref 299) = true := by kernel_rfl
theorem gv_law_bound : GV 22 = .fn (.ref 299) := rfl
theorem gk_law_core (P : Params) : nsIn (KP P) mainGlobals "_law_core" = some (some (.ref 306)) := by kernel_rfl
theorem kk_law_core (P : Params) : keepIn (KP P) (.ref 306) = true := by kernel_rfl
theorem gv_law_core : GV 23 = .fn (.ref 306) := rfl
theorem gk_law_shown (P : Params) : nsIn (KP P) mainGlobals "_law_shown" = some (some (.ref 313)) := by kernel_rfl
theorem kk_law_shown (P : Params) : keepIn (KP P) (.ref 313) = true := by kernel_rfl
theorem gv_law_shown : GV 24 = .fn (.ref 313) := rfl
theorem gk_law_words (P : Params) : nsIn (KP P) mainGlobals "_law_words" = some (some (.ref 320)) := by kernel_rfl
theorem kk_law_words (P : Params) : keepIn (KP P) (.ref 320) = true := by kernel_rfl
theorem gv_law_words : GV 25 = .fn (.ref 320) := rfl
theorem gk_law_text (P : Params) : nsIn (KP P) mainGlobals "_law_text" = some (some (.ref 327)) := by kernel_rfl
theorem kk_law_text (P : Params) : keepIn (KP P) (.ref 327) = true := by kernel_rfl
theorem gv_law_text : GV 26 = .fn (.ref 327) := rfl
theorem gk_law_wrapped (P : Params) : nsIn (KP P) mainGlobals "_law_wrapped" = some (some (.ref 334)) := by kernel_rfl
theorem kk_law_wrapped (P : Params) : keepIn (KP P) (.ref 334) = true := by kernel_rfl
theorem gv_law_wrapped : GV 27 = .fn (.ref 334) := rfl
theorem gk_law_alike (P : Params) : nsIn (KP P) mainGlobals "_law_alike" = some (some (.ref 341)) := by kernel_rfl
theorem kk_law_alike (P : Params) : keepIn (KP P) (.ref 341) = true := by kernel_rfl
theorem gv_law_alike : GV 28 = .fn (.ref 341) := rfl
theorem gk_law_refused_at (P : Params) : nsIn (KP P) mainGlobals "_law_refused_at" = some (some (.ref 348)) := by kernel_rfl
theorem kk_law_refused_at (P : Params) : keepIn (KP P) (.ref 348) = true := by kernel_rfl
theorem gv_law_refused_at : GV 29 = .fn (.ref 348) := rfl
theorem gk_FIGURES (P : Params) : nsIn (KP P) mainGlobals "FIGURES" = some (some (gval P "FIGURES")) := by kernel_rfl
theorem gw_FIGURES (P : Params) : gval P "FIGURES" = .str "0123456789" (tokOf (gval P "FIGURES")) := by kernel_rfl
theorem gk_LETTERS (P : Params) : nsIn (KP P) mainGlobals "LETTERS" = some (some (gval P "LETTERS")) := by kernel_rfl
theorem gw_LETTERS (P : Params) : gval P "LETTERS" = .str "abcdefghijklmnopqrstuvwxyzABCDEFGHIJKLMNOPQRSTUVWXYZ" (tokOf (gval P "LETTERS")) := by kernel_rfl
theorem gk_MOST_SIZE (P : Params) : nsIn (KP P) mainGlobals "MOST_SIZE" = some (some (gval P "MOST_SIZE")) := by kernel_rfl
theorem gw_MOST_SIZE (P : Params) : gval P "MOST_SIZE" = .int 20000 (tokOf (gval P "MOST_SIZE")) := by kernel_rfl
theorem gk_MOST_LEVELS (P : Params) : nsIn (KP P) mainGlobals "MOST_LEVELS" = some (some (gval P "MOST_LEVELS")) := by kernel_rfl
theorem gw_MOST_LEVELS (P : Params) : gval P "MOST_LEVELS" = .int 150 (tokOf (gval P "MOST_LEVELS")) := by kernel_rfl
theorem gk_MOST_DEPTH (P : Params) : nsIn (KP P) mainGlobals "MOST_DEPTH" = some (some (gval P "MOST_DEPTH")) := by kernel_rfl
theorem gw_MOST_DEPTH (P : Params) : gval P "MOST_DEPTH" = .int 40 (tokOf (gval P "MOST_DEPTH")) := by kernel_rfl
theorem gk_law_binders (P : Params) : nsIn (KP P) mainGlobals "_law_binders" = some (some (gval P "_law_binders")) := by kernel_rfl
noncomputable def ga_law_binders (P : Params) : Addr := refOf (gval P "_law_binders")
theorem gw_law_binders (P : Params) : gval P "_law_binders" = .ref (ga_law_binders P) := by kernel_rfl
noncomputable def gt_law_binders (P : Params) (i : Nat) : Tok := tokOf ((seqOf (objAt (KP P) (ga_law_binders P))).getD i .none)
theorem gl_law_binders (P : Params) : (KP P).lookup (ga_law_binders P) = some { cls := .type "tuple", dict := none, data := .seq (List.toArray [.str "p" (gt_law_binders P 0), .str "y0" (gt_law_binders P 1), .str "x0" (gt_law_binders P 2), .str "q7" (gt_law_binders P 3)]) (cntOf (objAt (KP P) (ga_law_binders P))), slots := #[] } := by kernel_rfl
theorem gk_law_others (P : Params) : nsIn (KP P) mainGlobals "_law_others" = some (some (gval P "_law_others")) := by kernel_rfl
noncomputable def ga_law_others (P : Params) : Addr := refOf (gval P "_law_others")
theorem gw_law_others (P : Params) : gval P "_law_others" = .ref (ga_law_others P) := by kernel_rfl
noncomputable def gt_law_others (P : Params) (i : Nat) : Tok := tokOf ((seqOf (objAt (KP P) (ga_law_others P))).getD i .none)
theorem gl_law_others (P : Params) : (KP P).lookup (ga_law_others P) = some { cls := .type "tuple", dict := none, data := .seq (List.toArray [.str "k" (gt_law_others P 0), .str "y0" (gt_law_others P 1), .str "y1" (gt_law_others P 2), .str "m2" (gt_law_others P 3)]) (cntOf (objAt (KP P) (ga_law_others P))), slots := #[] } := by kernel_rfl
theorem gk_LimitFault (P : Params) : nsIn (KP P) mainGlobals "LimitFault" = some (some (.ref 93)) := by kernel_rfl
theorem gv_LimitFault : GV 37 = .fn (.ref 93) := rfl
theorem gk_TextFault (P : Params) : nsIn (KP P) mainGlobals "TextFault" = some (some (.ref 69)) := by kernel_rfl
theorem gv_TextFault : GV 38 = .fn (.ref 69) := rfl

section
variable {W : Wd} {e : Env}
theorem bk_len (P : Params) : nsIn (KP P) mainGlobals "len" = some none := by kernel_rfl
theorem boot_len (hK : W.K = KP W.w.params) (hx : e.kindOf "len" = some .globalImplicit) : Boot W e "len" (.builtin "len") := boot_of hx (by rw [hK]; exact bk_len _) (by decide +kernel) (by decide) (by decide)
theorem bk_int (P : Params) : nsIn (KP P) mainGlobals "int" = some none := by kernel_rfl
theorem boot_int (hK : W.K = KP W.w.params) (hx : e.kindOf "int" = some .globalImplicit) : Boot W e "int" (.type "int") := boot_of hx (by rw [hK]; exact bk_int _) (by decide +kernel) (by decide) (by decide)
theorem bk_str (P : Params) : nsIn (KP P) mainGlobals "str" = some none := by kernel_rfl
theorem boot_str (hK : W.K = KP W.w.params) (hx : e.kindOf "str" = some .globalImplicit) : Boot W e "str" (.type "str") := boot_of hx (by rw [hK]; exact bk_str _) (by decide +kernel) (by decide) (by decide)
theorem bk_tuple (P : Params) : nsIn (KP P) mainGlobals "tuple" = some none := by kernel_rfl
theorem boot_tuple (hK : W.K = KP W.w.params) (hx : e.kindOf "tuple" = some .globalImplicit) : Boot W e "tuple" (.type "tuple") := boot_of hx (by rw [hK]; exact bk_tuple _) (by decide +kernel) (by decide) (by decide)
theorem bk_range (P : Params) : nsIn (KP P) mainGlobals "range" = some none := by kernel_rfl
theorem boot_range (hK : W.K = KP W.w.params) (hx : e.kindOf "range" = some .globalImplicit) : Boot W e "range" (.type "range") := boot_of hx (by rw [hK]; exact bk_range _) (by decide +kernel) (by decide) (by decide)
theorem bk_enumerate (P : Params) : nsIn (KP P) mainGlobals "enumerate" = some none := by kernel_rfl
theorem boot_enumerate (hK : W.K = KP W.w.params) (hx : e.kindOf "enumerate" = some .globalImplicit) : Boot W e "enumerate" (.type "enumerate") := boot_of hx (by rw [hK]; exact bk_enumerate _) (by decide +kernel) (by decide) (by decide)
theorem g_part_at (hK : W.K = KP W.w.params) : nsIn W.K mainGlobals "part_at" = some (some (.ref 102)) := by rw [hK]; exact gk_part_at _
theorem v_part_at (_hK : W.K = KP W.w.params) : VR W.hT [] (GV 0) (.ref 102) := by rw [gv_part_at, VR]
theorem k_part_at (hK : W.K = KP W.w.params) : keepIn W.K (.ref 102) = true := by rw [hK]; exact kk_part_at _
theorem g_replaced (hK : W.K = KP W.w.params) : nsIn W.K mainGlobals "replaced" = some (some (.ref 109)) := by rw [hK]; exact gk_replaced _
theorem v_replaced (_hK : W.K = KP W.w.params) : VR W.hT [] (GV 1) (.ref 109) := by rw [gv_replaced, VR]
theorem k_replaced (hK : W.K = KP W.w.params) : keepIn W.K (.ref 109) = true := by rw [hK]; exact kk_replaced _
theorem g_is_row_of (hK : W.K = KP W.w.params) : nsIn W.K mainGlobals "is_row_of" = some (some (.ref 114)) := by rw [hK]; exact gk_is_row_of _
theorem v_is_row_of (_hK : W.K = KP W.w.params) : VR W.hT [] (GV 2) (.ref 114) := by rw [gv_is_row_of, VR]
theorem k_is_row_of (hK : W.K = KP W.w.params) : keepIn W.K (.ref 114) = true := by rw [hK]; exact kk_is_row_of _
theorem g_number_behind (hK : W.K = KP W.w.params) : nsIn W.K mainGlobals "number_behind" = some (some (.ref 121)) := by rw [hK]; exact gk_number_behind _
theorem v_number_behind (_hK : W.K = KP W.w.params) : VR W.hT [] (GV 3) (.ref 121) := by rw [gv_number_behind, VR]
theorem k_number_behind (hK : W.K = KP W.w.params) : keepIn W.K (.ref 121) = true := by rw [hK]; exact kk_number_behind _
theorem g_index_of (hK : W.K = KP W.w.params) : nsIn W.K mainGlobals "index_of" = some (some (.ref 128)) := by rw [hK]; exact gk_index_of _
theorem v_index_of (_hK : W.K = KP W.w.params) : VR W.hT [] (GV 4) (.ref 128) := by rw [gv_index_of, VR]
theorem k_index_of (hK : W.K = KP W.w.params) : keepIn W.K (.ref 128) = true := by rw [hK]; exact kk_index_of _
theorem g_variable (hK : W.K = KP W.w.params) : nsIn W.K mainGlobals "variable" = some (some (.ref 135)) := by rw [hK]; exact gk_variable _
theorem v_variable (_hK : W.K = KP W.w.params) : VR W.hT [] (GV 5) (.ref 135) := by rw [gv_variable, VR]
theorem k_variable (hK : W.K = KP W.w.params) : keepIn W.K (.ref 135) = true := by rw [hK]; exact kk_variable _
theorem g_below (hK : W.K = KP W.w.params) : nsIn W.K mainGlobals "below" = some (some (.ref 142)) := by rw [hK]; exact gk_below _
theorem v_below (_hK : W.K = KP W.w.params) : VR W.hT [] (GV 6) (.ref 142) := by rw [gv_below, VR]
theorem k_below (hK : W.K = KP W.w.params) : keepIn W.K (.ref 142) = true := by rw [hK]; exact kk_below _
theorem g_moved_within (hK : W.K = KP W.w.params) : nsIn W.K mainGlobals "moved_within" = some (some (.ref 147)) := by rw [hK]; exact gk_moved_within _
theorem v_moved_within (_hK : W.K = KP W.w.params) : VR W.hT [] (GV 7) (.ref 147) := by rw [gv_moved_within, VR]
theorem k_moved_within (hK : W.K = KP W.w.params) : keepIn W.K (.ref 147) = true := by rw [hK]; exact kk_moved_within _
theorem g_shifted (hK : W.K = KP W.w.params) : nsIn W.K mainGlobals "shifted" = some (some (.ref 154)) := by rw [hK]; exact gk_shifted _
theorem v_shifted (_hK : W.K = KP W.w.params) : VR W.hT [] (GV 8) (.ref 154) := by rw [gv_shifted, VR]
theorem k_shifted (hK : W.K = KP W.w.params) : keepIn W.K (.ref 154) = true := by rw [hK]; exact kk_shifted _
theorem g_put_in (hK : W.K = KP W.w.params) : nsIn W.K mainGlobals "put_in" = some (some (.ref 159)) := by rw [hK]; exact gk_put_in _
theorem v_put_in (_hK : W.K = KP W.w.params) : VR W.hT [] (GV 9) (.ref 159) := by rw [gv_put_in, VR]
theorem k_put_in (hK : W.K = KP W.w.params) : keepIn W.K (.ref 159) = true := by rw [hK]; exact kk_put_in _
theorem g_is_redex (hK : W.K = KP W.w.params) : nsIn W.K mainGlobals "is_redex" = some (some (.ref 166)) := by rw [hK]; exact gk_is_redex _
theorem v_is_redex (_hK : W.K = KP W.w.params) : VR W.hT [] (GV 10) (.ref 166) := by rw [gv_is_redex, VR]
theorem k_is_redex (hK : W.K = KP W.w.params) : keepIn W.K (.ref 166) = true := by rw [hK]; exact kk_is_redex _
theorem g_beta (hK : W.K = KP W.w.params) : nsIn W.K mainGlobals "beta" = some (some (.ref 173)) := by rw [hK]; exact gk_beta _
theorem v_beta (_hK : W.K = KP W.w.params) : VR W.hT [] (GV 11) (.ref 173) := by rw [gv_beta, VR]
theorem k_beta (hK : W.K = KP W.w.params) : keepIn W.K (.ref 173) = true := by rw [hK]; exact kk_beta _
theorem g_first_redex (hK : W.K = KP W.w.params) : nsIn W.K mainGlobals "first_redex" = some (some (.ref 180)) := by rw [hK]; exact gk_first_redex _
theorem v_first_redex (_hK : W.K = KP W.w.params) : VR W.hT [] (GV 12) (.ref 180) := by rw [gv_first_redex, VR]
theorem k_first_redex (hK : W.K = KP W.w.params) : keepIn W.K (.ref 180) = true := by rw [hK]; exact kk_first_redex _
theorem g_is_beyond (hK : W.K = KP W.w.params) : nsIn W.K mainGlobals "is_beyond" = some (some (.ref 185)) := by rw [hK]; exact gk_is_beyond _
theorem v_is_beyond (_hK : W.K = KP W.w.params) : VR W.hT [] (GV 13) (.ref 185) := by rw [gv_is_beyond, VR]
theorem k_is_beyond (hK : W.K = KP W.w.params) : keepIn W.K (.ref 185) = true := by rw [hK]; exact kk_is_beyond _
theorem g_normal (hK : W.K = KP W.w.params) : nsIn W.K mainGlobals "normal" = some (some (.ref 192)) := by rw [hK]; exact gk_normal _
theorem v_normal (_hK : W.K = KP W.w.params) : VR W.hT [] (GV 14) (.ref 192) := by rw [gv_normal, VR]
theorem k_normal (hK : W.K = KP W.w.params) : keepIn W.K (.ref 192) = true := by rw [hK]; exact kk_normal _
theorem g_alike_to (hK : W.K = KP W.w.params) : nsIn W.K mainGlobals "alike_to" = some (some (.ref 199)) := by rw [hK]; exact gk_alike_to _
theorem v_alike_to (_hK : W.K = KP W.w.params) : VR W.hT [] (GV 15) (.ref 199) := by rw [gv_alike_to, VR]
theorem k_alike_to (hK : W.K = KP W.w.params) : keepIn W.K (.ref 199) = true := by rw [hK]; exact kk_alike_to _
theorem g_named (hK : W.K = KP W.w.params) : nsIn W.K mainGlobals "named" = some (some (.ref 206)) := by rw [hK]; exact gk_named _
theorem v_named (_hK : W.K = KP W.w.params) : VR W.hT [] (GV 16) (.ref 206) := by rw [gv_named, VR]
theorem k_named (hK : W.K = KP W.w.params) : keepIn W.K (.ref 206) = true := by rw [hK]; exact kk_named _
theorem g_to_names (hK : W.K = KP W.w.params) : nsIn W.K mainGlobals "to_names" = some (some (.ref 213)) := by rw [hK]; exact gk_to_names _
theorem v_to_names (_hK : W.K = KP W.w.params) : VR W.hT [] (GV 17) (.ref 213) := by rw [gv_to_names, VR]
theorem k_to_names (hK : W.K = KP W.w.params) : keepIn W.K (.ref 213) = true := by rw [hK]; exact kk_to_names _
theorem g_NameReader (hK : W.K = KP W.w.params) : nsIn W.K mainGlobals "NameReader" = some (some (.ref 265)) := by rw [hK]; exact gk_NameReader _
theorem v_NameReader (_hK : W.K = KP W.w.params) : VR W.hT [] (GV 18) (.ref 265) := by rw [gv_NameReader, VR]
theorem k_NameReader (hK : W.K = KP W.w.params) : keepIn W.K (.ref 265) = true := by rw [hK]; exact kk_NameReader _
theorem g_of_names (hK : W.K = KP W.w.params) : nsIn W.K mainGlobals "of_names" = some (some (.ref 276)) := by rw [hK]; exact gk_of_names _
theorem v_of_names (_hK : W.K = KP W.w.params) : VR W.hT [] (GV 19) (.ref 276) := by rw [gv_of_names, VR]
theorem k_of_names (hK : W.K = KP W.w.params) : keepIn W.K (.ref 276) = true := by rw [hK]; exact kk_of_names _
theorem g_law_digit (hK : W.K = KP W.w.params) : nsIn W.K mainGlobals "_law_digit" = some (some (.ref 285)) := by rw [hK]; exact gk_law_digit _
theorem v_law_digit (_hK : W.K = KP W.w.params) : VR W.hT [] (GV 20) (.ref 285) := by rw [gv_law_digit, VR]
theorem k_law_digit (hK : W.K = KP W.w.params) : keepIn W.K (.ref 285) = true := by rw [hK]; exact kk_law_digit _
theorem g_law_tree (hK : W.K = KP W.w.params) : nsIn W.K mainGlobals "_law_tree" = some (some (.ref 292)) := by rw [hK]; exact gk_law_tree _
theorem v_law_tree (_hK : W.K = KP W.w.params) : VR W.hT [] (GV 21) (.ref 292) := by rw [gv_law_tree, VR]
theorem k_law_tree (hK : W.K = KP W.w.params) : keepIn W.K (.ref 292) = true := by rw [hK]; exact kk_law_tree _
theorem g_law_bound (hK : W.K = KP W.w.params) : nsIn W.K mainGlobals "_law_bound" = some (some (.ref 299)) := by rw [hK]; exact gk_law_bound _
theorem v_law_bound (_hK : W.K = KP W.w.params) : VR W.hT [] (GV 22) (.ref 299) := by rw [gv_law_bound, VR]
theorem k_law_bound (hK : W.K = KP W.w.params) : keepIn W.K (.ref 299) = true := by rw [hK]; exact kk_law_bound _
theorem g_law_core (hK : W.K = KP W.w.params) : nsIn W.K mainGlobals "_law_core" = some (some (.ref 306)) := by rw [hK]; exact gk_law_core _
theorem v_law_core (_hK : W.K = KP W.w.params) : VR W.hT [] (GV 23) (.ref 306) := by rw [gv_law_core, VR]
theorem k_law_core (hK : W.K = KP W.w.params) : keepIn W.K (.ref 306) = true := by rw [hK]; exact kk_law_core _
theorem g_law_shown (hK : W.K = KP W.w.params) : nsIn W.K mainGlobals "_law_shown" = some (some (.ref 313)) := by rw [hK]; exact gk_law_shown _
theorem v_law_shown (_hK : W.K = KP W.w.params) : VR W.hT [] (GV 24) (.ref 313) := by rw [gv_law_shown, VR]
theorem k_law_shown (hK : W.K = KP W.w.params) : keepIn W.K (.ref 313) = true := by rw [hK]; exact kk_law_shown _
theorem g_law_words (hK : W.K = KP W.w.params) : nsIn W.K mainGlobals "_law_words" = some (some (.ref 320)) := by rw [hK]; exact gk_law_words _
theorem v_law_words (_hK : W.K = KP W.w.params) : VR W.hT [] (GV 25) (.ref 320) := by rw [gv_law_words, VR]
theorem k_law_words (hK : W.K = KP W.w.params) : keepIn W.K (.ref 320) = true := by rw [hK]; exact kk_law_words _
theorem g_law_text (hK : W.K = KP W.w.params) : nsIn W.K mainGlobals "_law_text" = some (some (.ref 327)) := by rw [hK]; exact gk_law_text _
theorem v_law_text (_hK : W.K = KP W.w.params) : VR W.hT [] (GV 26) (.ref 327) := by rw [gv_law_text, VR]
theorem k_law_text (hK : W.K = KP W.w.params) : keepIn W.K (.ref 327) = true := by rw [hK]; exact kk_law_text _
theorem g_law_wrapped (hK : W.K = KP W.w.params) : nsIn W.K mainGlobals "_law_wrapped" = some (some (.ref 334)) := by rw [hK]; exact gk_law_wrapped _
theorem v_law_wrapped (_hK : W.K = KP W.w.params) : VR W.hT [] (GV 27) (.ref 334) := by rw [gv_law_wrapped, VR]
theorem k_law_wrapped (hK : W.K = KP W.w.params) : keepIn W.K (.ref 334) = true := by rw [hK]; exact kk_law_wrapped _
theorem g_law_alike (hK : W.K = KP W.w.params) : nsIn W.K mainGlobals "_law_alike" = some (some (.ref 341)) := by rw [hK]; exact gk_law_alike _
theorem v_law_alike (_hK : W.K = KP W.w.params) : VR W.hT [] (GV 28) (.ref 341) := by rw [gv_law_alike, VR]
theorem k_law_alike (hK : W.K = KP W.w.params) : keepIn W.K (.ref 341) = true := by rw [hK]; exact kk_law_alike _
theorem g_law_refused_at (hK : W.K = KP W.w.params) : nsIn W.K mainGlobals "_law_refused_at" = some (some (.ref 348)) := by rw [hK]; exact gk_law_refused_at _
theorem v_law_refused_at (_hK : W.K = KP W.w.params) : VR W.hT [] (GV 29) (.ref 348) := by rw [gv_law_refused_at, VR]
theorem k_law_refused_at (hK : W.K = KP W.w.params) : keepIn W.K (.ref 348) = true := by rw [hK]; exact kk_law_refused_at _
theorem g_FIGURES (hK : W.K = KP W.w.params) : nsIn W.K mainGlobals "FIGURES" = some (some (gval W.w.params "FIGURES")) := by rw [hK]; exact gk_FIGURES _
theorem v_FIGURES (_hK : W.K = KP W.w.params) : VR W.hT [] (GV 30) (gval W.w.params "FIGURES") := by rw [gw_FIGURES]; exact vr_str
theorem g_LETTERS (hK : W.K = KP W.w.params) : nsIn W.K mainGlobals "LETTERS" = some (some (gval W.w.params "LETTERS")) := by rw [hK]; exact gk_LETTERS _
theorem v_LETTERS (_hK : W.K = KP W.w.params) : VR W.hT [] (GV 31) (gval W.w.params "LETTERS") := by rw [gw_LETTERS]; exact vr_str
theorem g_MOST_SIZE (hK : W.K = KP W.w.params) : nsIn W.K mainGlobals "MOST_SIZE" = some (some (gval W.w.params "MOST_SIZE")) := by rw [hK]; exact gk_MOST_SIZE _
theorem v_MOST_SIZE (_hK : W.K = KP W.w.params) : VR W.hT [] (GV 32) (gval W.w.params "MOST_SIZE") := by rw [gw_MOST_SIZE]; exact vr_int
theorem g_MOST_LEVELS (hK : W.K = KP W.w.params) : nsIn W.K mainGlobals "MOST_LEVELS" = some (some (gval W.w.params "MOST_LEVELS")) := by rw [hK]; exact gk_MOST_LEVELS _
theorem v_MOST_LEVELS (_hK : W.K = KP W.w.params) : VR W.hT [] (GV 33) (gval W.w.params "MOST_LEVELS") := by rw [gw_MOST_LEVELS]; exact vr_int
theorem g_MOST_DEPTH (hK : W.K = KP W.w.params) : nsIn W.K mainGlobals "MOST_DEPTH" = some (some (gval W.w.params "MOST_DEPTH")) := by rw [hK]; exact gk_MOST_DEPTH _
theorem v_MOST_DEPTH (_hK : W.K = KP W.w.params) : VR W.hT [] (GV 34) (gval W.w.params "MOST_DEPTH") := by rw [gw_MOST_DEPTH]; exact vr_int
theorem g_law_binders (hK : W.K = KP W.w.params) : nsIn W.K mainGlobals "_law_binders" = some (some (gval W.w.params "_law_binders")) := by rw [hK]; exact gk_law_binders _
theorem v_law_binders (hK : W.K = KP W.w.params) : VR W.hT [] (GV 35) (gval W.w.params "_law_binders") := by
  rw [gw_law_binders]
  have h := W.X _ _ (hK ▸ gl_law_binders W.w.params)
  show VR W.hT [] (.tup _) _
  rw [VR]
  exact ⟨_, _, _, rfl, h, List.not_mem_nil, VRs.cons vr_str (VRs.cons vr_str (VRs.cons vr_str (VRs.cons vr_str (VRs.nil))))⟩
theorem g_law_others (hK : W.K = KP W.w.params) : nsIn W.K mainGlobals "_law_others" = some (some (gval W.w.params "_law_others")) := by rw [hK]; exact gk_law_others _
theorem v_law_others (hK : W.K = KP W.w.params) : VR W.hT [] (GV 36) (gval W.w.params "_law_others") := by
  rw [gw_law_others]
  have h := W.X _ _ (hK ▸ gl_law_others W.w.params)
  show VR W.hT [] (.tup _) _
  rw [VR]
  exact ⟨_, _, _, rfl, h, List.not_mem_nil, VRs.cons vr_str (VRs.cons vr_str (VRs.cons vr_str (VRs.cons vr_str (VRs.nil))))⟩
theorem g_LimitFault (hK : W.K = KP W.w.params) : nsIn W.K mainGlobals "LimitFault" = some (some (.ref 93)) := by rw [hK]; exact gk_LimitFault _
theorem v_LimitFault (_hK : W.K = KP W.w.params) : VR W.hT [] (GV 37) (.ref 93) := by rw [gv_LimitFault, VR]
theorem g_TextFault (hK : W.K = KP W.w.params) : nsIn W.K mainGlobals "TextFault" = some (some (.ref 69)) := by rw [hK]; exact gk_TextFault _
theorem v_TextFault (_hK : W.K = KP W.w.params) : VR W.hT [] (GV 38) (.ref 69) := by rw [gv_TextFault, VR]
theorem mk_sign (P : Params) : findIn (KP P) (.ref 265) "sign" = some (some (.ref 234)) ∧ isFn (KP P) (.ref 234) = true ∧ keepIn (KP P) (.ref 234) = true := ⟨by kernel_rfl, by kernel_rfl, by kernel_rfl⟩
theorem m_sign (hK : W.K = KP W.w.params) (hC : W.C = 265) : findIn W.K (.ref W.C) "sign" = some (some (.ref 234)) ∧ isFn W.K (.ref 234) = true ∧ keepIn W.K (.ref 234) = true := by rw [hK, hC]; exact mk_sign _
theorem mv_sign : MV "sign" = .fn (.ref 234) := by kernel_rfl
theorem mk_want (P : Params) : findIn (KP P) (.ref 265) "want" = some (some (.ref 241)) ∧ isFn (KP P) (.ref 241) = true ∧ keepIn (KP P) (.ref 241) = true := ⟨by kernel_rfl, by kernel_rfl, by kernel_rfl⟩
theorem m_want (hK : W.K = KP W.w.params) (hC : W.C = 265) : findIn W.K (.ref W.C) "want" = some (some (.ref 241)) ∧ isFn W.K (.ref 241) = true ∧ keepIn W.K (.ref 241) = true := by rw [hK, hC]; exact mk_want _
theorem mv_want : MV "want" = .fn (.ref 241) := by kernel_rfl
theorem mk_name (P : Params) : findIn (KP P) (.ref 265) "name" = some (some (.ref 248)) ∧ isFn (KP P) (.ref 248) = true ∧ keepIn (KP P) (.ref 248) = true := ⟨by kernel_rfl, by kernel_rfl, by kernel_rfl⟩
theorem m_name (hK : W.K = KP W.w.params) (hC : W.C = 265) : findIn W.K (.ref W.C) "name" = some (some (.ref 248)) ∧ isFn W.K (.ref 248) = true ∧ keepIn W.K (.ref 248) = true := by rw [hK, hC]; exact mk_name _
theorem mv_name : MV "name" = .fn (.ref 248) := by kernel_rfl
theorem mk_leaf (P : Params) : findIn (KP P) (.ref 265) "leaf" = some (some (.ref 255)) ∧ isFn (KP P) (.ref 255) = true ∧ keepIn (KP P) (.ref 255) = true := ⟨by kernel_rfl, by kernel_rfl, by kernel_rfl⟩
theorem m_leaf (hK : W.K = KP W.w.params) (hC : W.C = 265) : findIn W.K (.ref W.C) "leaf" = some (some (.ref 255)) ∧ isFn W.K (.ref 255) = true ∧ keepIn W.K (.ref 255) = true := by rw [hK, hC]; exact mk_leaf _
theorem mv_leaf : MV "leaf" = .fn (.ref 255) := by kernel_rfl
theorem mk_term (P : Params) : findIn (KP P) (.ref 265) "term" = some (some (.ref 262)) ∧ isFn (KP P) (.ref 262) = true ∧ keepIn (KP P) (.ref 262) = true := ⟨by kernel_rfl, by kernel_rfl, by kernel_rfl⟩
theorem m_term (hK : W.K = KP W.w.params) (hC : W.C = 265) : findIn W.K (.ref W.C) "term" = some (some (.ref 262)) ∧ isFn W.K (.ref 262) = true ∧ keepIn W.K (.ref 262) = true := by rw [hK, hC]; exact mk_term _
theorem mv_term : MV "term" = .fn (.ref 262) := by kernel_rfl
theorem ak_text (P : Params) : findIn (KP P) (.ref 265) "text" = some none ∧ noGet (KP P) none = true := ⟨by kernel_rfl, by kernel_rfl⟩
theorem at_text (hK : W.K = KP W.w.params) (hC : W.C = 265) : findIn W.K (.ref W.C) "text" = some none ∧ noGet W.K none = true := by rw [hK, hC]; exact ak_text _
theorem tt_text (P : Params) : takerIn (KP P) 265 "text" = some none := by kernel_rfl
theorem tk_text (hK : W.K = KP W.w.params) (hC : W.C = 265) : takerIn W.K W.C "text" = some none := by rw [hK, hC]; exact tt_text _
theorem ak_spot (P : Params) : findIn (KP P) (.ref 265) "spot" = some none ∧ noGet (KP P) none = true := ⟨by kernel_rfl, by kernel_rfl⟩
theorem at_spot (hK : W.K = KP W.w.params) (hC : W.C = 265) : findIn W.K (.ref W.C) "spot" = some none ∧ noGet W.K none = true := by rw [hK, hC]; exact ak_spot _
theorem tt_spot (P : Params) : takerIn (KP P) 265 "spot" = some none := by kernel_rfl
theorem tk_spot (hK : W.K = KP W.w.params) (hC : W.C = 265) : takerIn W.K W.C "spot" = some none := by rw [hK, hC]; exact tt_spot _
theorem ak_around (P : Params) : findIn (KP P) (.ref 265) "around" = some none ∧ noGet (KP P) none = true := ⟨by kernel_rfl, by kernel_rfl⟩
theorem at_around (hK : W.K = KP W.w.params) (hC : W.C = 265) : findIn W.K (.ref W.C) "around" = some none ∧ noGet W.K none = true := by rw [hK, hC]; exact ak_around _
theorem tt_around (P : Params) : takerIn (KP P) 265 "around" = some none := by kernel_rfl
theorem tk_around (hK : W.K = KP W.w.params) (hC : W.C = 265) : takerIn W.K W.C "around" = some none := by rw [hK, hC]; exact tt_around _

noncomputable def clOf (scope : Scope) (e : Env) : List (Str × Addr) := scope.names.reverse.filterMap fun p => match p.2 with
  | .free => (e.cells.lookup p.1).map fun c => (p.1, c)
  | _ => none
theorem clOf_mem {scope : Scope} {e : Env} {p : Str × Addr} (h : p ∈ clOf scope e) : e.cells.lookup p.1 = some p.2 := by
  obtain ⟨q, _, hq⟩ := List.mem_filterMap.mp h
  split at hq
  · obtain ⟨c, hc, rfl⟩ := Option.map_eq_some_iff.mp hq
    exact hc
  · cases hq

theorem compOk_of {tbl : List Str} {x : Str} {i : Nat} {vis : List Nat} {scope : Scope} (clos : closureFor scope e = pure (clOf scope e)) (cell : (scope.names.all fun y => match y.2 with | .cell => false | _ => true) = true) (kind : scope.kind = .function)
    (names : (scope.names.all fun y => match y.2 with | .local => (match scope.names.lookup y.1 with | some .local => true | _ => false) | _ => true) = true) (hx : scope.names.lookup x = some .local) (hn : decide tbl.Nodup = true) (tx : tbl[i]? = some x) (vi : vis.contains i = false)
    (cln : decide ((clOf scope e).map (·.1)).Nodup = true) (see : (vis.all fun j => match tbl[j]? with
      | some y => (match e.kindOf y with | some .cell => true | _ => false) && (match (relabel scope e).names.lookup y with | some .cell => true | some .free => true | _ => false) && ((clOf scope e).lookup y).isSome
      | none => true) = true) : CompOk e tbl x i vis scope (clOf scope e) := by
  refine ⟨clos, fun y hy q => ?_, kind, fun y hy q => ?_, hx, tx, ux_of hn tx, vi, fun p hp => clOf_mem hp, of_decide_eq_true cln, fun j hj y hy => ?_⟩
  · have := List.all_eq_true.mp cell y hy
    rw [q] at this; cases this
  · have := List.all_eq_true.mp names y hy
    rw [q] at this
    dsimp only at this
    split at this
    · assumption
    · cases this
  · have := List.all_eq_true.mp see j hj
    rw [hy] at this
    simp only [Bool.and_eq_true] at this
    obtain ⟨⟨h1, h2⟩, h3⟩ := this
    refine ⟨?_, ?_, h3⟩
    · split at h1
      · assumption
      · cases h1
    · split at h2
      · exact .inl ‹_›
      · exact .inr ‹_›
      · cases h2
end
end Mine
end
section
set_option tactic.hygienic false
open PySem PySem.W PyProof.Rows PySem.Spec PySem.Calls PySem.Builtin.Str
set_option Elab.async false
set_option maxRecDepth 100000
set_option autoImplicit false
set_option maxHeartbeats 4000000
namespace Mine
section
variable {W : Wd} {cls : Xc → Addr} {n n₀ : Nat}
noncomputable def b_128 : MS := (.seq (.ret (.ite (.cmp .Eq (.len (.loc 0)) (.int 1)) (.call2 (.glob 3) (.idx (.loc 0) (.int 0)) (.str "var")) (.neg (.int 1)))) .nil)
noncomputable abbrev t_128 : List Str := ["t"]
theorem s_128 (hK : W.K = KP W.w.params) (hC : W.C = 265) (hn : n₀ ≤ n) (L : Addr) : SndS W cls n (eF W.w.params 128 L) t_128 GV MV (Orc W cls n₀) (execs (bodyAt (KP W.w.params) 128) (eF W.w.params 128 L)) b_128 := by
  have b_len : Boot W (eF W.w.params 128 L) "len" (.builtin "len") := boot_len hK (by kernel_rfl)
  refine (sndS_seq (sndS_ret fun loc => (snd_ite (sndT_cmp (snd_len b_len (snd_loc (i := 0) ?_ ?_ ?_) ?_) snd_int ?_) (snd_call2 hn (snd_glob (k := 3) ?_ (g_number_behind hK) (v_number_behind hK) ?_) (gv_number_behind) (k_number_behind hK) (snd_idx (snd_loc (i := 0) ?_ ?_ ?_) snd_int ?_) ?_ snd_str ?_) (snd_neg snd_int))) sndS_nil)
  all_goals kernel_rfl


noncomputable def b_135 : MS := (.seq (.ret (.tup1 (.fmt "var" (.loc 0) Str.empty))) .nil)
noncomputable abbrev t_135 : List Str := ["index"]
theorem s_135 (hK : W.K = KP W.w.params) (hC : W.C = 265) (hn : n₀ ≤ n) (L : Addr) : SndS W cls n (eF W.w.params 135 L) t_135 GV MV (Orc W cls n₀) (execs (bodyAt (KP W.w.params) 135) (eF W.w.params 135 L)) b_135 := by
  refine (sndS_seq (sndS_ret fun loc => (snd_tup1 (snd_fmt2 (snd_loc (i := 0) ?_ ?_ ?_) (by decide)) ?_)) sndS_nil)
  all_goals kernel_rfl


noncomputable def b_166 : MS := (.seq (.ret (.and (.cmp .Eq (.idx (.loc 0) (.int 0)) (.str "app")) (.and (.cmp .Eq (.len (.loc 0)) (.int 3)) (.cmp .Eq (.call1 (.glob 6) (.idx (.loc 0) (.int 1))) (.int 1))))) .nil)
noncomputable abbrev t_166 : List Str := ["t"]
theorem s_166 (hK : W.K = KP W.w.params) (hC : W.C = 265) (hn : n₀ ≤ n) (L : Addr) : SndS W cls n (eF W.w.params 166 L) t_166 GV MV (Orc W cls n₀) (execs (bodyAt (KP W.w.params) 166) (eF W.w.params 166 L)) b_166 := by
  have b_len : Boot W (eF W.w.params 166 L) "len" (.builtin "len") := boot_len hK (by kernel_rfl)
  refine (sndS_seq (sndS_ret fun loc => (snd_and (snd_cmp (snd_idx (snd_loc (i := 0) ?_ ?_ ?_) snd_int ?_) snd_str ?_) (snd_and (snd_cmp (snd_len b_len (snd_loc (i := 0) ?_ ?_ ?_) ?_) snd_int ?_) (snd_bool1 (snd_cmp (snd_call1 hn (snd_glob (k := 6) ?_ (g_below hK) (v_below hK) ?_) (gv_below) (k_below hK) (snd_idx (snd_loc (i := 0) ?_ ?_ ?_) snd_int ?_) ?_) snd_int ?_))))) sndS_nil)
  all_goals kernel_rfl


noncomputable def b_199 : MS := (.seq (.ret (.cmp .Eq (.call2 (.glob 14) (.loc 0) (.loc 2)) (.call2 (.glob 14) (.loc 1) (.loc 2)))) .nil)
noncomputable abbrev t_199 : List Str := ["t", "u", "most"]
theorem s_199 (hK : W.K = KP W.w.params) (hC : W.C = 265) (hn : n₀ ≤ n) (L : Addr) : SndS W cls n (eF W.w.params 199 L) t_199 GV MV (Orc W cls n₀) (execs (bodyAt (KP W.w.params) 199) (eF W.w.params 199 L)) b_199 := by
  refine (sndS_seq (sndS_ret fun loc => (snd_cmp (snd_call2 hn (snd_glob (k := 14) ?_ (g_normal hK) (v_normal hK) ?_) (gv_normal) (k_normal hK) (snd_loc (i := 0) ?_ ?_ ?_) ?_ (snd_loc (i := 2) ?_ ?_ ?_) ?_) (snd_call2 hn (snd_glob (k := 14) ?_ (g_normal hK) (v_normal hK) ?_) (gv_normal) (k_normal hK) (snd_loc (i := 1) ?_ ?_ ?_) ?_ (snd_loc (i := 2) ?_ ?_ ?_) ?_) ?_)) sndS_nil)
  all_goals kernel_rfl


noncomputable def b_142 : MS := (.seq (.ret (.ite (.and (.cmp .Eq (.idx (.loc 0) (.int 0)) (.str "lam")) (.cmp .Eq (.len (.loc 0)) (.int 2))) (.int 1) (.int 0))) .nil)
noncomputable abbrev t_142 : List Str := ["t"]
theorem s_142 (hK : W.K = KP W.w.params) (hC : W.C = 265) (hn : n₀ ≤ n) (L : Addr) : SndS W cls n (eF W.w.params 142 L) t_142 GV MV (Orc W cls n₀) (execs (bodyAt (KP W.w.params) 142) (eF W.w.params 142 L)) b_142 := by
  have b_len : Boot W (eF W.w.params 142 L) "len" (.builtin "len") := boot_len hK (by kernel_rfl)
  refine (sndS_seq (sndS_ret fun loc => (snd_ite (sndT_and (sndT_cmp (snd_idx (snd_loc (i := 0) ?_ ?_ ?_) snd_int ?_) snd_str ?_) (sndT_and1 (sndT_cmp (snd_len b_len (snd_loc (i := 0) ?_ ?_ ?_) ?_) snd_int ?_))) snd_int snd_int)) sndS_nil)
  all_goals kernel_rfl


noncomputable def b_121 : MS := (.seq (.asg 2 (.slc (.loc 0) (.len (.loc 1)) .none)) (.seq (.ite (.or (.cmp .NotEq (.slc (.loc 0) .none (.len (.loc 1))) (.loc 1)) (.or (.not (.call2 (.glob 2) (.loc 2) (.glob 30))) (.and (.cmp .Eq (.idx (.loc 2) (.int 0)) (.str "0")) (.cmp .NotEq (.loc 2) (.str "0"))))) (.seq (.ret (.neg (.int 1))) .nil) .nil) (.seq (.ret (.intOf (.loc 2))) .nil)))
noncomputable abbrev t_121 : List Str := ["text", "begin", "rest"]
theorem s_121 (hK : W.K = KP W.w.params) (hC : W.C = 265) (hn : n₀ ≤ n) (L : Addr) : SndS W cls n (eF W.w.params 121 L) t_121 GV MV (Orc W cls n₀) (execs (bodyAt (KP W.w.params) 121) (eF W.w.params 121 L)) b_121 := by
  have b_len : Boot W (eF W.w.params 121 L) "len" (.builtin "len") := boot_len hK (by kernel_rfl)
  have b_int : Boot W (eF W.w.params 121 L) "int" (.type "int") := boot_int hK (by kernel_rfl)
  refine (sndS_seq (sndS_asg' (put_loc (i := 2) ?_ ?_ ?_) (fun loc => (snd_slc (snd_loc (i := 0) ?_ ?_ ?_) (sndP_some (snd_len b_len (snd_loc (i := 1) ?_ ?_ ?_) ?_)) sndP_none)) ?_) (sndS_seq (sndS_ite (fun loc => (sndT_or (sndT_cmp (snd_slc (snd_loc (i := 0) ?_ ?_ ?_) sndP_none (sndP_some (snd_len b_len (snd_loc (i := 1) ?_ ?_ ?_) ?_))) (snd_loc (i := 1) ?_ ?_ ?_) ?_) (sndT_or (sndT_not (sndT_plain (snd_call2 hn (snd_glob (k := 2) ?_ (g_is_row_of hK) (v_is_row_of hK) ?_) (gv_is_row_of) (k_is_row_of hK) (snd_loc (i := 2) ?_ ?_ ?_) ?_ (snd_glob (k := 30) ?_ (g_FIGURES hK) (v_FIGURES hK) ?_) ?_) fun _ => rfl)) (sndT_or1 (sndT_and (sndT_cmp (snd_idx (snd_loc (i := 2) ?_ ?_ ?_) snd_int ?_) snd_str ?_) (sndT_and1 (sndT_cmp (snd_loc (i := 2) ?_ ?_ ?_) snd_str ?_))))))) (sndS_seq (sndS_ret fun loc => (snd_neg snd_int)) sndS_nil) sndS_nil) (sndS_seq (sndS_ret fun loc => (snd_intOf b_int (snd_loc (i := 2) ?_ ?_ ?_) ?_)) sndS_nil)))
  all_goals kernel_rfl


noncomputable def b_114 : MS := (.seq (.ret (.and (.cmp .NotEq (.loc 0) (.str "")) (.cmp .Eq (.comp 2 [1] (.loc 2) (.loc 0) (.cmp .NotIn (.loc 2) (.loc 1))) (.lst0)))) .nil)
noncomputable abbrev t_114 : List Str := ["text", "signs", "sign"]
theorem s_114 (hK : W.K = KP W.w.params) (hC : W.C = 265) (hn : n₀ ≤ n) (L : Addr) : SndS W cls n (eF W.w.params 114 L) t_114 GV MV (Orc W cls n₀) (execs (bodyAt (KP W.w.params) 114) (eF W.w.params 114 L)) b_114 := by
  refine (sndS_seq (sndS_ret fun loc => (snd_and (snd_cmp (snd_loc (i := 0) ?_ ?_ ?_) snd_str ?_) (snd_bool1 (snd_cmp (snd_comp (i := 2) (vis := [1]) (compOk_of ?_ ?_ ?_ ?_ ?_ ?_ ?_ ?_ ?_ ?_) (fun _ => rfl) (sndI_of (snd_loc (i := 0) ?_ ?_ ?_) (by intro b hb; cases hb)) (fun C loc => (sndF_one (sndT_cmp (snd_loc (i := 2) ?_ ?_ ?_) (snd_loc (i := 1) ?_ ?_ ?_) ?_))) (fun C loc => (snd_loc (i := 2) ?_ ?_ ?_))) (snd_lst0) ?_)))) sndS_nil)
  all_goals kernel_rfl


noncomputable def b_102 : MS := (.seq (.forr 2 (.loc 1) .bad) (.seq (.ret (.loc 0)) .nil))
noncomputable abbrev t_102 : List Str := ["t", "path", "k"]
theorem s_102 (hK : W.K = KP W.w.params) (hC : W.C = 265) (hn : n₀ ≤ n) (L : Addr) : SndS W cls n (eF W.w.params 102 L) t_102 GV MV (Orc W cls n₀) (execs (bodyAt (KP W.w.params) 102) (eF W.w.params 102 L)) b_102 := by
  refine (sndS_seq (sndS_for' (put_loc (i := 2) ?_ ?_ ?_) (fun _ => rfl) (fun loc => (sndI_of (snd_loc (i := 1) ?_ ?_ ?_) (by intro b hb; cases hb))) sndS_bad) (sndS_seq (sndS_ret fun loc => (snd_loc (i := 0) ?_ ?_ ?_)) sndS_nil))
  all_goals kernel_rfl


noncomputable def b_109 : MS := (.seq (.ite (.cmp .Eq (.loc 1) (.tup0)) (.seq (.ret (.loc 2)) .nil) .nil) (.seq (.asg 3 (.call2 (.glob 0) (.loc 0) (.slc (.loc 1) .none (.int 1)))) (.seq (.ret (.bin .Add (.bin .Add (.slc (.loc 0) .none (.bin .Add (.idx (.loc 1) (.int 0)) (.int 1))) (.tup1 (.call3 (.glob 1) (.loc 3) (.slc (.loc 1) (.int 1) .none) (.loc 2)))) (.slc (.loc 0) (.bin .Add (.idx (.loc 1) (.int 0)) (.int 2)) .none))) .nil)))
noncomputable abbrev t_109 : List Str := ["t", "path", "u", "kid"]
theorem s_109 (hK : W.K = KP W.w.params) (hC : W.C = 265) (hn : n₀ ≤ n) (L : Addr) : SndS W cls n (eF W.w.params 109 L) t_109 GV MV (Orc W cls n₀) (execs (bodyAt (KP W.w.params) 109) (eF W.w.params 109 L)) b_109 := by
  refine (sndS_seq (sndS_ite (fun loc => (sndT_cmp (snd_loc (i := 1) ?_ ?_ ?_) (snd_tup0) ?_)) (sndS_seq (sndS_ret fun loc => (snd_loc (i := 2) ?_ ?_ ?_)) sndS_nil) sndS_nil) (sndS_seq (sndS_asg' (put_loc (i := 3) ?_ ?_ ?_) (fun loc => (snd_call2 hn (snd_glob (k := 0) ?_ (g_part_at hK) (v_part_at hK) ?_) (gv_part_at) (k_part_at hK) (snd_loc (i := 0) ?_ ?_ ?_) ?_ (snd_slc (snd_loc (i := 1) ?_ ?_ ?_) sndP_none (sndP_some snd_int)) ?_)) ?_) (sndS_seq (sndS_ret fun loc => (snd_bin (snd_bin (snd_slc (snd_loc (i := 0) ?_ ?_ ?_) sndP_none (sndP_some (snd_bin (snd_idx (snd_loc (i := 1) ?_ ?_ ?_) snd_int ?_) snd_int))) (snd_tup1 (snd_call3 hn (snd_glob (k := 1) ?_ (g_replaced hK) (v_replaced hK) ?_) (gv_replaced) (k_replaced hK) (snd_loc (i := 3) ?_ ?_ ?_) ?_ (snd_slc (snd_loc (i := 1) ?_ ?_ ?_) (sndP_some snd_int) sndP_none) ?_ (snd_loc (i := 2) ?_ ?_ ?_) ?_) ?_)) (snd_slc (snd_loc (i := 0) ?_ ?_ ?_) (sndP_some (snd_bin (snd_idx (snd_loc (i := 1) ?_ ?_ ?_) snd_int ?_) snd_int)) sndP_none))) sndS_nil)))
  all_goals kernel_rfl


noncomputable def b_147 : MS := (.seq (.asg 4 (.call1 (.glob 4) (.loc 0))) (.seq (.ite (.cmp .GtE (.loc 4) (.bin .Add (.loc 2) (.loc 3))) (.seq (.ite (.cmp .Lt (.bin .Add (.loc 4) (.loc 1)) (.loc 3)) .bad .nil) (.seq (.ret (.call1 (.glob 5) (.bin .Add (.loc 4) (.loc 1)))) .nil)) .nil) (.seq (.ret (.bin .Add (.tup1 (.idx (.loc 0) (.int 0))) (.tupOf (.comp 5 [0, 1, 2, 3] (.call4 (.glob 7) (.loc 5) (.loc 1) (.loc 2) (.bin .Add (.loc 3) (.call1 (.glob 6) (.loc 0)))) (.slc (.loc 0) (.int 1) .none) (.bool true))))) .nil)))
noncomputable abbrev t_147 : List Str := ["t", "by", "begin", "around", "index", "part"]
theorem s_147 (hK : W.K = KP W.w.params) (hC : W.C = 265) (hn : n₀ ≤ n) (L : Addr) : SndS W cls n (eF W.w.params 147 L) t_147 GV MV (Orc W cls n₀) (execs (bodyAt (KP W.w.params) 147) (eF W.w.params 147 L)) b_147 := by
  have b_tuple : Boot W (eF W.w.params 147 L) "tuple" (.type "tuple") := boot_tuple hK (by kernel_rfl)
  refine (sndS_seq (sndS_asg' (put_loc (i := 4) ?_ ?_ ?_) (fun loc => (snd_call1 hn (snd_glob (k := 4) ?_ (g_index_of hK) (v_index_of hK) ?_) (gv_index_of) (k_index_of hK) (snd_loc (i := 0) ?_ ?_ ?_) ?_)) ?_) (sndS_seq (sndS_ite (fun loc => (sndT_cmp (snd_loc (i := 4) ?_ ?_ ?_) (snd_bin (snd_loc (i := 2) ?_ ?_ ?_) (snd_loc (i := 3) ?_ ?_ ?_)) ?_)) (sndS_seq (sndS_ite (fun loc => (sndT_cmp (snd_bin (snd_loc (i := 4) ?_ ?_ ?_) (snd_loc (i := 1) ?_ ?_ ?_)) (snd_loc (i := 3) ?_ ?_ ?_) ?_)) sndS_bad sndS_nil) (sndS_seq (sndS_ret fun loc => (snd_call1 hn (snd_glob (k := 5) ?_ (g_variable hK) (v_variable hK) ?_) (gv_variable) (k_variable hK) (snd_bin (snd_loc (i := 4) ?_ ?_ ?_) (snd_loc (i := 1) ?_ ?_ ?_)) ?_)) sndS_nil)) sndS_nil) (sndS_seq (sndS_ret fun loc => (snd_bin (snd_tup1 (snd_idx (snd_loc (i := 0) ?_ ?_ ?_) snd_int ?_) ?_) (snd_tupOf b_tuple (snd_comp (i := 5) (vis := [0, 1, 2, 3]) (compOk_of ?_ ?_ ?_ ?_ ?_ ?_ ?_ ?_ ?_ ?_) (fun _ => rfl) (sndI_of (snd_slc (snd_loc (i := 0) ?_ ?_ ?_) (sndP_some snd_int) sndP_none) (by intro b hb; cases hb)) (fun C loc => sndF_nil) (fun C loc => (snd_call4 hn (snd_glob (k := 7) ?_ (g_moved_within hK) (v_moved_within hK) ?_) (gv_moved_within) (k_moved_within hK) (snd_loc (i := 5) ?_ ?_ ?_) ?_ (snd_loc (i := 1) ?_ ?_ ?_) ?_ (snd_loc (i := 2) ?_ ?_ ?_) ?_ (snd_bin (snd_loc (i := 3) ?_ ?_ ?_) (snd_call1 hn (snd_glob (k := 6) ?_ (g_below hK) (v_below hK) ?_) (gv_below) (k_below hK) (snd_loc (i := 0) ?_ ?_ ?_) ?_)) ?_))) ?_))) sndS_nil)))
  all_goals kernel_rfl


noncomputable def b_154 : MS := (.seq (.ret (.call4 (.glob 7) (.loc 0) (.loc 1) (.loc 2) (.int 0))) .nil)
noncomputable abbrev t_154 : List Str := ["t", "by", "begin"]
theorem s_154 (hK : W.K = KP W.w.params) (hC : W.C = 265) (hn : n₀ ≤ n) (L : Addr) : SndS W cls n (eF W.w.params 154 L) t_154 GV MV (Orc W cls n₀) (execs (bodyAt (KP W.w.params) 154) (eF W.w.params 154 L)) b_154 := by
  refine (sndS_seq (sndS_ret fun loc => (snd_call4 hn (snd_glob (k := 7) ?_ (g_moved_within hK) (v_moved_within hK) ?_) (gv_moved_within) (k_moved_within hK) (snd_loc (i := 0) ?_ ?_ ?_) ?_ (snd_loc (i := 1) ?_ ?_ ?_) ?_ (snd_loc (i := 2) ?_ ?_ ?_) ?_ snd_int ?_)) sndS_nil)
  all_goals kernel_rfl


noncomputable def b_159 : MS := (.seq (.asg 3 (.call1 (.glob 4) (.loc 0))) (.seq (.ite (.cmp .GtE (.loc 3) (.int 0)) (.seq (.ite (.cmp .Eq (.loc 3) (.loc 1)) (.seq (.ret (.loc 2)) .nil) .nil) (.seq (.ret (.ite (.cmp .Gt (.loc 3) (.loc 1)) (.call1 (.glob 5) (.bin .Sub (.loc 3) (.int 1))) (.loc 0))) .nil)) .nil) (.seq (.asg 4 (.call1 (.glob 6) (.loc 0))) (.seq (.asg 5 (.ite (.cmp .Gt (.loc 4) (.int 0)) (.call3 (.glob 8) (.loc 2) (.loc 4) (.int 0)) (.loc 2))) (.seq (.ret (.bin .Add (.tup1 (.idx (.loc 0) (.int 0))) (.tupOf (.comp 6 [1, 4, 5] (.call3 (.glob 9) (.loc 6) (.bin .Add (.loc 1) (.loc 4)) (.loc 5)) (.slc (.loc 0) (.int 1) .none) (.bool true))))) .nil)))))
noncomputable abbrev t_159 : List Str := ["t", "k", "u", "index", "more", "late", "part"]
theorem s_159 (hK : W.K = KP W.w.params) (hC : W.C = 265) (hn : n₀ ≤ n) (L : Addr) : SndS W cls n (eF W.w.params 159 L) t_159 GV MV (Orc W cls n₀) (execs (bodyAt (KP W.w.params) 159) (eF W.w.params 159 L)) b_159 := by
  have b_tuple : Boot W (eF W.w.params 159 L) "tuple" (.type "tuple") := boot_tuple hK (by kernel_rfl)
  refine (sndS_seq (sndS_asg' (put_loc (i := 3) ?_ ?_ ?_) (fun loc => (snd_call1 hn (snd_glob (k := 4) ?_ (g_index_of hK) (v_index_of hK) ?_) (gv_index_of) (k_index_of hK) (snd_loc (i := 0) ?_ ?_ ?_) ?_)) ?_) (sndS_seq (sndS_ite (fun loc => (sndT_cmp (snd_loc (i := 3) ?_ ?_ ?_) snd_int ?_)) (sndS_seq (sndS_ite (fun loc => (sndT_cmp (snd_loc (i := 3) ?_ ?_ ?_) (snd_loc (i := 1) ?_ ?_ ?_) ?_)) (sndS_seq (sndS_ret fun loc => (snd_loc (i := 2) ?_ ?_ ?_)) sndS_nil) sndS_nil) (sndS_seq (sndS_ret fun loc => (snd_ite (sndT_cmp (snd_loc (i := 3) ?_ ?_ ?_) (snd_loc (i := 1) ?_ ?_ ?_) ?_) (snd_call1 hn (snd_glob (k := 5) ?_ (g_variable hK) (v_variable hK) ?_) (gv_variable) (k_variable hK) (snd_bin (snd_loc (i := 3) ?_ ?_ ?_) snd_int) ?_) (snd_loc (i := 0) ?_ ?_ ?_))) sndS_nil)) sndS_nil) (sndS_seq (sndS_asg' (put_cell (i := 4) ?_ ?_ ?_ ?_) (fun loc => (snd_call1 hn (snd_glob (k := 6) ?_ (g_below hK) (v_below hK) ?_) (gv_below) (k_below hK) (snd_loc (i := 0) ?_ ?_ ?_) ?_)) ?_) (sndS_seq (sndS_asg' (put_cell (i := 5) ?_ ?_ ?_ ?_) (fun loc => (snd_ite (sndT_cmp (snd_loc (i := 4) ?_ ?_ ?_) snd_int ?_) (snd_call3 hn (snd_glob (k := 8) ?_ (g_shifted hK) (v_shifted hK) ?_) (gv_shifted) (k_shifted hK) (snd_loc (i := 2) ?_ ?_ ?_) ?_ (snd_loc (i := 4) ?_ ?_ ?_) ?_ snd_int ?_) (snd_loc (i := 2) ?_ ?_ ?_))) ?_) (sndS_seq (sndS_ret fun loc => (snd_bin (snd_tup1 (snd_idx (snd_loc (i := 0) ?_ ?_ ?_) snd_int ?_) ?_) (snd_tupOf b_tuple (snd_comp (i := 6) (vis := [1, 4, 5]) (compOk_of ?_ ?_ ?_ ?_ ?_ ?_ ?_ ?_ ?_ ?_) (fun _ => rfl) (sndI_of (snd_slc (snd_loc (i := 0) ?_ ?_ ?_) (sndP_some snd_int) sndP_none) (by intro b hb; cases hb)) (fun C loc => sndF_nil) (fun C loc => (snd_call3 hn (snd_glob (k := 9) ?_ (g_put_in hK) (v_put_in hK) ?_) (gv_put_in) (k_put_in hK) (snd_loc (i := 6) ?_ ?_ ?_) ?_ (snd_bin (snd_loc (i := 1) ?_ ?_ ?_) (snd_loc (i := 4) ?_ ?_ ?_)) ?_ (snd_loc (i := 5) ?_ ?_ ?_) ?_))) ?_))) sndS_nil)))))
  all_goals kernel_rfl


noncomputable def b_173 : MS := (.seq (.asg 2 (.call2 (.glob 0) (.loc 0) (.loc 1))) (.seq (.ite (.not (.call1 (.glob 10) (.loc 2))) .bad .nil) (.seq (.ret (.call3 (.glob 1) (.loc 0) (.loc 1) (.call3 (.glob 9) (.idx (.idx (.loc 2) (.int 1)) (.int 1)) (.int 0) (.idx (.loc 2) (.int 2))))) .nil)))
noncomputable abbrev t_173 : List Str := ["t", "path", "part"]
theorem s_173 (hK : W.K = KP W.w.params) (hC : W.C = 265) (hn : n₀ ≤ n) (L : Addr) : SndS W cls n (eF W.w.params 173 L) t_173 GV MV (Orc W cls n₀) (execs (bodyAt (KP W.w.params) 173) (eF W.w.params 173 L)) b_173 := by
  refine (sndS_seq (sndS_asg' (put_loc (i := 2) ?_ ?_ ?_) (fun loc => (snd_call2 hn (snd_glob (k := 0) ?_ (g_part_at hK) (v_part_at hK) ?_) (gv_part_at) (k_part_at hK) (snd_loc (i := 0) ?_ ?_ ?_) ?_ (snd_loc (i := 1) ?_ ?_ ?_) ?_)) ?_) (sndS_seq (sndS_ite (fun loc => (sndT_not (sndT_plain (snd_call1 hn (snd_glob (k := 10) ?_ (g_is_redex hK) (v_is_redex hK) ?_) (gv_is_redex) (k_is_redex hK) (snd_loc (i := 2) ?_ ?_ ?_) ?_) fun _ => rfl))) sndS_bad sndS_nil) (sndS_seq (sndS_ret fun loc => (snd_call3 hn (snd_glob (k := 1) ?_ (g_replaced hK) (v_replaced hK) ?_) (gv_replaced) (k_replaced hK) (snd_loc (i := 0) ?_ ?_ ?_) ?_ (snd_loc (i := 1) ?_ ?_ ?_) ?_ (snd_call3 hn (snd_glob (k := 9) ?_ (g_put_in hK) (v_put_in hK) ?_) (gv_put_in) (k_put_in hK) (snd_idx (snd_idx (snd_loc (i := 2) ?_ ?_ ?_) snd_int ?_) snd_int ?_) ?_ snd_int ?_ (snd_idx (snd_loc (i := 2) ?_ ?_ ?_) snd_int ?_) ?_) ?_)) sndS_nil)))
  all_goals kernel_rfl


noncomputable def b_180 : MS := (.seq (.ite (.call1 (.glob 10) (.loc 0)) (.seq (.ret (.tup0)) .nil) .nil) (.seq (.forr 1 (.range (.bin .Sub (.len (.loc 0)) (.int 1))) (.seq (.asg 2 (.call1 (.glob 12) (.idx (.loc 0) (.bin .Add (.loc 1) (.int 1))))) (.seq (.ite (.cmp .IsNot (.loc 2) .none) (.seq (.ret (.bin .Add (.tup1 (.loc 1)) (.loc 2))) .nil) .nil) .nil))) (.seq (.ret .none) .nil)))
noncomputable abbrev t_180 : List Str := ["t", "place", "path"]
theorem s_180 (hK : W.K = KP W.w.params) (hC : W.C = 265) (hn : n₀ ≤ n) (L : Addr) : SndS W cls n (eF W.w.params 180 L) t_180 GV MV (Orc W cls n₀) (execs (bodyAt (KP W.w.params) 180) (eF W.w.params 180 L)) b_180 := by
  have b_len : Boot W (eF W.w.params 180 L) "len" (.builtin "len") := boot_len hK (by kernel_rfl)
  have b_range : Boot W (eF W.w.params 180 L) "range" (.type "range") := boot_range hK (by kernel_rfl)
  refine (sndS_seq (sndS_ite (fun loc => (sndT_plain (snd_call1 hn (snd_glob (k := 10) ?_ (g_is_redex hK) (v_is_redex hK) ?_) (gv_is_redex) (k_is_redex hK) (snd_loc (i := 0) ?_ ?_ ?_) ?_) fun _ => rfl)) (sndS_seq (sndS_ret fun loc => (snd_tup0)) sndS_nil) sndS_nil) (sndS_seq (sndS_for' (put_loc (i := 1) ?_ ?_ ?_) (fun _ => rfl) (fun loc => (sndI_range b_range (snd_bin (snd_len b_len (snd_loc (i := 0) ?_ ?_ ?_) ?_) snd_int) ?_)) (sndS_seq (sndS_asg' (put_loc (i := 2) ?_ ?_ ?_) (fun loc => (snd_call1 hn (snd_glob (k := 12) ?_ (g_first_redex hK) (v_first_redex hK) ?_) (gv_first_redex) (k_first_redex hK) (snd_idx (snd_loc (i := 0) ?_ ?_ ?_) (snd_bin (snd_loc (i := 1) ?_ ?_ ?_) snd_int) ?_) ?_)) ?_) (sndS_seq (sndS_ite (fun loc => (sndT_cmp (snd_loc (i := 2) ?_ ?_ ?_) snd_none ?_)) (sndS_seq (sndS_ret fun loc => (snd_bin (snd_tup1 (snd_loc (i := 1) ?_ ?_ ?_) ?_) (snd_loc (i := 2) ?_ ?_ ?_))) sndS_nil) sndS_nil) sndS_nil))) (sndS_seq (sndS_ret fun loc => snd_none) sndS_nil)))
  all_goals kernel_rfl


noncomputable def b_185 : MS := (.seq (.unp2 1 2 (.tup2 (.new1 (.tup2 (.loc 0) (.int 1))) (.int 0))) (.seq (.whl (.cmp .NotEq (.loc 1) (.lst0)) (.seq (.unp2 3 4 (.pop (.loc 1))) (.seq (.asg 2 (.bin .Add (.loc 2) (.int 1))) (.seq (.ite (.or (.cmp .Gt (.loc 2) (.glob 32)) (.cmp .Gt (.loc 4) (.glob 33))) (.seq (.ret (.bool true)) .nil) .nil) (.seq (.expr (.extend (.loc 1) (.comp 5 [4] (.tup2 (.loc 5) (.bin .Add (.loc 4) (.int 1))) (.slc (.loc 3) (.int 1) .none) (.bool true)))) .nil))))) (.seq (.ret (.bool false)) .nil)))
noncomputable abbrev t_185 : List Str := ["t", "waiting", "many", "part", "level", "kid"]
theorem s_185 (hK : W.K = KP W.w.params) (hC : W.C = 265) (hn : n₀ ≤ n) (L : Addr) : SndS W cls n (eF W.w.params 185 L) t_185 GV MV (Orc W cls n₀) (execs (bodyAt (KP W.w.params) 185) (eF W.w.params 185 L)) b_185 := by
  refine (sndS_seq (sndS_unp2w (put_loc (i := 1) ?_ ?_ ?_) (put_loc (i := 2) ?_ ?_ ?_) (by decide) (fun loc => (snd_tup2 (snd_new1 (snd_tup2 (snd_loc (i := 0) ?_ ?_ ?_) ?_ snd_int ?_) ?_) ?_ snd_int ?_)) ?_ ?_) (sndS_seq (sndS_whl (fun loc => (sndT_cmp (snd_loc (i := 1) ?_ ?_ ?_) (snd_lst0) ?_)) (sndS_seq (sndS_unp2 (put_loc (i := 3) ?_ ?_ ?_) (put_cell (i := 4) ?_ ?_ ?_ ?_) (fun loc => (snd_pop (snd_loc (i := 1) ?_ ?_ ?_) rfl ?_)) ?_ ?_) (sndS_seq (sndS_asg' (put_loc (i := 2) ?_ ?_ ?_) (fun loc => (snd_bin (snd_loc (i := 2) ?_ ?_ ?_) snd_int)) ?_) (sndS_seq (sndS_ite (fun loc => (sndT_or (sndT_cmp (snd_loc (i := 2) ?_ ?_ ?_) (snd_glob (k := 32) ?_ (g_MOST_SIZE hK) (v_MOST_SIZE hK) ?_) ?_) (sndT_or1 (sndT_cmp (snd_loc (i := 4) ?_ ?_ ?_) (snd_glob (k := 33) ?_ (g_MOST_LEVELS hK) (v_MOST_LEVELS hK) ?_) ?_)))) (sndS_seq (sndS_ret fun loc => snd_bool) sndS_nil) sndS_nil) (sndS_seq (sndS_expr (fun loc => (snd_extend (snd_loc (i := 1) ?_ ?_ ?_) (snd_comp (i := 5) (vis := [4]) (compOk_of ?_ ?_ ?_ ?_ ?_ ?_ ?_ ?_ ?_ ?_) (fun _ => rfl) (sndI_of (snd_slc (snd_loc (i := 3) ?_ ?_ ?_) (sndP_some snd_int) sndP_none) (by intro b hb; cases hb)) (fun C loc => sndF_nil) (fun C loc => (snd_tup2 (snd_loc (i := 5) ?_ ?_ ?_) ?_ (snd_bin (snd_loc (i := 4) ?_ ?_ ?_) snd_int) ?_))) ?_ rfl ?_)) ?_ ?_) sndS_nil))))) (sndS_seq (sndS_ret fun loc => snd_bool) sndS_nil)))
  all_goals kernel_rfl


noncomputable def b_206 : MS := (.seq (.asg 2 (.call1 (.glob 4) (.loc 0))) (.seq (.ite (.cmp .GtE (.loc 2) (.int 0)) (.seq (.ret (.ite (.cmp .Lt (.loc 2) (.loc 1)) (.fmt "x" (.bin .Sub (.bin .Sub (.loc 1) (.int 1)) (.loc 2)) Str.empty) (.fmt "y" (.bin .Sub (.loc 2) (.loc 1)) Str.empty))) .nil) .nil) (.seq (.ite (.cmp .Eq (.call1 (.glob 6) (.loc 0)) (.int 1)) (.seq (.ret (.bin .Add (.bin .Add (.str "\\") (.fmt "x" (.loc 1) ".")) (.call2 (.glob 16) (.idx (.loc 0) (.int 1)) (.bin .Add (.loc 1) (.int 1))))) .nil) .nil) (.seq (.ite (.and (.cmp .Eq (.idx (.loc 0) (.int 0)) (.str "app")) (.cmp .Eq (.len (.loc 0)) (.int 3))) (.seq (.ret (.bin .Add (.bin .Add (.bin .Add (.bin .Add (.str "(") (.call2 (.glob 16) (.idx (.loc 0) (.int 1)) (.loc 1))) (.str " ")) (.call2 (.glob 16) (.idx (.loc 0) (.int 2)) (.loc 1))) (.str ")"))) .nil) .nil) (.seq (.ite (.or (.cmp .NotEq (.len (.loc 0)) (.int 1)) (.not (.call2 (.glob 2) (.idx (.loc 0) (.int 0)) (.bin .Add (.glob 31) (.glob 30))))) .bad .nil) (.seq (.ite (.or (.cmp .GtE (.call2 (.glob 3) (.idx (.loc 0) (.int 0)) (.str "x")) (.int 0)) (.cmp .GtE (.call2 (.glob 3) (.idx (.loc 0) (.int 0)) (.str "y")) (.int 0))) .bad .nil) (.seq (.ret (.idx (.loc 0) (.int 0))) .nil)))))))
noncomputable abbrev t_206 : List Str := ["t", "depth", "index"]
theorem s_206 (hK : W.K = KP W.w.params) (hC : W.C = 265) (hn : n₀ ≤ n) (L : Addr) : SndS W cls n (eF W.w.params 206 L) t_206 GV MV (Orc W cls n₀) (execs (bodyAt (KP W.w.params) 206) (eF W.w.params 206 L)) b_206 := by
  have b_len : Boot W (eF W.w.params 206 L) "len" (.builtin "len") := boot_len hK (by kernel_rfl)
  refine (sndS_seq (sndS_asg' (put_loc (i := 2) ?_ ?_ ?_) (fun loc => (snd_call1 hn (snd_glob (k := 4) ?_ (g_index_of hK) (v_index_of hK) ?_) (gv_index_of) (k_index_of hK) (snd_loc (i := 0) ?_ ?_ ?_) ?_)) ?_) (sndS_seq (sndS_ite (fun loc => (sndT_cmp (snd_loc (i := 2) ?_ ?_ ?_) snd_int ?_)) (sndS_seq (sndS_ret fun loc => (snd_ite (sndT_cmp (snd_loc (i := 2) ?_ ?_ ?_) (snd_loc (i := 1) ?_ ?_ ?_) ?_) (snd_fmt2 (snd_bin (snd_bin (snd_loc (i := 1) ?_ ?_ ?_) snd_int) (snd_loc (i := 2) ?_ ?_ ?_)) (by decide)) (snd_fmt2 (snd_bin (snd_loc (i := 2) ?_ ?_ ?_) (snd_loc (i := 1) ?_ ?_ ?_)) (by decide)))) sndS_nil) sndS_nil) (sndS_seq (sndS_ite (fun loc => (sndT_cmp (snd_call1 hn (snd_glob (k := 6) ?_ (g_below hK) (v_below hK) ?_) (gv_below) (k_below hK) (snd_loc (i := 0) ?_ ?_ ?_) ?_) snd_int ?_)) (sndS_seq (sndS_ret fun loc => (snd_bin (snd_bin snd_str (snd_fmt3 (snd_loc (i := 1) ?_ ?_ ?_) (by decide))) (snd_call2 hn (snd_glob (k := 16) ?_ (g_named hK) (v_named hK) ?_) (gv_named) (k_named hK) (snd_idx (snd_loc (i := 0) ?_ ?_ ?_) snd_int ?_) ?_ (snd_bin (snd_loc (i := 1) ?_ ?_ ?_) snd_int) ?_))) sndS_nil) sndS_nil) (sndS_seq (sndS_ite (fun loc => (sndT_and (sndT_cmp (snd_idx (snd_loc (i := 0) ?_ ?_ ?_) snd_int ?_) snd_str ?_) (sndT_and1 (sndT_cmp (snd_len b_len (snd_loc (i := 0) ?_ ?_ ?_) ?_) snd_int ?_)))) (sndS_seq (sndS_ret fun loc => (snd_bin (snd_bin (snd_bin (snd_bin snd_str (snd_call2 hn (snd_glob (k := 16) ?_ (g_named hK) (v_named hK) ?_) (gv_named) (k_named hK) (snd_idx (snd_loc (i := 0) ?_ ?_ ?_) snd_int ?_) ?_ (snd_loc (i := 1) ?_ ?_ ?_) ?_)) snd_str) (snd_call2 hn (snd_glob (k := 16) ?_ (g_named hK) (v_named hK) ?_) (gv_named) (k_named hK) (snd_idx (snd_loc (i := 0) ?_ ?_ ?_) snd_int ?_) ?_ (snd_loc (i := 1) ?_ ?_ ?_) ?_)) snd_str)) sndS_nil) sndS_nil) (sndS_seq (sndS_ite (fun loc => (sndT_or (sndT_cmp (snd_len b_len (snd_loc (i := 0) ?_ ?_ ?_) ?_) snd_int ?_) (sndT_or1 (sndT_not (sndT_plain (snd_call2 hn (snd_glob (k := 2) ?_ (g_is_row_of hK) (v_is_row_of hK) ?_) (gv_is_row_of) (k_is_row_of hK) (snd_idx (snd_loc (i := 0) ?_ ?_ ?_) snd_int ?_) ?_ (snd_bin (snd_glob (k := 31) ?_ (g_LETTERS hK) (v_LETTERS hK) ?_) (snd_glob (k := 30) ?_ (g_FIGURES hK) (v_FIGURES hK) ?_)) ?_) fun _ => rfl))))) sndS_bad sndS_nil) (sndS_seq (sndS_ite (fun loc => (sndT_or (sndT_cmp (snd_call2 hn (snd_glob (k := 3) ?_ (g_number_behind hK) (v_number_behind hK) ?_) (gv_number_behind) (k_number_behind hK) (snd_idx (snd_loc (i := 0) ?_ ?_ ?_) snd_int ?_) ?_ snd_str ?_) snd_int ?_) (sndT_or1 (sndT_cmp (snd_call2 hn (snd_glob (k := 3) ?_ (g_number_behind hK) (v_number_behind hK) ?_) (gv_number_behind) (k_number_behind hK) (snd_idx (snd_loc (i := 0) ?_ ?_ ?_) snd_int ?_) ?_ snd_str ?_) snd_int ?_)))) sndS_bad sndS_nil) (sndS_seq (sndS_ret fun loc => (snd_idx (snd_loc (i := 0) ?_ ?_ ?_) snd_int ?_)) sndS_nil)))))))
  all_goals kernel_rfl


noncomputable def b_213 : MS := (.seq (.ret (.call2 (.glob 16) (.loc 0) (.int 0))) .nil)
noncomputable abbrev t_213 : List Str := ["t"]
theorem s_213 (hK : W.K = KP W.w.params) (hC : W.C = 265) (hn : n₀ ≤ n) (L : Addr) : SndS W cls n (eF W.w.params 213 L) t_213 GV MV (Orc W cls n₀) (execs (bodyAt (KP W.w.params) 213) (eF W.w.params 213 L)) b_213 := by
  refine (sndS_seq (sndS_ret fun loc => (snd_call2 hn (snd_glob (k := 16) ?_ (g_named hK) (v_named hK) ?_) (gv_named) (k_named hK) (snd_loc (i := 0) ?_ ?_ ?_) ?_ snd_int ?_)) sndS_nil)
  all_goals kernel_rfl


noncomputable def b_234 : MS := (.seq (.whl (.cmp .Eq (.slc (.attr (.loc 0) "text") (.attr (.loc 0) "spot") (.bin .Add (.attr (.loc 0) "spot") (.int 1))) (.str " ")) (.seq (.setAttr (.loc 0) "spot" (.bin .Add (.attr (.loc 0) "spot") (.int 1))) .nil)) (.seq (.ret (.slc (.attr (.loc 0) "text") (.attr (.loc 0) "spot") (.bin .Add (.attr (.loc 0) "spot") (.int 1)))) .nil))
noncomputable abbrev t_234 : List Str := ["self"]
theorem s_234 (hK : W.K = KP W.w.params) (hC : W.C = 265) (hn : n₀ ≤ n) (L : Addr) : SndS W cls n (eF W.w.params 234 L) t_234 GV MV (Orc W cls n₀) (execs (bodyAt (KP W.w.params) 234) (eF W.w.params 234 L)) b_234 := by
  refine (sndS_seq (sndS_whl (fun loc => (sndT_cmp (snd_slc (snd_attr (snd_loc (i := 0) ?_ ?_ ?_) (at_text hK hC).1 (at_text hK hC).2 rfl) (sndP_some (snd_attr (snd_loc (i := 0) ?_ ?_ ?_) (at_spot hK hC).1 (at_spot hK hC).2 rfl)) (sndP_some (snd_bin (snd_attr (snd_loc (i := 0) ?_ ?_ ?_) (at_spot hK hC).1 (at_spot hK hC).2 rfl) snd_int))) snd_str ?_)) (sndS_seq (sndS_setAttr (fun loc => (snd_loc (i := 0) ?_ ?_ ?_)) (fun loc => (snd_bin (snd_attr (snd_loc (i := 0) ?_ ?_ ?_) (at_spot hK hC).1 (at_spot hK hC).2 rfl) snd_int)) (tk_spot hK hC) ?_) sndS_nil)) (sndS_seq (sndS_ret fun loc => (snd_slc (snd_attr (snd_loc (i := 0) ?_ ?_ ?_) (at_text hK hC).1 (at_text hK hC).2 rfl) (sndP_some (snd_attr (snd_loc (i := 0) ?_ ?_ ?_) (at_spot hK hC).1 (at_spot hK hC).2 rfl)) (sndP_some (snd_bin (snd_attr (snd_loc (i := 0) ?_ ?_ ?_) (at_spot hK hC).1 (at_spot hK hC).2 rfl) snd_int)))) sndS_nil))
  all_goals kernel_rfl


noncomputable def b_241 : MS := (.seq (.ite (.cmp .NotEq (.meth0 (.loc 0) "sign") (.loc 1)) .bad .nil) (.seq (.setAttr (.loc 0) "spot" (.bin .Add (.attr (.loc 0) "spot") (.int 1))) .nil))
noncomputable abbrev t_241 : List Str := ["self", "sign"]
theorem s_241 (hK : W.K = KP W.w.params) (hC : W.C = 265) (hn : n₀ ≤ n) (L : Addr) : SndS W cls n (eF W.w.params 241 L) t_241 GV MV (Orc W cls n₀) (execs (bodyAt (KP W.w.params) 241) (eF W.w.params 241 L)) b_241 := by
  refine (sndS_seq (sndS_ite (fun loc => (sndT_cmp (snd_meth0 hn (snd_loc (i := 0) ?_ ?_ ?_) (m_sign hK hC).1 (m_sign hK hC).2.1 (m_sign hK hC).2.2 mv_sign rfl) (snd_loc (i := 1) ?_ ?_ ?_) ?_)) sndS_bad sndS_nil) (sndS_seq (sndS_setAttr (fun loc => (snd_loc (i := 0) ?_ ?_ ?_)) (fun loc => (snd_bin (snd_attr (snd_loc (i := 0) ?_ ?_ ?_) (at_spot hK hC).1 (at_spot hK hC).2 rfl) snd_int)) (tk_spot hK hC) ?_) sndS_nil))
  all_goals kernel_rfl


noncomputable def b_248 : MS := (.seq (.expr (.meth0 (.loc 0) "sign")) (.seq (.asg 1 (.attr (.loc 0) "spot")) (.seq (.whl (.and (.cmp .Lt (.attr (.loc 0) "spot") (.len (.attr (.loc 0) "text"))) (.cmp .In (.idx (.attr (.loc 0) "text") (.attr (.loc 0) "spot")) (.bin .Add (.glob 31) (.glob 30)))) (.seq (.setAttr (.loc 0) "spot" (.bin .Add (.attr (.loc 0) "spot") (.int 1))) .nil)) (.seq (.ite (.cmp .Eq (.attr (.loc 0) "spot") (.loc 1)) .bad .nil) (.seq (.ret (.slc (.attr (.loc 0) "text") (.loc 1) (.attr (.loc 0) "spot"))) .nil)))))
noncomputable abbrev t_248 : List Str := ["self", "begin"]
theorem s_248 (hK : W.K = KP W.w.params) (hC : W.C = 265) (hn : n₀ ≤ n) (L : Addr) : SndS W cls n (eF W.w.params 248 L) t_248 GV MV (Orc W cls n₀) (execs (bodyAt (KP W.w.params) 248) (eF W.w.params 248 L)) b_248 := by
  have b_len : Boot W (eF W.w.params 248 L) "len" (.builtin "len") := boot_len hK (by kernel_rfl)
  refine (sndS_seq (sndS_expr (fun loc => (snd_meth0 hn (snd_loc (i := 0) ?_ ?_ ?_) (m_sign hK hC).1 (m_sign hK hC).2.1 (m_sign hK hC).2.2 mv_sign rfl)) ?_ ?_) (sndS_seq (sndS_asg' (put_loc (i := 1) ?_ ?_ ?_) (fun loc => (snd_attr (snd_loc (i := 0) ?_ ?_ ?_) (at_spot hK hC).1 (at_spot hK hC).2 rfl)) ?_) (sndS_seq (sndS_whl (fun loc => (sndT_and (sndT_cmp (snd_attr (snd_loc (i := 0) ?_ ?_ ?_) (at_spot hK hC).1 (at_spot hK hC).2 rfl) (snd_len b_len (snd_attr (snd_loc (i := 0) ?_ ?_ ?_) (at_text hK hC).1 (at_text hK hC).2 rfl) ?_) ?_) (sndT_and1 (sndT_cmp (snd_idx (snd_attr (snd_loc (i := 0) ?_ ?_ ?_) (at_text hK hC).1 (at_text hK hC).2 rfl) (snd_attr (snd_loc (i := 0) ?_ ?_ ?_) (at_spot hK hC).1 (at_spot hK hC).2 rfl) ?_) (snd_bin (snd_glob (k := 31) ?_ (g_LETTERS hK) (v_LETTERS hK) ?_) (snd_glob (k := 30) ?_ (g_FIGURES hK) (v_FIGURES hK) ?_)) ?_)))) (sndS_seq (sndS_setAttr (fun loc => (snd_loc (i := 0) ?_ ?_ ?_)) (fun loc => (snd_bin (snd_attr (snd_loc (i := 0) ?_ ?_ ?_) (at_spot hK hC).1 (at_spot hK hC).2 rfl) snd_int)) (tk_spot hK hC) ?_) sndS_nil)) (sndS_seq (sndS_ite (fun loc => (sndT_cmp (snd_attr (snd_loc (i := 0) ?_ ?_ ?_) (at_spot hK hC).1 (at_spot hK hC).2 rfl) (snd_loc (i := 1) ?_ ?_ ?_) ?_)) sndS_bad sndS_nil) (sndS_seq (sndS_ret fun loc => (snd_slc (snd_attr (snd_loc (i := 0) ?_ ?_ ?_) (at_text hK hC).1 (at_text hK hC).2 rfl) (sndP_some (snd_loc (i := 1) ?_ ?_ ?_)) (sndP_some (snd_attr (snd_loc (i := 0) ?_ ?_ ?_) (at_spot hK hC).1 (at_spot hK hC).2 rfl)))) sndS_nil)))))
  all_goals kernel_rfl


noncomputable def b_262 : MS := (.seq (.ite (.cmp .Eq (.loc 1) (.int 0)) .bad .nil) (.seq (.asg 2 (.meth0 (.loc 0) "sign")) (.seq (.ite (.cmp .Eq (.loc 2) (.str "\\")) (.seq (.expr (.meth1 (.loc 0) "want" (.loc 2))) (.seq (.expr (.append (.attr (.loc 0) "around") (.meth0 (.loc 0) "name"))) (.seq (.expr (.meth1 (.loc 0) "want" (.str "."))) (.seq (.asg 3 (.tup2 (.str "lam") (.meth1 (.loc 0) "term" (.bin .Sub (.loc 1) (.int 1))))) (.seq (.expr (.pop (.attr (.loc 0) "around"))) (.seq (.ret (.loc 3)) .nil)))))) .nil) (.seq (.ite (.cmp .NotEq (.loc 2) (.str "(")) (.seq (.ret (.meth0 (.loc 0) "leaf")) .nil) .nil) (.seq (.expr (.meth1 (.loc 0) "want" (.str "("))) (.seq (.asg 4 (.meth1 (.loc 0) "term" (.bin .Sub (.loc 1) (.int 1)))) (.seq (.asg 3 (.tup3 (.str "app") (.loc 4) (.meth1 (.loc 0) "term" (.bin .Sub (.loc 1) (.int 1))))) (.seq (.expr (.meth1 (.loc 0) "want" (.str ")"))) (.seq (.ret (.loc 3)) .nil)))))))))
noncomputable abbrev t_262 : List Str := ["self", "depth", "sign", "found", "left"]
theorem s_262 (hK : W.K = KP W.w.params) (hC : W.C = 265) (hn : n₀ ≤ n) (L : Addr) : SndS W cls n (eF W.w.params 262 L) t_262 GV MV (Orc W cls n₀) (execs (bodyAt (KP W.w.params) 262) (eF W.w.params 262 L)) b_262 := by
  refine (sndS_seq (sndS_ite (fun loc => (sndT_cmp (snd_loc (i := 1) ?_ ?_ ?_) snd_int ?_)) sndS_bad sndS_nil) (sndS_seq (sndS_asg' (put_loc (i := 2) ?_ ?_ ?_) (fun loc => (snd_meth0 hn (snd_loc (i := 0) ?_ ?_ ?_) (m_sign hK hC).1 (m_sign hK hC).2.1 (m_sign hK hC).2.2 mv_sign rfl)) ?_) (sndS_seq (sndS_ite (fun loc => (sndT_cmp (snd_loc (i := 2) ?_ ?_ ?_) snd_str ?_)) (sndS_seq (sndS_expr (fun loc => (snd_meth1 hn (snd_loc (i := 0) ?_ ?_ ?_) (m_want hK hC).1 (m_want hK hC).2.1 (m_want hK hC).2.2 mv_want (snd_loc (i := 2) ?_ ?_ ?_) ?_ rfl)) ?_ ?_) (sndS_seq (sndS_expr (fun loc => (snd_append (snd_attr (snd_loc (i := 0) ?_ ?_ ?_) (at_around hK hC).1 (at_around hK hC).2 rfl) (snd_meth0 hn (snd_loc (i := 0) ?_ ?_ ?_) (m_name hK hC).1 (m_name hK hC).2.1 (m_name hK hC).2.2 mv_name rfl) ?_ rfl ?_)) ?_ ?_) (sndS_seq (sndS_expr (fun loc => (snd_meth1 hn (snd_loc (i := 0) ?_ ?_ ?_) (m_want hK hC).1 (m_want hK hC).2.1 (m_want hK hC).2.2 mv_want snd_str ?_ rfl)) ?_ ?_) (sndS_seq (sndS_asg' (put_loc (i := 3) ?_ ?_ ?_) (fun loc => (snd_tup2 snd_str ?_ (snd_meth1 hn (snd_loc (i := 0) ?_ ?_ ?_) (m_term hK hC).1 (m_term hK hC).2.1 (m_term hK hC).2.2 mv_term (snd_bin (snd_loc (i := 1) ?_ ?_ ?_) snd_int) ?_ rfl) ?_)) ?_) (sndS_seq (sndS_expr (fun loc => (snd_pop (snd_attr (snd_loc (i := 0) ?_ ?_ ?_) (at_around hK hC).1 (at_around hK hC).2 rfl) rfl ?_)) ?_ ?_) (sndS_seq (sndS_ret fun loc => (snd_loc (i := 3) ?_ ?_ ?_)) sndS_nil)))))) sndS_nil) (sndS_seq (sndS_ite (fun loc => (sndT_cmp (snd_loc (i := 2) ?_ ?_ ?_) snd_str ?_)) (sndS_seq (sndS_ret fun loc => (snd_meth0 hn (snd_loc (i := 0) ?_ ?_ ?_) (m_leaf hK hC).1 (m_leaf hK hC).2.1 (m_leaf hK hC).2.2 mv_leaf rfl)) sndS_nil) sndS_nil) (sndS_seq (sndS_expr (fun loc => (snd_meth1 hn (snd_loc (i := 0) ?_ ?_ ?_) (m_want hK hC).1 (m_want hK hC).2.1 (m_want hK hC).2.2 mv_want snd_str ?_ rfl)) ?_ ?_) (sndS_seq (sndS_asg' (put_loc (i := 4) ?_ ?_ ?_) (fun loc => (snd_meth1 hn (snd_loc (i := 0) ?_ ?_ ?_) (m_term hK hC).1 (m_term hK hC).2.1 (m_term hK hC).2.2 mv_term (snd_bin (snd_loc (i := 1) ?_ ?_ ?_) snd_int) ?_ rfl)) ?_) (sndS_seq (sndS_asg' (put_loc (i := 3) ?_ ?_ ?_) (fun loc => (snd_tup3 snd_str ?_ (snd_loc (i := 4) ?_ ?_ ?_) ?_ (snd_meth1 hn (snd_loc (i := 0) ?_ ?_ ?_) (m_term hK hC).1 (m_term hK hC).2.1 (m_term hK hC).2.2 mv_term (snd_bin (snd_loc (i := 1) ?_ ?_ ?_) snd_int) ?_ rfl) ?_)) ?_) (sndS_seq (sndS_expr (fun loc => (snd_meth1 hn (snd_loc (i := 0) ?_ ?_ ?_) (m_want hK hC).1 (m_want hK hC).2.1 (m_want hK hC).2.2 mv_want snd_str ?_ rfl)) ?_ ?_) (sndS_seq (sndS_ret fun loc => (snd_loc (i := 3) ?_ ?_ ?_)) sndS_nil)))))))))
  all_goals kernel_rfl


noncomputable def b_227 : MS := (.seq (.setAttr (.loc 0) "text" (.loc 1)) (.seq (.setAttr (.loc 0) "spot" (.int 0)) (.seq (.setAttr (.loc 0) "around" (.new0)) .nil)))
noncomputable abbrev t_227 : List Str := ["self", "text"]
theorem s_227 (hK : W.K = KP W.w.params) (hC : W.C = 265) (hn : n₀ ≤ n) (L : Addr) : SndS W cls n (eF W.w.params 227 L) t_227 GV MV (Orc W cls n₀) (execs (bodyAt (KP W.w.params) 227) (eF W.w.params 227 L)) b_227 := by
  refine (sndS_seq (sndS_setAttr (fun loc => (snd_loc (i := 0) ?_ ?_ ?_)) (fun loc => (snd_loc (i := 1) ?_ ?_ ?_)) (tk_text hK hC) ?_) (sndS_seq (sndS_setAttr (fun loc => (snd_loc (i := 0) ?_ ?_ ?_)) (fun loc => snd_int) (tk_spot hK hC) ?_) (sndS_seq (sndS_setAttr (fun loc => (snd_loc (i := 0) ?_ ?_ ?_)) (fun loc => (snd_new0)) (tk_around hK hC) ?_) sndS_nil)))
  all_goals kernel_rfl


noncomputable def b_276 : MS := (.seq (.asg 1 (.call1 (.glob 18) (.loc 0))) (.seq (.asg 2 (.meth1 (.loc 1) "term" (.glob 34))) (.seq (.ite (.cmp .NotEq (.meth0 (.loc 1) "sign") (.str "")) .bad .nil) (.seq (.ret (.loc 2)) .nil))))
noncomputable abbrev t_276 : List Str := ["text", "reader", "found"]
theorem s_276 (hK : W.K = KP W.w.params) (hC : W.C = 265) (hn : n₀ ≤ n) (L : Addr) : SndS W cls n (eF W.w.params 276 L) t_276 GV MV (Orc W cls n₀) (execs (bodyAt (KP W.w.params) 276) (eF W.w.params 276 L)) b_276 := by
  refine (sndS_seq (sndS_asg' (put_loc (i := 1) ?_ ?_ ?_) (fun loc => (snd_call1 hn (snd_glob (k := 18) ?_ (g_NameReader hK) (v_NameReader hK) ?_) (gv_NameReader) (k_NameReader hK) (snd_loc (i := 0) ?_ ?_ ?_) ?_)) ?_) (sndS_seq (sndS_asg' (put_loc (i := 2) ?_ ?_ ?_) (fun loc => (snd_meth1 hn (snd_loc (i := 1) ?_ ?_ ?_) (m_term hK hC).1 (m_term hK hC).2.1 (m_term hK hC).2.2 mv_term (snd_glob (k := 34) ?_ (g_MOST_DEPTH hK) (v_MOST_DEPTH hK) ?_) ?_ rfl)) ?_) (sndS_seq (sndS_ite (fun loc => (sndT_cmp (snd_meth0 hn (snd_loc (i := 1) ?_ ?_ ?_) (m_sign hK hC).1 (m_sign hK hC).2.1 (m_sign hK hC).2.2 mv_sign rfl) snd_str ?_)) sndS_bad sndS_nil) (sndS_seq (sndS_ret fun loc => (snd_loc (i := 2) ?_ ?_ ?_)) sndS_nil))))
  all_goals kernel_rfl


noncomputable def b_285 : MS := (.seq (.asg 2 (.idx (.loc 0) (.str "at"))) (.seq (.setIdx (.loc 0) "at" (.bin .Add (.loc 2) (.int 1))) (.seq (.ite (.cmp .Lt (.loc 2) (.len (.idx (.loc 0) (.str "cells")))) (.seq (.ret (.bin .Mod (.idx (.idx (.loc 0) (.str "cells")) (.loc 2)) (.loc 1))) .nil) .nil) (.seq (.ret (.bin .Mod (.bin .FloorDiv (.bin .Add (.bin .Add (.bin .Mult (.loc 2) (.loc 2)) (.bin .Mult (.int 11) (.loc 2))) (.int 1)) (.int 2)) (.loc 1))) .nil))))
noncomputable abbrev t_285 : List Str := ["hand", "wide", "at"]
theorem s_285 (hK : W.K = KP W.w.params) (hC : W.C = 265) (hn : n₀ ≤ n) (L : Addr) : SndS W cls n (eF W.w.params 285 L) t_285 GV MV (Orc W cls n₀) (execs (bodyAt (KP W.w.params) 285) (eF W.w.params 285 L)) b_285 := by
  have b_len : Boot W (eF W.w.params 285 L) "len" (.builtin "len") := boot_len hK (by kernel_rfl)
  refine (sndS_seq (sndS_asg' (put_loc (i := 2) ?_ ?_ ?_) (fun loc => (snd_idx (snd_loc (i := 0) ?_ ?_ ?_) snd_str ?_)) ?_) (sndS_seq (sndS_setIdx (fun loc => (snd_loc (i := 0) ?_ ?_ ?_)) (fun loc => (snd_bin (snd_loc (i := 2) ?_ ?_ ?_) snd_int)) ?_) (sndS_seq (sndS_ite (fun loc => (sndT_cmp (snd_loc (i := 2) ?_ ?_ ?_) (snd_len b_len (snd_idx (snd_loc (i := 0) ?_ ?_ ?_) snd_str ?_) ?_) ?_)) (sndS_seq (sndS_ret fun loc => (snd_bin (snd_idx (snd_idx (snd_loc (i := 0) ?_ ?_ ?_) snd_str ?_) (snd_loc (i := 2) ?_ ?_ ?_) ?_) (snd_loc (i := 1) ?_ ?_ ?_))) sndS_nil) sndS_nil) (sndS_seq (sndS_ret fun loc => (snd_bin (snd_bin (snd_bin (snd_bin (snd_bin (snd_loc (i := 2) ?_ ?_ ?_) (snd_loc (i := 2) ?_ ?_ ?_)) (snd_bin snd_int (snd_loc (i := 2) ?_ ?_ ?_))) snd_int) snd_int) (snd_loc (i := 1) ?_ ?_ ?_))) sndS_nil))))
  all_goals kernel_rfl


noncomputable def b_292 : MS := (.seq (.asg 4 (.ite (.cmp .Gt (.loc 2) (.int 1)) (.call2 (.glob 20) (.loc 0) (.int 6)) (.int 5))) (.seq (.ite (.and (.cmp .Lt (.loc 4) (.int 2)) (.not (.loc 3))) (.seq (.asg 5 (.idx (.glob 35) (.call2 (.glob 20) (.loc 0) (.int 4)))) (.seq (.ret (.tup3 (.str "lam") (.loc 5) (.call4 (.glob 21) (.loc 0) (.bin .Add (.loc 1) (.lst1 (.loc 5))) (.bin .Sub (.loc 2) (.int 1)) (.bool false)))) .nil)) .nil) (.seq (.ite (.cmp2 .Lt .Lt (.int 1) (.loc 4) (.int 5)) (.seq (.asg 6 (.call4 (.glob 21) (.loc 0) (.loc 1) (.bin .Sub (.loc 2) (.int 1)) (.bool true))) (.seq (.ret (.tup3 (.str "app") (.loc 6) (.call4 (.glob 21) (.loc 0) (.loc 1) (.bin .Sub (.loc 2) (.int 1)) (.bool false)))) .nil)) .nil) (.seq (.ite (.and (.cmp .NotEq (.loc 1) (.lst0)) (.cmp .Gt (.call2 (.glob 20) (.loc 0) (.int 3)) (.int 0))) (.seq (.ret (.tup2 (.str "name") (.idx (.loc 1) (.call2 (.glob 20) (.loc 0) (.len (.loc 1)))))) .nil) .nil) (.seq (.ret (.tup2 (.str "name") (.idx (.glob 36) (.call2 (.glob 20) (.loc 0) (.int 4))))) .nil)))))
noncomputable abbrev t_292 : List Str := ["hand", "around", "floors", "is_head", "way", "call", "one"]
theorem s_292 (hK : W.K = KP W.w.params) (hC : W.C = 265) (hn : n₀ ≤ n) (L : Addr) : SndS W cls n (eF W.w.params 292 L) t_292 GV MV (Orc W cls n₀) (execs (bodyAt (KP W.w.params) 292) (eF W.w.params 292 L)) b_292 := by
  have b_len : Boot W (eF W.w.params 292 L) "len" (.builtin "len") := boot_len hK (by kernel_rfl)
  refine (sndS_seq (sndS_asg' (put_loc (i := 4) ?_ ?_ ?_) (fun loc => (snd_ite (sndT_cmp (snd_loc (i := 2) ?_ ?_ ?_) snd_int ?_) (snd_call2 hn (snd_glob (k := 20) ?_ (g_law_digit hK) (v_law_digit hK) ?_) (gv_law_digit) (k_law_digit hK) (snd_loc (i := 0) ?_ ?_ ?_) ?_ snd_int ?_) snd_int)) ?_) (sndS_seq (sndS_ite (fun loc => (sndT_and (sndT_cmp (snd_loc (i := 4) ?_ ?_ ?_) snd_int ?_) (sndT_and1 (sndT_not (sndT_plain (snd_loc (i := 3) ?_ ?_ ?_) fun _ => rfl))))) (sndS_seq (sndS_asg' (put_loc (i := 5) ?_ ?_ ?_) (fun loc => (snd_idx (snd_glob (k := 35) ?_ (g_law_binders hK) (v_law_binders hK) ?_) (snd_call2 hn (snd_glob (k := 20) ?_ (g_law_digit hK) (v_law_digit hK) ?_) (gv_law_digit) (k_law_digit hK) (snd_loc (i := 0) ?_ ?_ ?_) ?_ snd_int ?_) ?_)) ?_) (sndS_seq (sndS_ret fun loc => (snd_tup3 snd_str ?_ (snd_loc (i := 5) ?_ ?_ ?_) ?_ (snd_call4 hn (snd_glob (k := 21) ?_ (g_law_tree hK) (v_law_tree hK) ?_) (gv_law_tree) (k_law_tree hK) (snd_loc (i := 0) ?_ ?_ ?_) ?_ (snd_bin (snd_loc (i := 1) ?_ ?_ ?_) (snd_lst1 (snd_loc (i := 5) ?_ ?_ ?_) ?_)) ?_ (snd_bin (snd_loc (i := 2) ?_ ?_ ?_) snd_int) ?_ snd_bool ?_) ?_)) sndS_nil)) sndS_nil) (sndS_seq (sndS_ite (fun loc => (snd_cmp2 snd_int (snd_loc (i := 4) ?_ ?_ ?_) snd_int ?_)) (sndS_seq (sndS_asg' (put_loc (i := 6) ?_ ?_ ?_) (fun loc => (snd_call4 hn (snd_glob (k := 21) ?_ (g_law_tree hK) (v_law_tree hK) ?_) (gv_law_tree) (k_law_tree hK) (snd_loc (i := 0) ?_ ?_ ?_) ?_ (snd_loc (i := 1) ?_ ?_ ?_) ?_ (snd_bin (snd_loc (i := 2) ?_ ?_ ?_) snd_int) ?_ snd_bool ?_)) ?_) (sndS_seq (sndS_ret fun loc => (snd_tup3 snd_str ?_ (snd_loc (i := 6) ?_ ?_ ?_) ?_ (snd_call4 hn (snd_glob (k := 21) ?_ (g_law_tree hK) (v_law_tree hK) ?_) (gv_law_tree) (k_law_tree hK) (snd_loc (i := 0) ?_ ?_ ?_) ?_ (snd_loc (i := 1) ?_ ?_ ?_) ?_ (snd_bin (snd_loc (i := 2) ?_ ?_ ?_) snd_int) ?_ snd_bool ?_) ?_)) sndS_nil)) sndS_nil) (sndS_seq (sndS_ite (fun loc => (sndT_and (sndT_cmp (snd_loc (i := 1) ?_ ?_ ?_) (snd_lst0) ?_) (sndT_and1 (sndT_cmp (snd_call2 hn (snd_glob (k := 20) ?_ (g_law_digit hK) (v_law_digit hK) ?_) (gv_law_digit) (k_law_digit hK) (snd_loc (i := 0) ?_ ?_ ?_) ?_ snd_int ?_) snd_int ?_)))) (sndS_seq (sndS_ret fun loc => (snd_tup2 snd_str ?_ (snd_idx (snd_loc (i := 1) ?_ ?_ ?_) (snd_call2 hn (snd_glob (k := 20) ?_ (g_law_digit hK) (v_law_digit hK) ?_) (gv_law_digit) (k_law_digit hK) (snd_loc (i := 0) ?_ ?_ ?_) ?_ (snd_len b_len (snd_loc (i := 1) ?_ ?_ ?_) ?_) ?_) ?_) ?_)) sndS_nil) sndS_nil) (sndS_seq (sndS_ret fun loc => (snd_tup2 snd_str ?_ (snd_idx (snd_glob (k := 36) ?_ (g_law_others hK) (v_law_others hK) ?_) (snd_call2 hn (snd_glob (k := 20) ?_ (g_law_digit hK) (v_law_digit hK) ?_) (gv_law_digit) (k_law_digit hK) (snd_loc (i := 0) ?_ ?_ ?_) ?_ snd_int ?_) ?_) ?_)) sndS_nil)))))
  all_goals kernel_rfl


noncomputable def b_299 : MS := (.seq (.asg 2 (.neg (.int 1))) (.seq (.fore 3 4 (.loc 1) (.seq (.ite (.cmp .Eq (.loc 4) (.loc 0)) (.seq (.asg 2 (.loc 3)) .nil) .nil) .nil)) (.seq (.ret (.loc 2)) .nil)))
noncomputable abbrev t_299 : List Str := ["call", "around", "found", "floor", "one"]
theorem s_299 (hK : W.K = KP W.w.params) (hC : W.C = 265) (hn : n₀ ≤ n) (L : Addr) : SndS W cls n (eF W.w.params 299 L) t_299 GV MV (Orc W cls n₀) (execs (bodyAt (KP W.w.params) 299) (eF W.w.params 299 L)) b_299 := by
  have b_enumerate : Boot W (eF W.w.params 299 L) "enumerate" (.type "enumerate") := boot_enumerate hK (by kernel_rfl)
  refine (sndS_seq (sndS_asg' (put_loc (i := 2) ?_ ?_ ?_) (fun loc => (snd_neg snd_int)) ?_) (sndS_seq (sndS_fore (put_loc (i := 3) ?_ ?_ ?_) (put_loc (i := 4) ?_ ?_ ?_) b_enumerate (fun _ => rfl) (fun loc => (snd_loc (i := 1) ?_ ?_ ?_)) ?_ (sndS_seq (sndS_ite (fun loc => (sndT_cmp (snd_loc (i := 4) ?_ ?_ ?_) (snd_loc (i := 0) ?_ ?_ ?_) ?_)) (sndS_seq (sndS_asg' (put_loc (i := 2) ?_ ?_ ?_) (fun loc => (snd_loc (i := 3) ?_ ?_ ?_)) ?_) sndS_nil) sndS_nil) sndS_nil)) (sndS_seq (sndS_ret fun loc => (snd_loc (i := 2) ?_ ?_ ?_)) sndS_nil)))
  all_goals kernel_rfl


noncomputable def b_306 : MS := (.seq (.ite (.cmp .Eq (.idx (.loc 0) (.int 0)) (.str "lam")) (.seq (.ret (.tup2 (.str "lam") (.call2 (.glob 23) (.idx (.loc 0) (.int 2)) (.bin .Add (.loc 1) (.lst1 (.idx (.loc 0) (.int 1))))))) .nil) .nil) (.seq (.ite (.cmp .Eq (.idx (.loc 0) (.int 0)) (.str "app")) (.seq (.ret (.tup3 (.str "app") (.call2 (.glob 23) (.idx (.loc 0) (.int 1)) (.loc 1)) (.call2 (.glob 23) (.idx (.loc 0) (.int 2)) (.loc 1)))) .nil) .nil) (.seq (.asg 2 (.call2 (.glob 22) (.idx (.loc 0) (.int 1)) (.loc 1))) (.seq (.ite (.cmp .GtE (.loc 2) (.int 0)) (.seq (.ret (.tup1 (.bin .Add (.str "var") (.strOf (.bin .Sub (.bin .Sub (.len (.loc 1)) (.int 1)) (.loc 2)))))) .nil) .nil) (.seq (.ret (.ite (.cmp .Eq (.idx (.idx (.loc 0) (.int 1)) (.int 0)) (.str "y")) (.tup1 (.bin .Add (.str "var") (.strOf (.bin .Add (.intOf (.slc (.idx (.loc 0) (.int 1)) (.int 1) .none)) (.len (.loc 1)))))) (.tup1 (.idx (.loc 0) (.int 1))))) .nil)))))
noncomputable abbrev t_306 : List Str := ["tree", "around", "floor"]
theorem s_306 (hK : W.K = KP W.w.params) (hC : W.C = 265) (hn : n₀ ≤ n) (L : Addr) : SndS W cls n (eF W.w.params 306 L) t_306 GV MV (Orc W cls n₀) (execs (bodyAt (KP W.w.params) 306) (eF W.w.params 306 L)) b_306 := by
  have b_len : Boot W (eF W.w.params 306 L) "len" (.builtin "len") := boot_len hK (by kernel_rfl)
  have b_str : Boot W (eF W.w.params 306 L) "str" (.type "str") := boot_str hK (by kernel_rfl)
  have b_int : Boot W (eF W.w.params 306 L) "int" (.type "int") := boot_int hK (by kernel_rfl)
  refine (sndS_seq (sndS_ite (fun loc => (sndT_cmp (snd_idx (snd_loc (i := 0) ?_ ?_ ?_) snd_int ?_) snd_str ?_)) (sndS_seq (sndS_ret fun loc => (snd_tup2 snd_str ?_ (snd_call2 hn (snd_glob (k := 23) ?_ (g_law_core hK) (v_law_core hK) ?_) (gv_law_core) (k_law_core hK) (snd_idx (snd_loc (i := 0) ?_ ?_ ?_) snd_int ?_) ?_ (snd_bin (snd_loc (i := 1) ?_ ?_ ?_) (snd_lst1 (snd_idx (snd_loc (i := 0) ?_ ?_ ?_) snd_int ?_) ?_)) ?_) ?_)) sndS_nil) sndS_nil) (sndS_seq (sndS_ite (fun loc => (sndT_cmp (snd_idx (snd_loc (i := 0) ?_ ?_ ?_) snd_int ?_) snd_str ?_)) (sndS_seq (sndS_ret fun loc => (snd_tup3 snd_str ?_ (snd_call2 hn (snd_glob (k := 23) ?_ (g_law_core hK) (v_law_core hK) ?_) (gv_law_core) (k_law_core hK) (snd_idx (snd_loc (i := 0) ?_ ?_ ?_) snd_int ?_) ?_ (snd_loc (i := 1) ?_ ?_ ?_) ?_) ?_ (snd_call2 hn (snd_glob (k := 23) ?_ (g_law_core hK) (v_law_core hK) ?_) (gv_law_core) (k_law_core hK) (snd_idx (snd_loc (i := 0) ?_ ?_ ?_) snd_int ?_) ?_ (snd_loc (i := 1) ?_ ?_ ?_) ?_) ?_)) sndS_nil) sndS_nil) (sndS_seq (sndS_asg' (put_loc (i := 2) ?_ ?_ ?_) (fun loc => (snd_call2 hn (snd_glob (k := 22) ?_ (g_law_bound hK) (v_law_bound hK) ?_) (gv_law_bound) (k_law_bound hK) (snd_idx (snd_loc (i := 0) ?_ ?_ ?_) snd_int ?_) ?_ (snd_loc (i := 1) ?_ ?_ ?_) ?_)) ?_) (sndS_seq (sndS_ite (fun loc => (sndT_cmp (snd_loc (i := 2) ?_ ?_ ?_) snd_int ?_)) (sndS_seq (sndS_ret fun loc => (snd_tup1 (snd_bin snd_str (snd_strOf b_str (snd_bin (snd_bin (snd_len b_len (snd_loc (i := 1) ?_ ?_ ?_) ?_) snd_int) (snd_loc (i := 2) ?_ ?_ ?_)) ?_)) ?_)) sndS_nil) sndS_nil) (sndS_seq (sndS_ret fun loc => (snd_ite (sndT_cmp (snd_idx (snd_idx (snd_loc (i := 0) ?_ ?_ ?_) snd_int ?_) snd_int ?_) snd_str ?_) (snd_tup1 (snd_bin snd_str (snd_strOf b_str (snd_bin (snd_intOf b_int (snd_slc (snd_idx (snd_loc (i := 0) ?_ ?_ ?_) snd_int ?_) (sndP_some snd_int) sndP_none) ?_) (snd_len b_len (snd_loc (i := 1) ?_ ?_ ?_) ?_)) ?_)) ?_) (snd_tup1 (snd_idx (snd_loc (i := 0) ?_ ?_ ?_) snd_int ?_) ?_))) sndS_nil)))))
  all_goals kernel_rfl


noncomputable def b_313 : MS := (.seq (.ite (.cmp .Eq (.idx (.loc 0) (.int 0)) (.str "lam")) (.seq (.ret (.bin .Add (.bin .Add (.bin .Add (.str "\\x") (.strOf (.len (.loc 1)))) (.str ".")) (.call2 (.glob 24) (.idx (.loc 0) (.int 2)) (.bin .Add (.loc 1) (.lst1 (.idx (.loc 0) (.int 1))))))) .nil) .nil) (.seq (.ite (.cmp .Eq (.idx (.loc 0) (.int 0)) (.str "app")) (.seq (.ret (.bin .Add (.bin .Add (.bin .Add (.bin .Add (.str "(") (.call2 (.glob 24) (.idx (.loc 0) (.int 1)) (.loc 1))) (.str " ")) (.call2 (.glob 24) (.idx (.loc 0) (.int 2)) (.loc 1))) (.str ")"))) .nil) .nil) (.seq (.asg 2 (.call2 (.glob 22) (.idx (.loc 0) (.int 1)) (.loc 1))) (.seq (.ret (.ite (.cmp .GtE (.loc 2) (.int 0)) (.bin .Add (.str "x") (.strOf (.loc 2))) (.idx (.loc 0) (.int 1)))) .nil))))
noncomputable abbrev t_313 : List Str := ["tree", "around", "floor"]
theorem s_313 (hK : W.K = KP W.w.params) (hC : W.C = 265) (hn : n₀ ≤ n) (L : Addr) : SndS W cls n (eF W.w.params 313 L) t_313 GV MV (Orc W cls n₀) (execs (bodyAt (KP W.w.params) 313) (eF W.w.params 313 L)) b_313 := by
  have b_len : Boot W (eF W.w.params 313 L) "len" (.builtin "len") := boot_len hK (by kernel_rfl)
  have b_str : Boot W (eF W.w.params 313 L) "str" (.type "str") := boot_str hK (by kernel_rfl)
  refine (sndS_seq (sndS_ite (fun loc => (sndT_cmp (snd_idx (snd_loc (i := 0) ?_ ?_ ?_) snd_int ?_) snd_str ?_)) (sndS_seq (sndS_ret fun loc => (snd_bin (snd_bin (snd_bin snd_str (snd_strOf b_str (snd_len b_len (snd_loc (i := 1) ?_ ?_ ?_) ?_) ?_)) snd_str) (snd_call2 hn (snd_glob (k := 24) ?_ (g_law_shown hK) (v_law_shown hK) ?_) (gv_law_shown) (k_law_shown hK) (snd_idx (snd_loc (i := 0) ?_ ?_ ?_) snd_int ?_) ?_ (snd_bin (snd_loc (i := 1) ?_ ?_ ?_) (snd_lst1 (snd_idx (snd_loc (i := 0) ?_ ?_ ?_) snd_int ?_) ?_)) ?_))) sndS_nil) sndS_nil) (sndS_seq (sndS_ite (fun loc => (sndT_cmp (snd_idx (snd_loc (i := 0) ?_ ?_ ?_) snd_int ?_) snd_str ?_)) (sndS_seq (sndS_ret fun loc => (snd_bin (snd_bin (snd_bin (snd_bin snd_str (snd_call2 hn (snd_glob (k := 24) ?_ (g_law_shown hK) (v_law_shown hK) ?_) (gv_law_shown) (k_law_shown hK) (snd_idx (snd_loc (i := 0) ?_ ?_ ?_) snd_int ?_) ?_ (snd_loc (i := 1) ?_ ?_ ?_) ?_)) snd_str) (snd_call2 hn (snd_glob (k := 24) ?_ (g_law_shown hK) (v_law_shown hK) ?_) (gv_law_shown) (k_law_shown hK) (snd_idx (snd_loc (i := 0) ?_ ?_ ?_) snd_int ?_) ?_ (snd_loc (i := 1) ?_ ?_ ?_) ?_)) snd_str)) sndS_nil) sndS_nil) (sndS_seq (sndS_asg' (put_loc (i := 2) ?_ ?_ ?_) (fun loc => (snd_call2 hn (snd_glob (k := 22) ?_ (g_law_bound hK) (v_law_bound hK) ?_) (gv_law_bound) (k_law_bound hK) (snd_idx (snd_loc (i := 0) ?_ ?_ ?_) snd_int ?_) ?_ (snd_loc (i := 1) ?_ ?_ ?_) ?_)) ?_) (sndS_seq (sndS_ret fun loc => (snd_ite (sndT_cmp (snd_loc (i := 2) ?_ ?_ ?_) snd_int ?_) (snd_bin snd_str (snd_strOf b_str (snd_loc (i := 2) ?_ ?_ ?_) ?_)) (snd_idx (snd_loc (i := 0) ?_ ?_ ?_) snd_int ?_))) sndS_nil))))
  all_goals kernel_rfl


noncomputable def b_320 : MS := (.seq (.ite (.cmp .Eq (.idx (.loc 0) (.int 0)) (.str "lam")) (.seq (.ret (.bin .Add (.lst3 (.str "\\") (.idx (.loc 0) (.int 1)) (.str ".")) (.call1 (.glob 25) (.idx (.loc 0) (.int 2))))) .nil) .nil) (.seq (.ite (.cmp .Eq (.idx (.loc 0) (.int 0)) (.str "app")) (.seq (.ret (.bin .Add (.bin .Add (.bin .Add (.lst1 (.str "(")) (.call1 (.glob 25) (.idx (.loc 0) (.int 1)))) (.call1 (.glob 25) (.idx (.loc 0) (.int 2)))) (.lst1 (.str ")")))) .nil) .nil) (.seq (.ret (.lst1 (.idx (.loc 0) (.int 1)))) .nil)))
noncomputable abbrev t_320 : List Str := ["tree"]
theorem s_320 (hK : W.K = KP W.w.params) (hC : W.C = 265) (hn : n₀ ≤ n) (L : Addr) : SndS W cls n (eF W.w.params 320 L) t_320 GV MV (Orc W cls n₀) (execs (bodyAt (KP W.w.params) 320) (eF W.w.params 320 L)) b_320 := by
  refine (sndS_seq (sndS_ite (fun loc => (sndT_cmp (snd_idx (snd_loc (i := 0) ?_ ?_ ?_) snd_int ?_) snd_str ?_)) (sndS_seq (sndS_ret fun loc => (snd_bin (snd_lst3 snd_str ?_ (snd_idx (snd_loc (i := 0) ?_ ?_ ?_) snd_int ?_) ?_ snd_str ?_) (snd_call1 hn (snd_glob (k := 25) ?_ (g_law_words hK) (v_law_words hK) ?_) (gv_law_words) (k_law_words hK) (snd_idx (snd_loc (i := 0) ?_ ?_ ?_) snd_int ?_) ?_))) sndS_nil) sndS_nil) (sndS_seq (sndS_ite (fun loc => (sndT_cmp (snd_idx (snd_loc (i := 0) ?_ ?_ ?_) snd_int ?_) snd_str ?_)) (sndS_seq (sndS_ret fun loc => (snd_bin (snd_bin (snd_bin (snd_lst1 snd_str ?_) (snd_call1 hn (snd_glob (k := 25) ?_ (g_law_words hK) (v_law_words hK) ?_) (gv_law_words) (k_law_words hK) (snd_idx (snd_loc (i := 0) ?_ ?_ ?_) snd_int ?_) ?_)) (snd_call1 hn (snd_glob (k := 25) ?_ (g_law_words hK) (v_law_words hK) ?_) (gv_law_words) (k_law_words hK) (snd_idx (snd_loc (i := 0) ?_ ?_ ?_) snd_int ?_) ?_)) (snd_lst1 snd_str ?_))) sndS_nil) sndS_nil) (sndS_seq (sndS_ret fun loc => (snd_lst1 (snd_idx (snd_loc (i := 0) ?_ ?_ ?_) snd_int ?_) ?_)) sndS_nil)))
  all_goals kernel_rfl


noncomputable def b_327 : MS := (.seq (.unp2 2 3 (.tup2 (.str "") (.new0))) (.seq (.fore 4 5 (.loc 1) (.seq (.asg 6 (.call2 (.glob 20) (.loc 0) (.int 3))) (.seq (.ite (.and (.cmp .Gt (.loc 4) (.int 0)) (.and (.cmp .Eq (.loc 6) (.int 0)) (.and (.isalnum (.idx (.loc 5) (.int 0))) (.isalnum (.idx (.idx (.loc 1) (.bin .Sub (.loc 4) (.int 1))) (.int 0)))))) (.seq (.asg 6 (.int 1)) .nil) .nil) (.seq (.expr (.append (.loc 3) (.bin .Add (.len (.loc 2)) (.loc 6)))) (.seq (.asg 2 (.bin .Add (.bin .Add (.loc 2) (.bin .Mult (.str " ") (.loc 6))) (.loc 5))) .nil))))) (.seq (.ret (.tup2 (.bin .Add (.loc 2) (.bin .Mult (.str " ") (.call2 (.glob 20) (.loc 0) (.int 2)))) (.loc 3))) .nil)))
noncomputable abbrev t_327 : List Str := ["hand", "words", "text", "spots", "k", "word", "many"]
theorem s_327 (hK : W.K = KP W.w.params) (hC : W.C = 265) (hn : n₀ ≤ n) (L : Addr) : SndS W cls n (eF W.w.params 327 L) t_327 GV MV (Orc W cls n₀) (execs (bodyAt (KP W.w.params) 327) (eF W.w.params 327 L)) b_327 := by
  have b_len : Boot W (eF W.w.params 327 L) "len" (.builtin "len") := boot_len hK (by kernel_rfl)
  have b_enumerate : Boot W (eF W.w.params 327 L) "enumerate" (.type "enumerate") := boot_enumerate hK (by kernel_rfl)
  refine (sndS_seq (sndS_unp2w (put_loc (i := 2) ?_ ?_ ?_) (put_loc (i := 3) ?_ ?_ ?_) (by decide) (fun loc => (snd_tup2 snd_str ?_ (snd_new0) ?_)) ?_ ?_) (sndS_seq (sndS_fore (put_loc (i := 4) ?_ ?_ ?_) (put_loc (i := 5) ?_ ?_ ?_) b_enumerate (fun _ => rfl) (fun loc => (snd_loc (i := 1) ?_ ?_ ?_)) ?_ (sndS_seq (sndS_asg' (put_loc (i := 6) ?_ ?_ ?_) (fun loc => (snd_call2 hn (snd_glob (k := 20) ?_ (g_law_digit hK) (v_law_digit hK) ?_) (gv_law_digit) (k_law_digit hK) (snd_loc (i := 0) ?_ ?_ ?_) ?_ snd_int ?_)) ?_) (sndS_seq (sndS_ite (fun loc => (sndT_and (sndT_cmp (snd_loc (i := 4) ?_ ?_ ?_) snd_int ?_) (sndT_and (sndT_cmp (snd_loc (i := 6) ?_ ?_ ?_) snd_int ?_) (sndT_and (sndT_plain (snd_isalnum (snd_idx (snd_loc (i := 5) ?_ ?_ ?_) snd_int ?_) rfl ?_) fun _ => rfl) (sndT_and1 (sndT_plain (snd_isalnum (snd_idx (snd_idx (snd_loc (i := 1) ?_ ?_ ?_) (snd_bin (snd_loc (i := 4) ?_ ?_ ?_) snd_int) ?_) snd_int ?_) rfl ?_) fun _ => rfl)))))) (sndS_seq (sndS_asg' (put_loc (i := 6) ?_ ?_ ?_) (fun loc => snd_int) ?_) sndS_nil) sndS_nil) (sndS_seq (sndS_expr (fun loc => (snd_append (snd_loc (i := 3) ?_ ?_ ?_) (snd_bin (snd_len b_len (snd_loc (i := 2) ?_ ?_ ?_) ?_) (snd_loc (i := 6) ?_ ?_ ?_)) ?_ rfl ?_)) ?_ ?_) (sndS_seq (sndS_asg' (put_loc (i := 2) ?_ ?_ ?_) (fun loc => (snd_bin (snd_bin (snd_loc (i := 2) ?_ ?_ ?_) (snd_bin snd_str (snd_loc (i := 6) ?_ ?_ ?_))) (snd_loc (i := 5) ?_ ?_ ?_))) ?_) sndS_nil))))) (sndS_seq (sndS_ret fun loc => (snd_tup2 (snd_bin (snd_loc (i := 2) ?_ ?_ ?_) (snd_bin snd_str (snd_call2 hn (snd_glob (k := 20) ?_ (g_law_digit hK) (v_law_digit hK) ?_) (gv_law_digit) (k_law_digit hK) (snd_loc (i := 0) ?_ ?_ ?_) ?_ snd_int ?_))) ?_ (snd_loc (i := 3) ?_ ?_ ?_) ?_)) sndS_nil)))
  all_goals kernel_rfl


noncomputable def b_334 : MS := (.seq (.asg 2 (.call2 (.glob 20) (.loc 0) (.int 3))) (.seq (.ite (.cmp .Eq (.loc 2) (.int 0)) (.seq (.ret (.tup3 (.str "app") (.tup3 (.str "lam") (.str "z") (.tup2 (.str "name") (.str "z"))) (.loc 1))) .nil) .nil) (.seq (.asg 3 (.tup3 (.str "lam") (.str "p") (.tup3 (.str "app") (.tup2 (.str "name") (.str "p")) (.tup2 (.str "name") (.str "p"))))) (.seq (.ret (.tup3 (.str "app") (.tup3 (.str "lam") (.str "z") (.loc 1)) (.ite (.cmp .Eq (.loc 2) (.int 1)) (.tup3 (.str "app") (.loc 3) (.loc 3)) (.tup2 (.str "name") (.str "k"))))) .nil))))
noncomputable abbrev t_334 : List Str := ["hand", "tree", "way", "twice"]
theorem s_334 (hK : W.K = KP W.w.params) (hC : W.C = 265) (hn : n₀ ≤ n) (L : Addr) : SndS W cls n (eF W.w.params 334 L) t_334 GV MV (Orc W cls n₀) (execs (bodyAt (KP W.w.params) 334) (eF W.w.params 334 L)) b_334 := by
  refine (sndS_seq (sndS_asg' (put_loc (i := 2) ?_ ?_ ?_) (fun loc => (snd_call2 hn (snd_glob (k := 20) ?_ (g_law_digit hK) (v_law_digit hK) ?_) (gv_law_digit) (k_law_digit hK) (snd_loc (i := 0) ?_ ?_ ?_) ?_ snd_int ?_)) ?_) (sndS_seq (sndS_ite (fun loc => (sndT_cmp (snd_loc (i := 2) ?_ ?_ ?_) snd_int ?_)) (sndS_seq (sndS_ret fun loc => (snd_tup3 snd_str ?_ (snd_tup3 snd_str ?_ snd_str ?_ (snd_tup2 snd_str ?_ snd_str ?_) ?_) ?_ (snd_loc (i := 1) ?_ ?_ ?_) ?_)) sndS_nil) sndS_nil) (sndS_seq (sndS_asg' (put_loc (i := 3) ?_ ?_ ?_) (fun loc => (snd_tup3 snd_str ?_ snd_str ?_ (snd_tup3 snd_str ?_ (snd_tup2 snd_str ?_ snd_str ?_) ?_ (snd_tup2 snd_str ?_ snd_str ?_) ?_) ?_)) ?_) (sndS_seq (sndS_ret fun loc => (snd_tup3 snd_str ?_ (snd_tup3 snd_str ?_ snd_str ?_ (snd_loc (i := 1) ?_ ?_ ?_) ?_) ?_ (snd_ite (sndT_cmp (snd_loc (i := 2) ?_ ?_ ?_) snd_int ?_) (snd_tup3 snd_str ?_ (snd_loc (i := 3) ?_ ?_ ?_) ?_ (snd_loc (i := 3) ?_ ?_ ?_) ?_) (snd_tup2 snd_str ?_ snd_str ?_)) ?_)) sndS_nil))))
  all_goals kernel_rfl


end
end Mine
end
section
set_option tactic.hygienic false
open PySem PySem.W PyProof.Rows PySem.Spec PySem.Calls PySem.Builtin.Str
set_option Elab.async false
set_option maxRecDepth 100000
set_option autoImplicit false
set_option maxHeartbeats 4000000
namespace Mine
theorem fk_102 (P : Params) : FnK (KP P) 102 ["t", "path"] := FnK.of2 (by kernel_rfl) (fun _ _ => by kernel_rfl) (by kernel_rfl) (by kernel_rfl) (by kernel_rfl) (by kernel_rfl) (by kernel_rfl) (fun _ => by kernel_rfl) (by kernel_rfl)
theorem fk_109 (P : Params) : FnK (KP P) 109 ["t", "path", "u"] := FnK.of3 (by kernel_rfl) (fun _ _ _ => by kernel_rfl) (by kernel_rfl) (by kernel_rfl) (by kernel_rfl) (by kernel_rfl) (by kernel_rfl) (fun _ => by kernel_rfl) (by kernel_rfl)
theorem fk_114 (P : Params) : FnK (KP P) 114 ["text", "signs"] := FnK.of2 (by kernel_rfl) (fun _ _ => by kernel_rfl) (by kernel_rfl) (by kernel_rfl) (by kernel_rfl) (by kernel_rfl) (by kernel_rfl) (fun _ => by kernel_rfl) (by kernel_rfl)
theorem fk_121 (P : Params) : FnK (KP P) 121 ["text", "begin"] := FnK.of2 (by kernel_rfl) (fun _ _ => by kernel_rfl) (by kernel_rfl) (by kernel_rfl) (by kernel_rfl) (by kernel_rfl) (by kernel_rfl) (fun _ => by kernel_rfl) (by kernel_rfl)
theorem fk_128 (P : Params) : FnK (KP P) 128 ["t"] := FnK.of1 (by kernel_rfl) (fun _ => by kernel_rfl) (by kernel_rfl) (by kernel_rfl) (by kernel_rfl) (by kernel_rfl) (fun _ => by kernel_rfl) (by kernel_rfl)
theorem fk_135 (P : Params) : FnK (KP P) 135 ["index"] := FnK.of1 (by kernel_rfl) (fun _ => by kernel_rfl) (by kernel_rfl) (by kernel_rfl) (by kernel_rfl) (by kernel_rfl) (fun _ => by kernel_rfl) (by kernel_rfl)
theorem fk_142 (P : Params) : FnK (KP P) 142 ["t"] := FnK.of1 (by kernel_rfl) (fun _ => by kernel_rfl) (by kernel_rfl) (by kernel_rfl) (by kernel_rfl) (by kernel_rfl) (fun _ => by kernel_rfl) (by kernel_rfl)
theorem fk_147 (P : Params) : FnK (KP P) 147 ["t", "by", "begin", "around"] := FnK.of4 (by kernel_rfl) (fun _ _ _ _ => by kernel_rfl) (by kernel_rfl) (by kernel_rfl) (by kernel_rfl) (by kernel_rfl) (by kernel_rfl) (fun _ => by kernel_rfl) (by kernel_rfl)
theorem fk_154 (P : Params) : FnK (KP P) 154 ["t", "by", "begin"] := FnK.of3 (by kernel_rfl) (fun _ _ _ => by kernel_rfl) (by kernel_rfl) (by kernel_rfl) (by kernel_rfl) (by kernel_rfl) (by kernel_rfl) (fun _ => by kernel_rfl) (by kernel_rfl)
theorem fk_159 (P : Params) : FnK (KP P) 159 ["t", "k", "u"] := FnK.of3 (by kernel_rfl) (fun _ _ _ => by kernel_rfl) (by kernel_rfl) (by kernel_rfl) (by kernel_rfl) (by kernel_rfl) (by kernel_rfl) (fun _ => by kernel_rfl) (by kernel_rfl)
theorem fk_166 (P : Params) : FnK (KP P) 166 ["t"] := FnK.of1 (by kernel_rfl) (fun _ => by kernel_rfl) (by kernel_rfl) (by kernel_rfl) (by kernel_rfl) (by kernel_rfl) (fun _ => by kernel_rfl) (by kernel_rfl)
theorem fk_173 (P : Params) : FnK (KP P) 173 ["t", "path"] := FnK.of2 (by kernel_rfl) (fun _ _ => by kernel_rfl) (by kernel_rfl) (by kernel_rfl) (by kernel_rfl) (by kernel_rfl) (by kernel_rfl) (fun _ => by kernel_rfl) (by kernel_rfl)
theorem fk_180 (P : Params) : FnK (KP P) 180 ["t"] := FnK.of1 (by kernel_rfl) (fun _ => by kernel_rfl) (by kernel_rfl) (by kernel_rfl) (by kernel_rfl) (by kernel_rfl) (fun _ => by kernel_rfl) (by kernel_rfl)
theorem fk_185 (P : Params) : FnK (KP P) 185 ["t"] := FnK.of1 (by kernel_rfl) (fun _ => by kernel_rfl) (by kernel_rfl) (by kernel_rfl) (by kernel_rfl) (by kernel_rfl) (fun _ => by kernel_rfl) (by kernel_rfl)
theorem fk_192 (P : Params) : FnK (KP P) 192 ["t", "most"] := FnK.of2 (by kernel_rfl) (fun _ _ => by kernel_rfl) (by kernel_rfl) (by kernel_rfl) (by kernel_rfl) (by kernel_rfl) (by kernel_rfl) (fun _ => by kernel_rfl) (by kernel_rfl)
theorem fk_199 (P : Params) : FnK (KP P) 199 ["t", "u", "most"] := FnK.of3 (by kernel_rfl) (fun _ _ _ => by kernel_rfl) (by kernel_rfl) (by kernel_rfl) (by kernel_rfl) (by kernel_rfl) (by kernel_rfl) (fun _ => by kernel_rfl) (by kernel_rfl)
theorem fk_206 (P : Params) : FnK (KP P) 206 ["t", "depth"] := FnK.of2 (by kernel_rfl) (fun _ _ => by kernel_rfl) (by kernel_rfl) (by kernel_rfl) (by kernel_rfl) (by kernel_rfl) (by kernel_rfl) (fun _ => by kernel_rfl) (by kernel_rfl)
theorem fk_213 (P : Params) : FnK (KP P) 213 ["t"] := FnK.of1 (by kernel_rfl) (fun _ => by kernel_rfl) (by kernel_rfl) (by kernel_rfl) (by kernel_rfl) (by kernel_rfl) (fun _ => by kernel_rfl) (by kernel_rfl)
theorem fk_227 (P : Params) : FnK (KP P) 227 ["self", "text"] := FnK.of2 (by kernel_rfl) (fun _ _ => by kernel_rfl) (by kernel_rfl) (by kernel_rfl) (by kernel_rfl) (by kernel_rfl) (by kernel_rfl) (fun _ => by kernel_rfl) (by kernel_rfl)
theorem fk_234 (P : Params) : FnK (KP P) 234 ["self"] := FnK.of1 (by kernel_rfl) (fun _ => by kernel_rfl) (by kernel_rfl) (by kernel_rfl) (by kernel_rfl) (by kernel_rfl) (fun _ => by kernel_rfl) (by kernel_rfl)
theorem fk_241 (P : Params) : FnK (KP P) 241 ["self", "sign"] := FnK.of2 (by kernel_rfl) (fun _ _ => by kernel_rfl) (by kernel_rfl) (by kernel_rfl) (by kernel_rfl) (by kernel_rfl) (by kernel_rfl) (fun _ => by kernel_rfl) (by kernel_rfl)
theorem fk_248 (P : Params) : FnK (KP P) 248 ["self"] := FnK.of1 (by kernel_rfl) (fun _ => by kernel_rfl) (by kernel_rfl) (by kernel_rfl) (by kernel_rfl) (by kernel_rfl) (fun _ => by kernel_rfl) (by kernel_rfl)
theorem fk_255 (P : Params) : FnK (KP P) 255 ["self"] := FnK.of1 (by kernel_rfl) (fun _ => by kernel_rfl) (by kernel_rfl) (by kernel_rfl) (by kernel_rfl) (by kernel_rfl) (fun _ => by kernel_rfl) (by kernel_rfl)
theorem fk_262 (P : Params) : FnK (KP P) 262 ["self", "depth"] := FnK.of2 (by kernel_rfl) (fun _ _ => by kernel_rfl) (by kernel_rfl) (by kernel_rfl) (by kernel_rfl) (by kernel_rfl) (by kernel_rfl) (fun _ => by kernel_rfl) (by kernel_rfl)
theorem fk_276 (P : Params) : FnK (KP P) 276 ["text"] := FnK.of1 (by kernel_rfl) (fun _ => by kernel_rfl) (by kernel_rfl) (by kernel_rfl) (by kernel_rfl) (by kernel_rfl) (fun _ => by kernel_rfl) (by kernel_rfl)
theorem fk_285 (P : Params) : FnK (KP P) 285 ["hand", "wide"] := FnK.of2 (by kernel_rfl) (fun _ _ => by kernel_rfl) (by kernel_rfl) (by kernel_rfl) (by kernel_rfl) (by kernel_rfl) (by kernel_rfl) (fun _ => by kernel_rfl) (by kernel_rfl)
theorem fk_292 (P : Params) : FnK (KP P) 292 ["hand", "around", "floors", "is_head"] := FnK.of4 (by kernel_rfl) (fun _ _ _ _ => by kernel_rfl) (by kernel_rfl) (by kernel_rfl) (by kernel_rfl) (by kernel_rfl) (by kernel_rfl) (fun _ => by kernel_rfl) (by kernel_rfl)
theorem fk_299 (P : Params) : FnK (KP P) 299 ["call", "around"] := FnK.of2 (by kernel_rfl) (fun _ _ => by kernel_rfl) (by kernel_rfl) (by kernel_rfl) (by kernel_rfl) (by kernel_rfl) (by kernel_rfl) (fun _ => by kernel_rfl) (by kernel_rfl)
theorem fk_306 (P : Params) : FnK (KP P) 306 ["tree", "around"] := FnK.of2 (by kernel_rfl) (fun _ _ => by kernel_rfl) (by kernel_rfl) (by kernel_rfl) (by kernel_rfl) (by kernel_rfl) (by kernel_rfl) (fun _ => by kernel_rfl) (by kernel_rfl)
theorem fk_313 (P : Params) : FnK (KP P) 313 ["tree", "around"] := FnK.of2 (by kernel_rfl) (fun _ _ => by kernel_rfl) (by kernel_rfl) (by kernel_rfl) (by kernel_rfl) (by kernel_rfl) (by kernel_rfl) (fun _ => by kernel_rfl) (by kernel_rfl)
theorem fk_320 (P : Params) : FnK (KP P) 320 ["tree"] := FnK.of1 (by kernel_rfl) (fun _ => by kernel_rfl) (by kernel_rfl) (by kernel_rfl) (by kernel_rfl) (by kernel_rfl) (fun _ => by kernel_rfl) (by kernel_rfl)
theorem fk_327 (P : Params) : FnK (KP P) 327 ["hand", "words"] := FnK.of2 (by kernel_rfl) (fun _ _ => by kernel_rfl) (by kernel_rfl) (by kernel_rfl) (by kernel_rfl) (by kernel_rfl) (by kernel_rfl) (fun _ => by kernel_rfl) (by kernel_rfl)
theorem fk_334 (P : Params) : FnK (KP P) 334 ["hand", "tree"] := FnK.of2 (by kernel_rfl) (fun _ _ => by kernel_rfl) (by kernel_rfl) (by kernel_rfl) (by kernel_rfl) (by kernel_rfl) (by kernel_rfl) (fun _ => by kernel_rfl) (by kernel_rfl)
theorem fk_341 (P : Params) : FnK (KP P) 341 ["one", "other", "most"] := FnK.of3 (by kernel_rfl) (fun _ _ _ => by kernel_rfl) (by kernel_rfl) (by kernel_rfl) (by kernel_rfl) (by kernel_rfl) (by kernel_rfl) (fun _ => by kernel_rfl) (by kernel_rfl)
theorem fk_348 (P : Params) : FnK (KP P) 348 ["text"] := FnK.of1 (by kernel_rfl) (fun _ => by kernel_rfl) (by kernel_rfl) (by kernel_rfl) (by kernel_rfl) (by kernel_rfl) (fun _ => by kernel_rfl) (by kernel_rfl)
theorem fk_353 (P : Params) : FnK (KP P) 353 ["script"] := FnK.of1 (by kernel_rfl) (fun _ => by kernel_rfl) (by kernel_rfl) (by kernel_rfl) (by kernel_rfl) (by kernel_rfl) (fun _ => by kernel_rfl) (by kernel_rfl)
end Mine
end
section
set_option tactic.hygienic false
open PySem PySem.W PyProof.Rows PySem.Spec PySem.Calls PySem.Builtin.Str
set_option Elab.async false
set_option maxRecDepth 100000
set_option autoImplicit false
set_option maxHeartbeats 1000000
namespace Mine

structure Gd (W : Wd) : Prop where
  K : W.K = KP W.w.params
  C : W.C = 265
  file : ((W.prog.main.file : Str) == "/claim/cut.py") = true
  top : (W.prog.main.scope.names.lookup ("super" : Str)).isSome = false

noncomputable def cdAt (K : Frag) (C : Addr) : ClassData := match (objAt K C).data with | .cls c => c | _ => default
noncomputable def slAt (K : Frag) (C : Addr) (i : Nat) : Option Value := ((objAt K C).slots.toList[i]?).join
noncomputable abbrev xbmL : List Value := [.ref 40, .type "Exception", .type "BaseException", .type "object"]
theorem xbm : XBm xbmL := ⟨by decide +kernel, by decide +kernel, by decide +kernel, by decide +kernel⟩
noncomputable abbrev excAt (K : Frag) (C : Addr) : Obj := excClassObj (cdAt K C).name (cdAt K C).qualname C (cdAt K C).ns (cdAt K C).bases xbmL (cdAt K C).hasDict (cdAt K C).slotNames (cdAt K C).subclasses (cdAt K C).abstract (cdAt K C).collection (objAt K C).dict (slAt K C 0) (slAt K C 1) (slAt K C 2) (slAt K C 3) (slAt K C 5) xNew

structure XCls (K : Frag) (C : Addr) : Prop where
  obj : K.lookup C = some (excAt K C)
  cd : ((clsIn K C).any fun cd => cd.hasDict && xtail cd.mro && ((cd.mro.dropWhile (· != .ref 40)).drop 1 == [.type "Exception", .type "BaseException", .type "object"])) = true
  set : findIn K (.ref C) "__setattr__" = some (some (.builtin "object.__setattr__"))
  what : takerIn K C "what" = some none
  spot : takerIn K C "spot" = some none
  sub : mroIn K C (.ref 40) = some true
  exc : mroIn K C (.type "Exception") = some true
  base : mroIn K C (.type "BaseException") = some true
  self : mroIn K C (.ref C) = some true

theorem xcls69 (P : Params) : XCls (KP P) 69 := ⟨by kernel_rfl, by kernel_rfl, by kernel_rfl, by kernel_rfl, by kernel_rfl, by kernel_rfl, by kernel_rfl, by kernel_rfl, by kernel_rfl⟩
theorem xcls93 (P : Params) : XCls (KP P) 93 := ⟨by kernel_rfl, by kernel_rfl, by kernel_rfl, by kernel_rfl, by kernel_rfl, by kernel_rfl, by kernel_rfl, by kernel_rfl, by kernel_rfl⟩

noncomputable def fxc (K : Frag) (f cc : Addr) : FuncData := ksFn (fdAt K f).name (fdAt K f).qualname (fdAt K f).params (bodyAt K f) (fdAt K f).scope (fdAt K f).defaults (fdAt K f).kwdefaults (fdAt K f).doc (fdAt K f).pyModule (fdAt K f).annotations (fdAt K f).code (fdAt K f).closureTuple cc
noncomputable def eX (P : Params) (f L cc : Addr) : Env := ksEnv (fdAt (KP P) f).qualname (fdAt (KP P) f).scope L f (fdAt (KP P) f).code cc
theorem fxc30 (P : Params) : (KP P).lookup 30 = some ⟨(objAt (KP P) 30).cls, (objAt (KP P) 30).dict, .func (fxc (KP P) 30 18), (objAt (KP P) 30).slots⟩ := by kernel_rfl
theorem fxc59 (P : Params) : (KP P).lookup 59 = some ⟨(objAt (KP P) 59).cls, (objAt (KP P) 59).dict, .func (fxc (KP P) 59 47), (objAt (KP P) 59).slots⟩ := by kernel_rfl
theorem fcode30 (P : Params) : codeIn (KP P) (fdAt (KP P) 30).code (fdAt (KP P) 30).qualname = true := by kernel_rfl
theorem fcode59 (P : Params) : codeIn (KP P) (fdAt (KP P) 59).code (fdAt (KP P) 59).qualname = true := by kernel_rfl
theorem fbind30 (P : Params) (a b : Value) : bindArgs (fxc (KP P) 30 18) ⟨[a, b], []⟩ = pure [(("self" : Str), a), (("what" : Str), b)] := by kernel_rfl
theorem fbind59 (P : Params) (a b c : Value) : bindArgs (fxc (KP P) 59 47) ⟨[a, b, c], []⟩ = pure [(("self" : Str), a), (("what" : Str), b), (("spot" : Str), c)] := by kernel_rfl

noncomputable def noCell (sc : Scope) : Bool := sc.names.all fun x => decide (x.2 ≠ .cell)
theorem noCell_of {sc : Scope} (h : noCell sc = true) : ∀ x ∈ sc.names, x.2 ≠ .cell := fun x hx => of_decide_eq_true (List.all_eq_true.mp h x hx)
theorem nc30 (P : Params) : noCell (fxc (KP P) 30 18).scope = true := by kernel_rfl
theorem nc59 (P : Params) : noCell (fxc (KP P) 59 47).scope = true := by kernel_rfl
noncomputable def areLoc (sc : Scope) (l : List Str) : Bool := l.all fun x => decide (sc.names.lookup x = some .local)
theorem areLoc_of {sc : Scope} {l : List (Str × Value)} (h : areLoc sc (l.map (·.1)) = true) : ∀ x ∈ l, sc.names.lookup x.1 = some .local := fun x hx => of_decide_eq_true (List.all_eq_true.mp h x.1 (List.mem_map_of_mem hx))
theorem lc30 (P : Params) : areLoc (fxc (KP P) 30 18).scope ["self", "what"] = true := by kernel_rfl
theorem lc59 (P : Params) : areLoc (fxc (KP P) 59 47).scope ["self", "what", "spot"] = true := by kernel_rfl

noncomputable def vsAt (K : Frag) (a : Addr) : Array Value := match (objAt K a).data with | .fields vs => vs | _ => #[]
noncomputable def arOf (K : Frag) (f : Addr) : Arg := (((fdAt K f).params.posonlyargs ++ (fdAt K f).params.args).head?).getD ⟨"", none, default⟩
structure XSup (P : Params) (f cc cda D : Addr) : Prop where
  look : (KP P).lookup f = some ⟨(objAt (KP P) f).cls, (objAt (KP P) f).dict, .func (fxc (KP P) f cc), (objAt (KP P) f).slots⟩
  ar : ((fxc (KP P) f cc).params.posonlyargs ++ (fxc (KP P) f cc).params.args).head? = some (arOf (KP P) f)
  self : (arOf (KP P) f).arg = "self"
  code : (KP P).lookup cda = some ⟨(objAt (KP P) cda).cls, (objAt (KP P) cda).dict, .fields (vsAt (KP P) cda), (objAt (KP P) cda).slots⟩
  file : (vsAt (KP P) cda)[2]? = some (.str "/claim/cut.py" (tokOf ((vsAt (KP P) cda)[2]?.getD .none)))
  cell : (KP P).lookup cc = some ⟨(objAt (KP P) cc).cls, (objAt (KP P) cc).dict, .cell (some (.ref D)), (objAt (KP P) cc).slots⟩
  cls : clsIn (KP P) D = some (cdAt (KP P) D)
  sup : nsIn (KP P) mainGlobals "super" = some none
  opq : nsIn (KP P) cStatics "thirdparty.any" = some none
theorem xsup30 (P : Params) : XSup P 30 18 29 40 := ⟨by kernel_rfl, by kernel_rfl, by kernel_rfl, by kernel_rfl, by kernel_rfl, by kernel_rfl, by kernel_rfl, by kernel_rfl, by kernel_rfl⟩
theorem xsup59 (P : Params) : XSup P 59 47 58 69 := ⟨by kernel_rfl, by kernel_rfl, by kernel_rfl, by kernel_rfl, by kernel_rfl, by kernel_rfl, by kernel_rfl, by kernel_rfl, by kernel_rfl⟩

section
variable {W : Wd} {A : Around} {s : Shared} {x C tp : Addr} {what : Value} {R : Result → Shared → Prop}

theorem xname {A : Around} {E : Value → Shared → Prop} {s : Shared} {env : Env} {y : Str} {pos : Pos} {m : Str → Option Value} {v : Value} {Q : Value → Shared → Prop} (hk : env.scope.kind = .function) (hy : env.kindOf y = some .local) (hn : s.heap.Ns env.locals m) (hv : m y = some v) (q : Q v s) (hd : (y == ("__debug__" : Str)) = false) :
    wpAny (model W.prog W.w) A (eval (.Name y pos) env) Q E s := by
  rw [eval_Name env y pos hd]
  exact wpAny_bind (wpAny_standAt (wpAny_loadName_local hk hy hn hv q))

theorem mw_keeper {mw x : Addr} (h : Heap) (e : h.get? mw = some (mwObj x)) : ∃ k, (k = Keeper.frame ∨ k = Keeper.machine ∨ k = Keeper.boundFrame) ∧ Looks (model W.prog W.w) h (keeperOf (.ref mw)) k :=
  ⟨.machine, .inr (.inl rfl), (Looks.ld (part := none) e).andThen .now⟩

theorem r_init30 (g : Gd W) (xc : XCls W.K C) (base : W.hT.StaysIn s.heap) (hxn : W.hT.get? x = none) (hx : s.heap.get? x = some (xObj C tp none)) (room : A.depth < recursionLimit)
    (q : ∀ h' tk tp' dx l n, (∀ b o, s.heap.get? b = some o → b ≠ x → h'.get? b = some o) → h'.get? x = some (xObj C tp' (some dx)) → s.heap.get? dx = none → h'.get? dx = some (dictOf l n) → l.any (·.refKey) = false → l.length ≤ 1 → R (.ok (.ret .none)) { s with heap := h', toks := tk }) :
    codeAny (model W.prog W.w) A (.call (.ref 30) ⟨[.ref x, what], []⟩) R s := by
  have hK := g.K
  have X := W.X.keeps base
  have hlim : s.heap.NoLimit := W.T.nolimit.keeps base
  have S := xsup30 W.w.params
  have look : ∀ {a : Addr} {o : Obj}, (KP W.w.params).lookup a = some o → W.K.lookup a = some o := fun h => (congrArg (fun K : Frag => K.lookup _) hK).trans h
  refine ks_codeAny_call_defAt (fd := fxc (KP W.w.params) 30 18) (binds := [("self", .ref x), ("what", what)]) room (X _ _ (look S.look)) rfl hlim (codeRec_of X (by rw [hK]; exact fcode30 _)) rfl (by with_reducible exact BindsTo.of_eq (fbind30 _ _ _)) (noCell_of (nc30 _)) (areLoc_of (lc30 _)) (fun h₁ hns hk₁ => ?_) (by kernel_rfl) (by kernel_rfl) (by kernel_rfl)
  have F : Fr s.heap s.heap.objs.size h₁ _ := ⟨hns, hk₁, Nat.le_refl _⟩
  have T := W.T.keeps base
  have I₁ : InstAt h₁ x (xObj C tp none) C none := ⟨hk₁ _ _ hx, rfl, rfl, trivial⟩
  refine ks_wpAt_execs_cons (ks_wpAt_Expr_any (ks_wpAt_MethodCall ?_))
  obtain ⟨cd, hcd, hcd'⟩ := any_some xc.cd
  simp only [Bool.and_eq_true, beq_iff_eq] at hcd'
  obtain ⟨⟨hdict, htail⟩, hdrop⟩ := hcd'
  have hxC : x ≠ C := ks_ne X (odx := none) ⟨hx, rfl, rfl, trivial⟩ hcd
  have env : (callEnv (fxc (KP W.w.params) 30 18) s.heap.objs.size 30).locals = s.heap.objs.size := rfl
  refine ks_node (s := { s with heap := h₁, toks := s.toks + 2 }) (cda := 29) (ar := arOf (KP W.w.params) 30) F X News.nil T (look S.look) S.ar (by rw [S.self]; rfl) I₁ (look S.code) S.file g.file (look S.cell) (by rw [hK]; exact S.cls) xc.sub (by rw [hK]; exact S.sup) (by decide) ?a12 ?a13 ?a14 ?a15 g.top ?a17 fun so h₂ F₂ N₂ l₂ => ?_
  case a12 => kernel_rfl
  case a13 => kernel_rfl
  case a14 => rw [S.self]; kernel_rfl
  case a15 => kernel_rfl
  case a17 => kernel_rfl
  have X₂ : W.K.In h₂ := X.keeps F₂.keep
  have hx₂ : h₂.get? x = some (xObj C tp none) := F₂.keep _ _ hx
  refine xmeth (h := h₂) (N₂ _ (.head _)).1 (looks_opaque X₂ (by rw [hK]; exact S.opq)) ((looks_clsIn X₂ hcd).andThen .now) hdrop X₂ hxC hx₂ rfl (looks_mroIn X₂ xc.exc) ?_
  have mwlt : ∀ b o, h₂.get? b = some o → (h₂.push (mwObj x)).get? b = some o := fun b o e => Heap.get?_push_of_some _ e
  have hm : (h₂.push (mwObj x)).get? h₂.objs.size = some (mwObj x) := Heap.get?_push_at rfl rfl
  have F₃ := F₂.keeps mwlt
  refine callWith_of (P := fun h => h.get? h₂.objs.size = some (mwObj x)) rfl mw_keeper (evalArgs_plain (spliced_cons (xname (by kernel_rfl) (by kernel_rfl) F₃.ns rfl (spliced_nil ⟨hm, ?_⟩) (by decide))))
  have hC₃ : (h₂.push (mwObj x)).get? C = some (excAt W.K C) := mwlt _ _ (X₂ _ _ xc.obj)
  refine xmw_call hC₃ hm (mwlt _ _ hx₂) ?_
  have hLx : x ≠ s.heap.objs.size := Nat.ne_of_lt (Heap.lt_size hx)
  have hx₅ : ((h₂.push (mwObj x)).push (xTup [what])).get? x = some (xObj C tp none) := Heap.get?_push_of_some _ (mwlt _ _ hx₂)
  have hx₄ : (((h₂.push (mwObj x)).push (xTup [what])).update x (Obj.mapFields (·.setIfInBounds 0 (.ref (h₂.push (mwObj x)).objs.size)))).get? x = some (xObj C (h₂.push (mwObj x)).objs.size none) := Heap.get?_update_self _ hx₅ rfl
  have keep₄ : ∀ b o, b ≠ x → h₂.get? b = some o → (((h₂.push (mwObj x)).push (xTup [what])).update x (Obj.mapFields (·.setIfInBounds 0 (.ref (h₂.push (mwObj x)).objs.size)))).get? b = some o := fun b o hb e => by
    rw [Heap.get?_update_other _ _ (Ne.symm hb)]; exact Heap.get?_push_of_some _ (mwlt _ _ e)
  have ns₄ : (((h₂.push (mwObj x)).push (xTup [what])).update x (Obj.mapFields (·.setIfInBounds 0 (.ref (h₂.push (mwObj x)).objs.size)))).Ns s.heap.objs.size _ := let ⟨o, es, ep, e, r⟩ := F₂.ns; ⟨o, es, ep, keep₄ _ _ (Ne.symm hLx) e, r⟩
  generalize ((h₂.push (mwObj x)).push (xTup [what])).update x (Obj.mapFields (·.setIfInBounds 0 (.ref (h₂.push (mwObj x)).objs.size))) = h₄ at hx₄ keep₄ ns₄ ⊢
  have base₄ : W.K.In h₄ := fun b o e => keep₄ b o (fun z => by have := W.X b o e; rw [z, hxn] at this; cases this) (X₂ b o e)
  · refine ks_wpAt_execs_cons (ks_wpAt_Assign_Attr (wpAt_of_wpAny (xname (by kernel_rfl) (by kernel_rfl) ns₄ rfl (xname (by kernel_rfl) (by kernel_rfl) ns₄ rfl ?_ (by decide)) (by decide))) (by kernel_rfl))
    refine xset_first (x := x) base₄ hx₄ hcd hdict htail xc.set xc.what fun h' k1 k2 k3 => ?_
    refine wpAt_of_wpAny (wpAny_execs_nil ?_)
    have kk : ∀ b o, s.heap.get? b = some o → b ≠ x → h₄.get? b = some o := fun b o e hb => keep₄ b o hb (F₂.keep b o e)
    refine q h' _ _ h₄.objs.size _ _ (fun b o e hb => k1 b o (kk b o e hb) hb) k2 ?_ k3 rfl (Nat.le_refl _)
    cases e : s.heap.get? h₄.objs.size with
    | none => rfl
    | some o =>
      exfalso
      by_cases hb : h₄.objs.size = x
      · have := Heap.lt_size hx₄; rw [← hb] at this; exact Nat.lt_irrefl _ this
      · exact Nat.lt_irrefl _ (Heap.lt_size (kk _ _ e hb))

theorem getL_putL (y : Str) (hh : Int) (u : Tok) (v : Value) (l : List DictEntry) : getL y (putL y hh (.str y u) v l) = some (some v) := by
  have key : (putL y hh (.str y u) v l).find? (fun e => e.key.isStr y) = some ((putL y hh (.str y u) v l).find? (fun e => e.key.isStr y) |>.getD ⟨hh, .str y u, v⟩) ∧ ((putL y hh (.str y u) v l).find? (fun e => e.key.isStr y) |>.getD ⟨hh, .str y u, v⟩).val = v := by
    induction l with
    | nil =>
      have : (Value.str y u).isStr y = true := by rw [isStr_str]; simp
      rw [putL, List.find?_cons, this]
      exact ⟨rfl, rfl⟩
    | cons e l ih =>
      rw [putL]
      by_cases he : e.key.isStr y = true
      · rw [if_pos he, List.find?_cons, he]
        exact ⟨rfl, rfl⟩
      · rw [if_neg he, List.find?_cons]
        rw [Bool.not_eq_true] at he
        rw [he]
        exact ih
  unfold getL
  rw [key.1]
  dsimp only
  rw [key.2]

theorem deeper_depth (A : Around) (e : Env) : (A.deeper e).depth = A.depth + 1 := rfl

theorem r_init59 {spot : Value} (g : Gd W) (base : W.hT.StaysIn s.heap) (hxn : W.hT.get? x = none) (hx : s.heap.get? x = some (xObj 69 tp none)) (room : A.depth + 1 < recursionLimit)
    (q : ∀ h' tk tp' dx l n, (∀ b o, s.heap.get? b = some o → b ≠ x → h'.get? b = some o) → h'.get? x = some (xObj 69 tp' (some dx)) → s.heap.get? dx = none → h'.get? dx = some (dictOf l n) → getL "spot" l = some (some spot) → R (.ok (.ret .none)) { s with heap := h', toks := tk }) :
    codeAny (model W.prog W.w) A (.call (.ref 59) ⟨[.ref x, what, spot], []⟩) R s := by
  have hK := g.K
  have X := W.X.keeps base
  have xc : XCls W.K 69 := by rw [hK]; exact xcls69 _
  have hlim : s.heap.NoLimit := W.T.nolimit.keeps base
  have S := xsup59 W.w.params
  have look : ∀ {a : Addr} {o : Obj}, (KP W.w.params).lookup a = some o → W.K.lookup a = some o := fun h => (congrArg (fun K : Frag => K.lookup _) hK).trans h
  refine ks_codeAny_call_defAt (fd := fxc (KP W.w.params) 59 47) (binds := [("self", .ref x), ("what", what), ("spot", spot)]) (by omega) (X _ _ (look S.look)) rfl hlim (codeRec_of X (by rw [hK]; exact fcode59 _)) rfl (by with_reducible exact BindsTo.of_eq (fbind59 _ _ _ _)) (noCell_of (nc59 _)) (areLoc_of (lc59 _)) (fun h₁ hns hk₁ => ?_) (by kernel_rfl) (by kernel_rfl) (by kernel_rfl)
  have F : Fr s.heap s.heap.objs.size h₁ _ := ⟨hns, hk₁, Nat.le_refl _⟩
  have T := W.T.keeps base
  have I₁ : InstAt h₁ x (xObj 69 tp none) 69 none := ⟨hk₁ _ _ hx, rfl, rfl, trivial⟩
  refine ks_wpAt_execs_cons (ks_wpAt_Expr_any (ks_wpAt_MethodCall ?_))
  obtain ⟨cd, hcd, hcd'⟩ := any_some xc.cd
  simp only [Bool.and_eq_true, beq_iff_eq] at hcd'
  obtain ⟨⟨hdict, htail⟩, hdrop⟩ := hcd'
  refine ks_node (s := { s with heap := h₁, toks := s.toks + 3 }) (cda := 58) (ar := arOf (KP W.w.params) 59) F X News.nil T (look S.look) S.ar (by rw [S.self]; rfl) I₁ (look S.code) S.file g.file (look S.cell) (by rw [hK]; exact S.cls) xc.self (by rw [hK]; exact S.sup) (by decide) ?a12 ?a13 ?a14 ?a15 g.top ?a17 fun so h₂ F₂ N₂ l₂ => ?_
  case a12 => kernel_rfl
  case a13 => kernel_rfl
  case a14 => rw [S.self]; kernel_rfl
  case a15 => kernel_rfl
  case a17 => kernel_rfl
  have I₂ : InstAt h₂ x (xObj 69 tp none) 69 none := ⟨F₂.keep _ _ hx, rfl, rfl, trivial⟩
  refine ks_method (s := { s with heap := h₂, toks := s.toks + 3 }) (f2 := 30) (ox := xObj 69 tp none) (odx := none) F₂ X N₂ (.head _) I₂ (by rw [hK]; exact S.opq) (by rw [hK]; kernel_rfl) (by rw [hK]; kernel_rfl) (by decide) fun qa h₃ F₃ N₃ l₃ => ?_
  have hm : h₃.get? qa = some (methodObj (.ref 30) (.ref x)) := (N₃ _ (.head _)).1
  have X₃ := X.keeps F₃.keep
  refine callWith_of (P := fun h => MethP W.K qa 30 (.ref x) h) rfl (keeps_M (by rw [hK]; kernel_rfl)) (evalArgs_plain (spliced_cons (xname (s := { s with heap := h₃, toks := s.toks + 3 + 1 }) (by kernel_rfl) (by kernel_rfl) F₃.ns rfl (spliced_nil ⟨⟨hm, X₃⟩, ?_⟩) (by decide))))
  refine wpAny_call (ks_codeAny_call_bound hm ?_)
  have hx₃ : h₃.get? x = some (xObj 69 tp none) := F₃.keep _ _ hx
  refine r_init30 (s := { s with heap := h₃, toks := s.toks + 3 + 1 }) g xc (fun b o e => F₃.keep b o (base b o e)) hxn hx₃ (by rw [deeper_depth]; exact room) fun h₄ tk tp' dx l n k1 k2 k3 k4 k5 k6 => ?_
  have hLx : x ≠ s.heap.objs.size := Nat.ne_of_lt (Heap.lt_size hx)
  have ns₄ : h₄.Ns s.heap.objs.size _ := let ⟨o, es, ep, e, r⟩ := F₃.ns; ⟨o, es, ep, k1 _ _ e (Ne.symm hLx), r⟩
  have base₄ : W.K.In h₄ := fun b o e => k1 b o (X₃ b o e) (fun z => by have := W.X b o e; rw [z, hxn] at this; cases this)
  refine ks_wpAt_execs_cons (ks_wpAt_Assign_Attr (wpAt_of_wpAny (xname (by kernel_rfl) (by kernel_rfl) ns₄ rfl (xname (by kernel_rfl) (by kernel_rfl) ns₄ rfl ?_ (by decide)) (by decide))) (by kernel_rfl))
  refine xset_next (x := x) base₄ k2 k4 k5 (by omega) hcd hdict htail xc.set xc.spot fun h' j1 j2 => ?_
  refine wpAt_of_wpAny (wpAny_execs_nil ?_)
  have hdn : s.heap.get? dx = none := none_back (fun b o e => ⟨o, F₃.keep b o e⟩) k3
  have hxd : x ≠ dx := fun z => by rw [← z, hx] at hdn; cases hdn
  refine q h' _ tp' dx _ _ (fun b o e hb => j1 b o (k1 b o (F₃.keep b o e) hb) fun z => by rw [z, hdn] at e; cases e) (j1 _ _ k2 hxd) hdn j2 (getL_putL _ _ _ _ _)
end
end Mine
end
section
open PySem PySem.W PyProof.Rows PySem.Spec PySem.Calls PySem.Builtin.Str
set_option Elab.async false
set_option maxRecDepth 100000
set_option autoImplicit false
set_option maxHeartbeats 1000000
namespace Mine

noncomputable def clsX : Xc → Addr | .limit => 93 | .text _ => 69

section
variable {M : Model} {A : Around} {E : Value → Shared → Prop} {s : Shared} {env : Env} {K : Frag} {C : Addr}
theorem xraise {x : Sem Value} {Q : Flow → Shared → Prop} (hh : A.handled = none)
    (h : wpAny M A x (fun v s₁ => ∃ ea tp dx, v = .ref ea ∧ s₁.heap.get? C = some (excAt K C) ∧ s₁.heap.get? ea = some (xObj C tp dx) ∧ E (.ref ea) s₁) E s) :
    wpAny M A (raiseStmt env (some x) none) Q E s := by
  have hcB : (Value.ref C :: xbmL).contains (.type "BaseException") = true := by rw [List.contains_cons]; simp [xbmL]
  unfold raiseStmt
  refine wpAny_bind (wpAny_mono h (fun v s₁ h₁ => ?_) fun _ _ x => x)
  obtain ⟨e, t, dx, rfl, hC, he, hE⟩ := h₁
  obtain ⟨hp, g, d, tk, os⟩ := s₁
  repeat (first | with_reducible refine wpAny_loadPart_at he ?_ | with_reducible refine wpAny_loadPart_at hC ?_ | (with_reducible refine wpAny_isSubtype_exc hC ?_; rw [hcB]) | wp_step)
  exact wpAny_raiseNew_none hh hE
end
section
variable {W : Wd} {A : Around} {s : Shared} {E : Value → Shared → Prop} {Q : Value → Shared → Prop}

theorem fresh_tup {H : Heap} {rest : List Value} {C : Addr} : ((H.push (xTup rest)).push (xObj C H.objs.size none)).get? (H.objs.size + 1) = some (xObj C H.objs.size none) := by heap_get
theorem fresh_keep {H : Heap} {rest : List Value} {C : Addr} : ∀ b o, H.get? b = some o → ((H.push (xTup rest)).push (xObj C H.objs.size none)).get? b = some o := fun b o e => Heap.get?_push_of_some _ (Heap.get?_push_of_some _ e)
theorem fresh_none (H : Heap) : H.get? (H.objs.size + 1) = none := Heap.get?_none_of_le (Nat.le_succ _)

theorem make_limit (g : Gd W) (base : W.hT.StaysIn s.heap) (room : A.depth + 3 < recursionLimit) {v : Value}
    (q : ∀ h' tk ea, (∀ b o, s.heap.get? b = some o → h'.get? b = some o) → ExR clsX s.heap h' .limit ea → (∃ tp dx, h'.get? ea = some (xObj 93 tp dx)) → Q (.ref ea) { s with heap := h', toks := tk }) : wpAny (model W.prog W.w) A (call (.ref 93) [v]) Q E s := by
  have X := W.X.keeps base
  have hK := g.K
  have xc : XCls W.K 93 := by rw [hK]; exact xcls93 _
  obtain ⟨H, gg, d, t, os⟩ := s
  dsimp only at base X q
  have b₁ : W.hT.StaysIn ((H.push (xTup [v])).push (xObj 93 H.objs.size none)) := fun b o e => fresh_keep b o (base b o e)
  have hn : W.hT.get? (H.objs.size + 1) = none := none_back (fun b o e => ⟨o, base b o e⟩) (fresh_none H)
  refine xcall xbm X (X _ _ xc.obj) (fI := 30) (by rw [hK]; kernel_rfl) (by rw [hK]; kernel_rfl) ?_ (by simp [sizeLine_eq])
  refine r_init30 (s := ⟨_, gg, d, t, os⟩) g xc b₁ hn fresh_tup (by rw [show (A.under _).depth = A.depth + 1 from rfl]; omega) fun h' tk tp' dx l n k1 k2 k3 k4 _ _ => ⟨rfl, q h' tk _ (fun b o e => k1 b o (fresh_keep b o e) fun z => by rw [z, fresh_none] at e; cases e) ?_ ⟨_, _, k2⟩⟩
  have hdx : H.get? dx = none := none_back (fun b o e => ⟨o, fresh_keep b o e⟩) k3
  exact ⟨fresh_none H, _, _, dx, l, n, _, k2, rfl, rfl, rfl, rfl, hdx, k4, trivial, .inl rfl⟩

theorem make_text (g : Gd W) (base : W.hT.StaysIn s.heap) (room : A.depth + 3 < recursionLimit) {v : Value} {i : Int} {u : Tok}
    (q : ∀ h' tk ea, (∀ b o, s.heap.get? b = some o → h'.get? b = some o) → ExR clsX s.heap h' (.text i) ea → (∃ tp dx, h'.get? ea = some (xObj 69 tp dx)) → Q (.ref ea) { s with heap := h', toks := tk }) : wpAny (model W.prog W.w) A (call (.ref 69) [v, .int i u]) Q E s := by
  have X := W.X.keeps base
  have hK := g.K
  have xc : XCls W.K 69 := by rw [hK]; exact xcls69 _
  obtain ⟨H, gg, d, t, os⟩ := s
  dsimp only at base X q
  have b₁ : W.hT.StaysIn ((H.push (xTup [v, .int i u])).push (xObj 69 H.objs.size none)) := fun b o e => fresh_keep b o (base b o e)
  have hn : W.hT.get? (H.objs.size + 1) = none := none_back (fun b o e => ⟨o, base b o e⟩) (fresh_none H)
  refine xcall xbm X (X _ _ xc.obj) (fI := 59) (by rw [hK]; kernel_rfl) (by rw [hK]; kernel_rfl) ?_ (by simp [sizeLine_eq])
  refine r_init59 (s := ⟨_, gg, d, t, os⟩) g b₁ hn fresh_tup (by rw [show (A.under _).depth = A.depth + 1 from rfl]; omega) fun h' tk tp' dx l n k1 k2 k3 k4 k5 => ⟨rfl, q h' tk _ (fun b o e => k1 b o (fresh_keep b o e) fun z => by rw [z, fresh_none] at e; cases e) ?_ ⟨_, _, k2⟩⟩
  have hdx : H.get? dx = none := none_back (fun b o e => ⟨o, fresh_keep b o e⟩) k3
  exact ⟨fresh_none H, _, _, dx, l, n, _, k2, rfl, rfl, rfl, rfl, hdx, k4, ⟨u, k5⟩, .inl rfl⟩
end

section
variable {W : Wd} {n : Nat} {e : Env} {tbl : List Str} {gv : Nat → V} {mv : Str → V} {O : V → List V → St → (V → St → Prop) → (Xc → St → Prop) → Prop}

theorem sndS_raise1 (g : Gd W) (hn : 4 ≤ n) {x : Str} {np cpos pos : Pos} {k : Nat} {y : Expr} {a : ME} (hf : ∀ loc, Snd W clsX n e tbl loc gv mv O (.Name x np) (.glob k)) (hv : gv k = .fn (.ref 93)) (hk : keepIn W.K (.ref 93) = true) (hy : ∀ loc, Snd W clsX n e tbl loc gv mv O y a) (hs : isStar y = false) :
    SndS W clsX n e tbl gv mv O (exec (.Raise (some (.Call (.Name x np) [y] [] cpos)) none pos) e) (.raise (.glob k) a none) := by
  refine ⟨?_⟩
  intro loc σ Q E q A fr s hid ak I
  rw [arm_exec_Raise]
  refine wpAny_bind (wpAny_standAt (xraise (K := W.K) (C := 93) ak.handled (wpAny_bind (wpAny_mono (Call_ (((hf loc).out σ (fun v σ' => v = .fn (.ref 93) ∧ σ' = σ) E ⟨hv, rfl⟩).then ak I (fun _ _ q => q.toSt I) fun v h₁ tk₁ hid₁ d σ₁ p I₁ r₁ q₁ => ?_)) (fun v s₃ h₃ => wpAny_bind (wpAny_standAt (wpAny_pure h₃))) fun _ _ x => x))))
  obtain ⟨rfl, rfl⟩ := q₁
  simp only [VR] at r₁
  subst r₁
  rw [starEach_cons hs]
  refine callWith_of (P := fun h => W.K.In h) rfl (keeps_K hk) (evalArgs_plain (spliced_cons (((hy loc).out _ (fun _ σ => E .limit σ) E q).then (s := { s with heap := h₁, toks := tk₁ }) ak I₁ (fun _ _ q => StE.lift (p.wider fun _ q => nomatch q) (q.toSt I₁)) fun v h₂ tk₂ hid₂ d σ₂ p₂ I₂ r₂ q₂ => spliced_nil ⟨W.X.keeps I₂.base, ?_⟩)))
  refine make_limit (s := { s with heap := h₂, toks := tk₂ }) g I₂.base (by have := ak.depth; omega) fun h' tk ea k1 ex hx => ?_
  have p3 : Post W (ownOf' e) h₂ hid₂ h' hid₂ σ₂ := grow_post' I₂.sr I₂.base k1
  have p12 : Post W (ownOf' e) s.heap hid h₂ hid₂ σ₂ := (p.trans p₂).wider fun _ q => nomatch q
  obtain ⟨tp, dx, hx⟩ := hx
  have xc : XCls W.K 93 := by rw [g.K]; exact xcls93 _
  exact ⟨ea, tp, dx, rfl, W.X.keeps p3.base _ _ xc.obj, hx, h', tk, hid₂, .limit, ea, loc, σ₂, rfl, p12.trans p3, I₂.post (grow_post' I₂.sr I₂.base k1), ex.early p12.evo.alive, rfl, q₂⟩

theorem sndS_raise2 (g : Gd W) (hn : 4 ≤ n) {x : Str} {np cpos pos : Pos} {k : Nat} {y z : Expr} {a b : ME} (hf : ∀ loc, Snd W clsX n e tbl loc gv mv O (.Name x np) (.glob k)) (hv : gv k = .fn (.ref 69)) (hk : keepIn W.K (.ref 69) = true) (hy : ∀ loc, Snd W clsX n e tbl loc gv mv O y a) (hs : isStar y = false)
    (hz : ∀ loc, Snd W clsX n e tbl loc gv mv O z b) (hsz : isStar z = false) : SndS W clsX n e tbl gv mv O (exec (.Raise (some (.Call (.Name x np) [y, z] [] cpos)) none pos) e) (.raise (.glob k) a (some b)) := by
  refine ⟨?_⟩
  intro loc σ Q E q A fr s hid ak I
  rw [arm_exec_Raise]
  refine wpAny_bind (wpAny_standAt (xraise (K := W.K) (C := 69) ak.handled (wpAny_bind (wpAny_mono (Call_ (((hf loc).out σ (fun v σ' => v = .fn (.ref 69) ∧ σ' = σ) E ⟨hv, rfl⟩).then ak I (fun _ _ q => q.toSt I) fun v h₁ tk₁ hid₁ d σ₁ p I₁ r₁ q₁ => ?_)) (fun v s₃ h₃ => wpAny_bind (wpAny_standAt (wpAny_pure h₃))) fun _ _ x => x))))
  obtain ⟨rfl, rfl⟩ := q₁
  simp only [VR] at r₁
  subst r₁
  rw [starEach_cons hs]
  refine callWith_of (P := fun h => W.K.In h) (by show ((false || (backTo cpos (starEach [z] e)).any (·.1)) || false) = false; rw [starEach_any (xs := [z]) fun y hy => by rw [List.mem_singleton.mp hy]; exact hsz]; rfl) (keeps_K hk) (evalArgs_plain (spliced_cons (((hy loc).out _ (fun _ σ => wpE gv mv O b loc σ (fun d σ => match d with
      | .int i => E (.text i) σ
      | _ => False) E) E q).then (s := { s with heap := h₁, toks := tk₁ }) ak I₁ (fun _ _ q => StE.lift (p.wider fun _ q => nomatch q) (q.toSt I₁)) fun v h₂ tk₂ hid₂ d σ₂ p₂ I₂ r₂ q₂ => ?_)))
  rw [starEach_cons hsz]
  refine spliced_cons (((hz loc).out _ _ E q₂).then (s := { s with heap := h₂, toks := tk₂ }) ak I₂ (fun _ _ q => StE.lift ((p.trans p₂).wider fun _ q => nomatch q) (q.toSt I₂)) fun v₃ h₃ tk₃ hid₃ d₃ σ₃ p₃ I₃ r₃ q₃ => spliced_nil ⟨W.X.keeps I₃.base, ?_⟩)
  cases d₃ <;> first | exact False.elim q₃ | skip
  · rename_i i
    simp only [VR] at r₃
    obtain ⟨u, rfl⟩ := r₃
    refine make_text (s := { s with heap := h₃, toks := tk₃ }) g I₃.base (by have := ak.depth; omega) fun h' tk ea k1 ex hx => ?_
    have p4 : Post W (ownOf' e) h₃ hid₃ h' hid₃ σ₃ := grow_post' I₃.sr I₃.base k1
    have p123 : Post W (ownOf' e) s.heap hid h₃ hid₃ σ₃ := ((p.trans p₂).trans p₃).wider fun _ q => nomatch q
    obtain ⟨tp, dx, hx⟩ := hx
    have xc : XCls W.K 69 := by rw [g.K]; exact xcls69 _
    exact ⟨ea, tp, dx, rfl, W.X.keeps p4.base _ _ xc.obj, hx, h', tk, hid₃, .text i, ea, loc, σ₃, rfl, p123.trans p4, I₃.post (grow_post' I₃.sr I₃.base k1), ex.early p123.evo.alive, rfl, q₃⟩

end
end Mine
end
section
set_option tactic.hygienic false
open PySem PySem.W PyProof.Rows PySem.Spec PySem.Calls PySem.Builtin.Str Builtin Builtin.ObjectAttr
set_option Elab.async false
set_option maxRecDepth 100000
set_option autoImplicit false
set_option maxHeartbeats 1000000
namespace Mine

theorem bga_bind (self : Value) : bindSpecial (.builtin "BaseException.__getattribute__") self = pure (.builtin "BaseException.__getattribute__", [self]) := PySem.F.attr_Exception.ga.bind self
theorem bga_plain : plainId "BaseException.__getattribute__" = true := PySem.F.attr_Exception.ga.plain
theorem bga_kind : builtinKind "BaseException.__getattribute__" = some .slot := by decide +kernel
theorem bga_split : splitId "BaseException.__getattribute__" = some ("BaseException", "__getattribute__") := by decide +kernel

section
variable {prog : Program} {w : World} {A : Around} {E : Value → Shared → Prop} {K : Frag} {x C : Addr} {ox : Obj} {l : List DictEntry} {n : Nat} {name : Str} {v : Value} {expr : Bool}
  {h : Heap} {g : Array GenState} {d : Drawn} {t : Nat} {os : OsState}

theorem xget {Q : Value → Shared → Prop} (X : K.In h) (I : InstAt h x ox C (some (dictOf l n))) (hga : findIn K (.ref C) "__getattribute__" = some (some (.builtin "BaseException.__getattribute__"))) (hgt : findIn K (.ref C) "__getattr__" = some none)
    (hb : mroIn K C (.type "BaseException") = some true) (hf : findObj K C (some (dictOf l n)) name = some (.value v)) (hh : handedIn v = true) (hq : Q v ⟨h, g, d, t + 1, os⟩) : wpAny (model prog w) A (getAttr (.ref x) name expr) Q E ⟨h, g, d, t, os⟩ := by
  have L0 := I.type (M := model prog w)
  have L1 := looks_findIn (M := model prog w) X hga
  have L2 := looks_findIn (M := model prog w) X hgt
  have L3 := looks_find (M := model prog w) X I hf
  have sub : Looks (model prog w) h (isInstance (.ref x) (.type "BaseException")) true := L0.andThen (looks_mroIn X hb)
  unfold getAttr getAttrBy
  refine wpAny_bind (wpAny_mkText (wpAny_holding (wpAny_bind (L0.at (wpAny_bind (L1.at ?_))))))
  have fin : wpAny (model prog w) A (getAttrByItsOwn (.ref x) (.str name t) (.ref C) (.builtin "BaseException.__getattribute__") true expr) Q E ⟨h, g, d, t + 1, os⟩ := by
    unfold getAttrByItsOwn hookBefore callGetattribute boundAndCalled
    refine wpAny_bind (L2.at ?_)
    have he : (expr && onTheHeap (Value.builtin "BaseException.__getattribute__")) = false := by cases expr <;> rfl
    rw [he]
    refine wpAny_bind (wpAny_attempt (wpAny_holding ?_))
    show wpAny _ _ (bindSpecial (.builtin "BaseException.__getattribute__") (.ref x) >>= _) _ _ _
    rw [bga_bind]
    refine wpAny_bind (wpAny_pure (wpAny_call ?_))
    refine codeAny_call_builtin bga_plain PySem.F.entry_bexc_ga (@check_slot (model prog w) _ _ ⟨h, g, d, t + 1, os⟩ "BaseException.__getattribute__" "BaseException" "__getattribute__" (.ref x) [.str name t] [] _ bga_kind bga_split sub (PySem.F.args_bexc_ga _ _) ?_)
    unfold Builtin.«object.__getattribute__»
    refine wpAny_bind (wpAny_pure (wpAny_bind (wpAny_pure (wpAny_bind (L0.at (wpAny_bind (L3.at ?_)))))))
    refine wpAny_pure ?_
    show wpAny _ _ (handedOut v) _ _ _
    rw [handedOut_of hh]; exact wpAny_pure hq
  exact fin
end

section
variable {M : Model} {A : Around} {E : Value → Shared → Prop} {s : Shared} {cls : Xc → Addr} {h₁ h : Heap} {Ls : List Addr} {xc : Xc} {ea : Addr}

theorem Landed.fly {Q : Unit → Shared → Prop} (l : Landed cls h₁ Ls xc ea h s.heap) (q : ∀ h'', Landed cls h₁ Ls xc ea h h'' → Q () { s with heap := h'' }) : wpAny M A (setFlight (.ref ea) none) Q E s := by
  obtain ⟨hn, oe, vs, dx, l', n, a0, e1, e2, e3, e4, e5, e6, e7, e8, e9⟩ := l.ex
  rcases e9 with e9 | ⟨T, oT, ts, t1, t2, t3, t4, t5, t6⟩
  · unfold setFlight
    refine wpAny_bind (wpAny_field e1 e3 e9 ?_)
    rw [if_neg (by decide)]
    exact wpAny_pure (q s.heap l)
  · have hsz3 : 3 < ts.size := (Array.getElem?_eq_some_iff.mp t6).1
    have other : ∀ b, b ≠ T → (s.heap.update T (Obj.mapFields (·.setIfInBounds 3 Value.none))).get? b = s.heap.get? b := fun b hb => Heap.get?_update_other _ _ (Ne.symm hb)
    refine wpAny_setFlight_none e1 e3 t1 t4 t5 hsz3 (q _ ⟨fun b o hb hnf => ?_, fun b o hb hbL hor => ?_, hn, oe, vs, dx, l', n, a0, (other ea (Ne.symm t3)).trans e1, e2, e3, e4, e5, e6, ?_, e8, .inr ⟨T, _, _, t1, t2, t3, Heap.get?_update_self _ t4 (Obj.isFreed_of_fields (Obj.data_mapFields t5 _)), Obj.data_mapFields t5 _, ?_⟩⟩)
    · obtain ⟨sl, e'⟩ := l.keep b o hb hnf
      refine ⟨sl, (other b fun z => ?_).trans e'⟩
      rw [z, t4] at e'; cases e'; exact hnf ts t5
    · have e' := l.same b o hb hbL hor
      refine (other b fun z => ?_).trans e'
      rcases hor with ⟨o₁, e⟩ | hnf
      · rw [z, t2] at e; cases e
      · rw [z, t4] at e'; cases e'; exact hnf ts t5
    · refine (other dx fun z => ?_).trans e7
      rw [z, t4] at e7; cases e7; cases t5
    · simp [hsz3]
end

section
variable {W : Wd} {cls : Xc → Addr} {e : Env} {tbl : List Str} {loc : Loc} {fr : List Env} {hid : List Addr} {σ : St} {h₁ h h' : Heap} {xc : Xc} {ea : Addr}

theorem Landed.inv (l : Landed cls h₁ (fr.filterMap (·.frame)) xc ea h h') (b₁ : W.hT.StaysIn h₁) (I : Inv W e tbl loc fr hid σ h) : Inv W e tbl loc fr hid σ h' where
  base := l.base b₁ I.base I.ff
  ff := by
    refine ⟨funFrames_of (fun b o eb hd => ?_) I.ff.ff, fun L hL => ?_⟩
    · obtain ⟨sl, e'⟩ := l.keep b o eb hd
      exact ⟨_, e', hd⟩
    · obtain ⟨hn, o, es, ep, eo, hd⟩ := I.ff.dict L hL
      obtain ⟨sl, e'⟩ := l.keep L o eo fun vs q => by rw [hd] at q; cases q
      exact ⟨hn, _, es, ep, e', hd⟩
  sr := l.sr I.sr I.ff
  kind := I.kind
  glob := I.glob
  bi := I.bi
  locs := by
    obtain ⟨m, ⟨o, es, ep, eo, hd, r⟩, hls⟩ := I.locs
    obtain ⟨sl, e'⟩ := l.keep _ o eo fun vs q => by rw [hd] at q; cases q
    refine ⟨m, ⟨_, es, ep, e', hd, r⟩, fun i x d ht hl => ?_⟩
    obtain ⟨v, na, r⟩ := hls i x d ht hl
    refine ⟨v, ?_, VR.seqk (l.seqk I.ff) (Ext.refl _ _) r⟩
    rcases na with ⟨h1, h2⟩ | ⟨h1, c, h2, o, eo, hd⟩
    · exact .inl ⟨h1, h2⟩
    · obtain ⟨sl, e'⟩ := l.keep c o eo fun vs q => by rw [hd] at q; cases q
      exact .inr ⟨h1, c, h2, _, e', hd⟩
  nd := I.nd
  own := I.own
  cells := fun c hc => by
    obtain ⟨v, o, eo, hd⟩ := I.cells c hc
    obtain ⟨sl, e'⟩ := l.keep c o eo fun vs q => by rw [hd] at q; cases q
    exact ⟨v, _, e', hd⟩

theorem name_glob {A : Around} {s : Shared} {Q E : Value → Shared → Prop} {x : Str} {pos : Pos} {v : Value} (I : Inv W e tbl loc fr hid σ s.heap) (hx : e.kindOf x = some .globalImplicit) (hv : nsIn W.K mainGlobals x = some (some v)) (hd : (x == ("__debug__" : Str)) = false) (q : Q v s) :
    wpAny (model W.prog W.w) A (eval (.Name x pos) e) Q E s := by
  have hns : s.heap.Ns e.globals W.mg := by rw [I.glob]; exact W.T.g.keeps I.base
  exact Name_function_global I.kind hx (loadGlobal_global hns (mg_of W.X W.T.g hv) q) hd

theorem xmatch {A : Around} {s : Shared} {C ea : Addr} {oe : Obj} {Q : Bool → Shared → Prop} {E : Value → Shared → Prop} (xc : XCls W.K C) (b : W.hT.StaysIn s.heap) (he : s.heap.get? ea = some oe) (hc : oe.cls = .ref C) (q : Q true s) : wpAny (model W.prog W.w) A (excMatches (.ref ea) (.ref C)) Q E s := by
  obtain ⟨hh, g, d, t, os⟩ := s
  exact wpAny_excMatches_sub_self (W.X.keeps b _ _ xc.obj) he hc (by simp [xbmL]) q

theorem Inv.setL (I : Inv W e tbl loc fr hid σ h) (hs : Heap.SameBut e.locals h h') (hn : ∃ m, h'.Ns e.locals m) : Inv W e tbl (fun _ => none) fr hid σ h' ∧ Post W (ownOf' e) h hid h' hid σ := by
  obtain ⟨m, hn⟩ := hn
  have ha : e.locals ∈ ownOf' e := .head _
  have hx : ∃ o, h'.get? e.locals = some o := let ⟨o, _, _, e', _⟩ := hn; ⟨o, e'⟩
  have p := set_post I ha hs hx
  refine ⟨⟨fun b o e' => p.base b o e', ff_set I.ff hs ?_ (fun _ => ?_), p.sr, I.kind, I.glob, I.bi, ⟨m, hn, fun _ _ _ _ hl => by cases hl⟩, I.nd, I.own, fun c hc => ?_⟩, p⟩
  · obtain ⟨o, es, ep, e', hd, _⟩ := hn
    exact ⟨o, e', fun vs q => by rw [hd] at q; cases q⟩
  · obtain ⟨o, es, ep, e', hd, _⟩ := hn
    exact ⟨o, es, ep, e', hd⟩
  · obtain ⟨u, o, e', hd⟩ := I.cells c hc
    have hne : c ≠ e.locals := fun z => (List.nodup_cons.mp I.nd).1 (z ▸ hc)
    exact ⟨u, o, (hs.2 c hne).trans e', hd⟩
end

section
variable {W : Wd} {n : Nat} {e : Env} {tbl : List Str} {gv : Nat → V} {mv : Str → V} {O : V → List V → St → (V → St → Prop) → (Xc → St → Prop) → Prop}

theorem Landed.post {cls : Xc → Addr} {fr : List Env} {hid hid' : List Addr} {loc : Loc} {σ : St} {h₁ h h' : Heap} {xc : Xc} {ea : Addr} (l : Landed cls h₁ (fr.filterMap (·.frame)) xc ea h h') (b₁ : W.hT.StaysIn h₁) (p : Post W (ownOf' e) h₁ hid h hid' σ) (I : Inv W e tbl loc fr hid' σ h) : Post W (ownOf' e) h₁ hid h' hid' σ :=
  ⟨l.evo p.evo I.ff, p.ext, l.sr I.sr I.ff, l.base b₁ I.base I.ff⟩

theorem stF_seq {cls : Xc → Addr} {st : Stmt} {rest : List Stmt} {a b : MS} (h : StF W cls n e tbl gv mv O (exec st e) a) (hr : SndS W cls n e tbl gv mv O (execs rest e) b) : StF W cls n e tbl gv mv O (execs (st :: rest) e) (.seq a b) := by
  refine ⟨?_⟩
  intro loc σ Q E q A outer s hid ak I
  refine wpAny_execs_cons (wpAny_mono (h.out loc σ _ E q A outer s hid ak I) (fun fl s' g => ?_) fun _ _ q => q)
  obtain ⟨h₁, tk₁, hid₁, f, loc₁, σ₁, rfl, p, I₁, r, q⟩ := g
  cases f with
  | next =>
    cases r
    exact wpAny_mono (hr.out loc₁ σ₁ Q E q A _ { s with heap := h₁, toks := tk₁ } hid₁ ak I₁) (fun _ _ q => StQ.lift p q) fun _ _ q => StE.lift p q
  | brk => cases r; exact ⟨h₁, tk₁, hid₁, .brk, loc₁, σ₁, rfl, p, I₁, rfl, q⟩
  | ret d => obtain ⟨v, rfl, r⟩ := r; exact ⟨h₁, tk₁, hid₁, .ret d, loc₁, σ₁, rfl, p, I₁, ⟨v, rfl, r⟩, q⟩

theorem stF_tryNone (g : Gd W) {L : Addr} {x : Str} {np rp hp pos cp : Pos} {ck : Nat} {body : List Stmt} {b : MS} (hf : e.frame = some L) (hx : e.kindOf x = some .globalImplicit) (hv : nsIn W.K mainGlobals x = some (some (.ref 93))) (hd : (x == ("__debug__" : Str)) = false)
    (hb : SndS W clsX n e tbl gv mv O (execs body e) b) : StF W clsX n e tbl gv mv O (exec (.Try body [.ExceptHandler (some (.Name x np)) none [.Return (some (.Constant .none ck cp)) rp] hp] [] [] pos) e) (.tryNone b) := by
  refine ⟨?_⟩
  intro loc σ Q E q A outer s hid ak I
  refine wpAny_Try_except (wpAny_mono (hb.out loc σ _ _ q A _ s hid ak I) (fun fl s' gg => ?_) fun ev s' gg => ?_)
  · obtain ⟨h₁, tk₁, hid₁, f, loc₁, σ₁, rfl, p, I₁, r, q⟩ := gg
    cases f with
    | next => exact q.elim
    | brk => exact q.elim
    | ret d => obtain ⟨v, rfl, r⟩ := r; exact ⟨h₁, tk₁, hid₁, .ret d, loc₁, σ₁, rfl, p, I₁, ⟨v, rfl, r⟩, q⟩
  · obtain ⟨h', tk', hid', xc, ea, loc', σ', rfl, p, I', r, rfl, q⟩ := gg
    refine note_land (s := { s with heap := h', toks := tk' }) ak.frames I'.ff.ff hf r (fun a ha => ?_) p.evo.alive fun h₂ ld => ?_
    · obtain ⟨_, o, _, _, e', _⟩ := I.ff.dict a ha
      exact ⟨o, e'⟩
    have I₂ := ld.inv I.base I'
    cases xc with
    | text i => exact q.elim
    | limit =>
      obtain ⟨hn, oe, vs, dx, l', m, a0, e1, e2, _, _, _, _, _, _, _⟩ := ld.ex
      have xk : XCls W.K 93 := by rw [g.K]; exact xcls93 _
      refine wpAny_handleBy_cons (codeAny_handlers_test (name_glob (s := { s with heap := h₂, toks := tk' }) I₂ hx hv hd (xmatch xk I₂.base e1 e2 ?_))) (by intro z; cases z)
      refine codeAny_handlers_suite (ld.fly (s := { s with heap := h₂, toks := tk' }) fun h₃ ld₃ => ?_)
      refine wpAny_execs_cons (wpAny_Return_some (wpAny_Constant_none ?_))
      exact ⟨h₃, tk', hid', .ret .none, fun _ => none, σ', rfl, ld₃.post I.base p I', (ld₃.inv I.base I').weaken (fun _ _ z => by cases z), ⟨.none, rfl, vr_none⟩, q⟩

theorem stF_trySpot (g : Gd W) {L : Addr} {x nm : Str} {i : Nat} {np rp hp pos p1 p2 : Pos} {body : List Stmt} {b : MS} (hf : e.frame = some L) (hx : e.kindOf x = some .globalImplicit) (hv : nsIn W.K mainGlobals x = some (some (.ref 69))) (hd : (x == ("__debug__" : Str)) = false)
    (pu : Put e tbl i nm) (hk : e.kindOf nm = some .local) (hdn : (nm == ("__debug__" : Str)) = false)
    (hb : SndS W clsX n e tbl gv mv O (execs body e) b) : StF W clsX n e tbl gv mv O (exec (.Try body [.ExceptHandler (some (.Name x np)) (some nm) [.Return (some (.Attribute (.Name nm p1) "spot" p2)) rp] hp] [] [] pos) e) (.trySpot b) := by
  refine ⟨?_⟩
  intro loc σ Q E q A outer s hid ak I
  refine wpAny_Try_except (wpAny_mono (hb.out loc σ _ _ q A _ s hid ak I) (fun fl s' gg => ?_) fun ev s' gg => ?_)
  · obtain ⟨h₁, tk₁, hid₁, f, loc₁, σ₁, rfl, p, I₁, r, q⟩ := gg
    cases f with
    | next => cases r; exact wpAny_execs_nil ⟨h₁, tk₁, hid₁, .next, loc₁, σ₁, rfl, p, I₁, rfl, q⟩
    | brk => cases r; exact ⟨h₁, tk₁, hid₁, .brk, loc₁, σ₁, rfl, p, I₁, rfl, q⟩
    | ret d => obtain ⟨v, rfl, r⟩ := r; exact ⟨h₁, tk₁, hid₁, .ret d, loc₁, σ₁, rfl, p, I₁, ⟨v, rfl, r⟩, q⟩
  · obtain ⟨h', tk', hid', xc, ea, loc', σ', rfl, p, I', r, rfl, q⟩ := gg
    refine note_land (s := { s with heap := h', toks := tk' }) ak.frames I'.ff.ff hf r (fun a ha => ?_) p.evo.alive fun h₂ ld => ?_
    · obtain ⟨_, o, _, _, e', _⟩ := I.ff.dict a ha
      exact ⟨o, e'⟩
    have I₂ := ld.inv I.base I'
    cases xc with
    | limit => exact q.elim
    | text spot =>
      have hK := g.K
      have xk : XCls W.K 69 := by rw [hK]; exact xcls69 _
      refine wpAny_handleBy_cons (codeAny_handlers_test (name_glob (s := { s with heap := h₂, toks := tk' }) I₂ hx hv hd ?_)) (by intro z; cases z)
      · obtain ⟨hn, oe, vs, dx, l', m, a0, e1, e2, _, _, _, _, _, _, _⟩ := ld.ex
        refine xmatch xk I₂.base e1 e2 ?_
        refine codeAny_handlers_suite_as (ld.fly (s := { s with heap := h₂, toks := tk' }) fun h₃ ld₃ => ?_)
        have I₃ := ld₃.inv I.base I'
        obtain ⟨hn₃, oe, vs, dx, l', m, a0, e1, e2, e3, e4, e5, e6, e7, ⟨u, e8⟩, e9⟩ := ld₃.ex
        have hloc : ∃ o, s.heap.get? e.locals = some o := by
          obtain ⟨_, ⟨o, _, _, eo, _⟩, _⟩ := I.locs
          exact ⟨o, eo⟩
        have heL : ea ≠ e.locals := fun z => by obtain ⟨o, eo⟩ := hloc; rw [← z, hn₃] at eo; cases eo
        have hdL : dx ≠ e.locals := fun z => by obtain ⟨o, eo⟩ := hloc; rw [← z, e6] at eo; cases eo
        refine store_local (s := { s with heap := h₃, toks := tk' }) (d := .fn (.ref ea)) pu.tx pu.ux hk I₃ (by rw [VR]) fun h₄ tk₄ hs₄ hn₄ I₄ => ?_
        have P₄ := (I₃.setL hs₄ hn₄).2
        refine wpAny_execs_cons (wpAny_Return_some (Attribute_any_ ?_ (by rfl)))
        obtain ⟨m₄, hm₄, hl₄⟩ := I₄.locs
        obtain ⟨v, na, rv⟩ := hl₄ i nm _ pu.tx (by unfold upd; rw [if_pos rfl])
        have rv : v = .ref ea := by simpa only [VR] using rv
        subst rv
        have hmv : m₄ nm = some (.ref ea) := by
          rcases na with ⟨_, h⟩ | ⟨h, _⟩
          · exact h
          · rw [hk] at h; rcases h with h | h <;> cases h
        refine xname (s := { s with heap := h₄, toks := tk₄ }) I.kind hk hm₄ hmv ?_ hdn
        have IA : InstAt h₄ ea oe 69 (some (PySem.W.dictOf l' m)) := by
          refine ⟨(hs₄.2 ea heL).trans e1, e2, ?_, ?_⟩
          · unfold notCls; rw [e3]
          · rw [e5]; exact (hs₄.2 dx hdL).trans e7
        refine xget (W.X.keeps I₄.base) IA (by rw [hK]; kernel_rfl) (by rw [hK]; kernel_rfl) xk.base (findObj_own (attr := none) (by rw [hK]; kernel_rfl) (by rw [hK]; kernel_rfl) rfl e8) rfl ?_
        refine wpAny_nameGoes hk hm₄ (by rw [I.kind]; rfl) fun h₅ m₅ hn₅ hs₅ => ?_
        obtain ⟨I₅, P₅⟩ := I₄.setL hs₅ ⟨m₅, hn₅⟩
        exact ⟨h₅, _, hid', .ret (.int spot), fun _ => none, σ', rfl, ((ld₃.post I.base p I').trans P₄).trans P₅, I₅, ⟨_, rfl, vr_int⟩, q⟩
end
end Mine
end
section
set_option tactic.hygienic false
open PySem PySem.W PyProof.Rows PySem.Spec PySem.Calls PySem.Builtin.Str
set_option Elab.async false
set_option maxRecDepth 100000
set_option autoImplicit false
set_option maxHeartbeats 1000000
namespace Mine
section
variable {W : Wd} {cls : Xc → Addr}

theorem callW_new {m : Nat} {fI : Addr} {args : List V} {σ : St} {Q : V → St → Prop} {E : Xc → St → Prop} (hm : makesIn W.K W.C = true) (hi : findIn W.K (.ref W.C) "__init__" = some (some (.ref fI))) (hf : typeIn W.K (.ref fI) = some (.type "function"))
    (h : CodeW W cls m (.ref fI) (.obj (σ.length + 1) :: args) (σ ++ [.dict []] ++ [.inst σ.length]) (fun d σ' => d = .none ∧ Q (.obj (σ.length + 1)) σ') E) : CallW W cls (m + 1) (.ref W.C) args σ Q E := by
  intro A fr s hid vs ak base ff sr rs
  have X := W.X.keeps base
  obtain ⟨H, g, d, t, os⟩ := s
  dsimp only at base ff sr rs X
  refine wpAny_call (make_core (makes_of X hm) (looks_findIn X hi) (fun self => bind_fn X self hf) (.inl rfl) ?_)
  have p1 : Post W [] H hid (H.push emptyDict) (hid ++ [H.objs.size]) (σ ++ [.dict []]) :=
    join_post sr base (fun _ _ e => Heap.get?_push_of_some _ e) get?_size ⟨[], 0, Heap.get?_push_size _ rfl, trivial⟩
  have hsz : (H.push emptyDict).objs.size = H.objs.size + 1 := by rw [Heap.size_push]
  have hdx : (hid ++ [H.objs.size])[σ.length]? = some H.objs.size := by rw [← sr.len, List.getElem?_append_right (Nat.le_refl _), Nat.sub_self]; rfl
  have p2 : Post W [] (H.push emptyDict) (hid ++ [H.objs.size]) ((H.push emptyDict).push (instObj W.C H.objs.size)) (hid ++ [H.objs.size] ++ [H.objs.size + 1]) (σ ++ [.dict []] ++ [.inst σ.length]) := by
    refine join_post p1.sr p1.base (fun _ _ e => Heap.get?_push_of_some _ e) (hsz ▸ get?_size) ⟨H.objs.size, ?_, ?_⟩
    · rw [List.getElem?_append_left (by rw [List.length_append, sr.len]; simp)]; exact hdx
    · exact Heap.get?_push_at (by rw [hsz]) rfl
  have p := p1.trans p2
  have hx : (hid ++ [H.objs.size] ++ [H.objs.size + 1])[σ.length + 1]? = some (H.objs.size + 1) := by
    rw [List.getElem?_append_right (by rw [List.length_append, sr.len]; simp), List.length_append, sr.len]
    simp
  refine codeAny_mono (h (A.under (.builtin "type.__call__" ⟨.ref W.C :: vs, []⟩)) fr ⟨_, g, d, t, os⟩ _ (.ref (H.objs.size + 1) :: vs) ⟨ak.frames, ak.handled, ?_, ?_⟩ p.base (ff_post ff p) p.sr (VRs.cons ?_ (VRs.evo (own := []) p.evo (fun _ q => nomatch q) p.ext rs))) fun r s' z => ?_
  · have := ak.depth
    rw [show (A.under (.builtin "type.__call__" ⟨.ref W.C :: vs, []⟩)).depth = A.depth + 1 from rfl]; omega
  · have := ak.units
    rw [show (A.under (.builtin "type.__call__" ⟨.ref W.C :: vs, []⟩)).units = A.units + 1 from rfl]; omega
  · rw [VR]; exact ⟨_, rfl, hx⟩
  · cases r with
    | error e => exact ErQ.lift (s := ⟨H, g, d, t, os⟩) p z
    | ok f =>
      cases f with
      | ret v =>
        obtain ⟨h', tk, hid', dd, σ', rfl, p', r, rfl, q⟩ := z
        refine ⟨by simpa only [VR] using r, h', tk, hid', .obj (σ.length + 1), σ', rfl, p.trans p', ?_, q⟩
        rw [VR]; exact ⟨_, rfl, p'.ext.get hx⟩
      | _ => exact z.elim
end
end Mine
end
section
set_option tactic.hygienic false
open PySem PySem.W PyProof.Rows PySem.Spec PySem.Calls PySem.Builtin.Str
set_option Elab.async false
set_option maxRecDepth 100000
set_option autoImplicit false
set_option maxHeartbeats 4000000
namespace Mine
section
variable {W : Wd} {cls : Xc → Addr} {n n₀ : Nat}
theorem k_LimitFault (hK : W.K = KP W.w.params) : keepIn W.K (.ref 93) = true := by rw [hK]; kernel_rfl
theorem k_TextFault (hK : W.K = KP W.w.params) : keepIn W.K (.ref 69) = true := by rw [hK]; kernel_rfl
noncomputable def b_192 : MS := (.seq (.asg 2 (.int 0)) (.seq (.whl (.not (.call1 (.glob 13) (.loc 0))) (.seq (.asg 3 (.call1 (.glob 12) (.loc 0))) (.seq (.ite (.cmp .Is (.loc 3) .none) (.seq (.ret (.loc 0)) .nil) .nil) (.seq (.ite (.cmp .Eq (.loc 2) (.loc 1)) (.seq .brk .nil) .nil) (.seq (.unp2 0 2 (.tup2 (.call2 (.glob 11) (.loc 0) (.loc 3)) (.bin .Add (.loc 2) (.int 1)))) .nil))))) (.seq (.raise (.glob 37) (.str "no normal form within what is let") none) .nil)))
noncomputable abbrev t_192 : List Str := ["t", "most", "many", "path"]
theorem s_192 (g : Gd W) (h4 : 4 ≤ n) (hn : n₀ ≤ n) (L : Addr) : SndS W clsX n (eF W.w.params 192 L) t_192 GV MV (Orc W clsX n₀) (execs (bodyAt (KP W.w.params) 192) (eF W.w.params 192 L)) b_192 := by
  have hK := g.K
  have hC := g.C
  refine (sndS_seq (sndS_asg' (put_loc (i := 2) ?_ ?_ ?_) (fun loc => snd_int) ?_) (sndS_seq (sndS_whl (fun loc => (sndT_not (sndT_plain (snd_call1 hn (snd_glob (k := 13) ?_ (g_is_beyond hK) (v_is_beyond hK) ?_) (gv_is_beyond) (k_is_beyond hK) (snd_loc (i := 0) ?_ ?_ ?_) ?_) fun _ => rfl))) (sndS_seq (sndS_asg' (put_loc (i := 3) ?_ ?_ ?_) (fun loc => (snd_call1 hn (snd_glob (k := 12) ?_ (g_first_redex hK) (v_first_redex hK) ?_) (gv_first_redex) (k_first_redex hK) (snd_loc (i := 0) ?_ ?_ ?_) ?_)) ?_) (sndS_seq (sndS_ite (fun loc => (sndT_cmp (snd_loc (i := 3) ?_ ?_ ?_) snd_none ?_)) (sndS_seq (sndS_ret fun loc => (snd_loc (i := 0) ?_ ?_ ?_)) sndS_nil) sndS_nil) (sndS_seq (sndS_ite (fun loc => (sndT_cmp (snd_loc (i := 2) ?_ ?_ ?_) (snd_loc (i := 1) ?_ ?_ ?_) ?_)) (sndS_seq sndS_brk sndS_nil) sndS_nil) (sndS_seq (sndS_unp2w (put_loc (i := 0) ?_ ?_ ?_) (put_loc (i := 2) ?_ ?_ ?_) (by decide) (fun loc => (snd_tup2 (snd_call2 hn (snd_glob (k := 11) ?_ (g_beta hK) (v_beta hK) ?_) (gv_beta) (k_beta hK) (snd_loc (i := 0) ?_ ?_ ?_) ?_ (snd_loc (i := 3) ?_ ?_ ?_) ?_) ?_ (snd_bin (snd_loc (i := 2) ?_ ?_ ?_) snd_int) ?_)) ?_ ?_) sndS_nil))))) (sndS_seq (sndS_raise1 g h4 (fun loc => (snd_glob (k := 37) ?_ (g_LimitFault hK) (v_LimitFault hK) ?_)) gv_LimitFault (k_LimitFault hK) (fun loc => snd_str) ?_) sndS_nil)))
  all_goals kernel_rfl


noncomputable def b_255 : MS := (.seq (.asg 1 (.meth0 (.loc 0) "name")) (.seq (.forr 2 (.range (.len (.attr (.loc 0) "around"))) (.seq (.ite (.cmp .Eq (.idx (.attr (.loc 0) "around") (.bin .Sub (.bin .Sub (.len (.attr (.loc 0) "around")) (.int 1)) (.loc 2))) (.loc 1)) (.seq (.ret (.call1 (.glob 5) (.loc 2))) .nil) .nil) .nil)) (.seq (.ite (.cmp .GtE (.call2 (.glob 3) (.loc 1) (.str "var")) (.int 0)) (.seq (.raise (.glob 38) (.fmt Str.empty (.loc 1) " is called like a variable") (some (.bin .Sub (.attr (.loc 0) "spot") (.len (.loc 1))))) .nil) .nil) (.seq (.asg 3 (.call2 (.glob 3) (.loc 1) (.str "y"))) (.seq (.ret (.ite (.cmp .Lt (.loc 3) (.int 0)) (.tup1 (.loc 1)) (.call1 (.glob 5) (.bin .Add (.loc 3) (.len (.attr (.loc 0) "around")))))) .nil)))))
noncomputable abbrev t_255 : List Str := ["self", "name", "index", "free"]
theorem s_255 (g : Gd W) (h4 : 4 ≤ n) (hn : n₀ ≤ n) (L : Addr) : SndS W clsX n (eF W.w.params 255 L) t_255 GV MV (Orc W clsX n₀) (execs (bodyAt (KP W.w.params) 255) (eF W.w.params 255 L)) b_255 := by
  have hK := g.K
  have hC := g.C
  have b_len : Boot W (eF W.w.params 255 L) "len" (.builtin "len") := boot_len hK (by kernel_rfl)
  have b_range : Boot W (eF W.w.params 255 L) "range" (.type "range") := boot_range hK (by kernel_rfl)
  refine (sndS_seq (sndS_asg' (put_loc (i := 1) ?_ ?_ ?_) (fun loc => (snd_meth0 hn (snd_loc (i := 0) ?_ ?_ ?_) (m_name hK hC).1 (m_name hK hC).2.1 (m_name hK hC).2.2 mv_name rfl)) ?_) (sndS_seq (sndS_for' (put_loc (i := 2) ?_ ?_ ?_) (fun _ => rfl) (fun loc => (sndI_range b_range (snd_len b_len (snd_attr (snd_loc (i := 0) ?_ ?_ ?_) (at_around hK hC).1 (at_around hK hC).2 rfl) ?_) ?_)) (sndS_seq (sndS_ite (fun loc => (sndT_cmp (snd_idx (snd_attr (snd_loc (i := 0) ?_ ?_ ?_) (at_around hK hC).1 (at_around hK hC).2 rfl) (snd_bin (snd_bin (snd_len b_len (snd_attr (snd_loc (i := 0) ?_ ?_ ?_) (at_around hK hC).1 (at_around hK hC).2 rfl) ?_) snd_int) (snd_loc (i := 2) ?_ ?_ ?_)) ?_) (snd_loc (i := 1) ?_ ?_ ?_) ?_)) (sndS_seq (sndS_ret fun loc => (snd_call1 hn (snd_glob (k := 5) ?_ (g_variable hK) (v_variable hK) ?_) (gv_variable) (k_variable hK) (snd_loc (i := 2) ?_ ?_ ?_) ?_)) sndS_nil) sndS_nil) sndS_nil)) (sndS_seq (sndS_ite (fun loc => (sndT_cmp (snd_call2 hn (snd_glob (k := 3) ?_ (g_number_behind hK) (v_number_behind hK) ?_) (gv_number_behind) (k_number_behind hK) (snd_loc (i := 1) ?_ ?_ ?_) ?_ snd_str ?_) snd_int ?_)) (sndS_seq (sndS_raise2 g h4 (fun loc => (snd_glob (k := 38) ?_ (g_TextFault hK) (v_TextFault hK) ?_)) gv_TextFault (k_TextFault hK) (fun loc => (snd_fmt1 (snd_loc (i := 1) ?_ ?_ ?_))) ?_ (fun loc => (snd_bin (snd_attr (snd_loc (i := 0) ?_ ?_ ?_) (at_spot hK hC).1 (at_spot hK hC).2 rfl) (snd_len b_len (snd_loc (i := 1) ?_ ?_ ?_) ?_))) ?_) sndS_nil) sndS_nil) (sndS_seq (sndS_asg' (put_loc (i := 3) ?_ ?_ ?_) (fun loc => (snd_call2 hn (snd_glob (k := 3) ?_ (g_number_behind hK) (v_number_behind hK) ?_) (gv_number_behind) (k_number_behind hK) (snd_loc (i := 1) ?_ ?_ ?_) ?_ snd_str ?_)) ?_) (sndS_seq (sndS_ret fun loc => (snd_ite (sndT_cmp (snd_loc (i := 3) ?_ ?_ ?_) snd_int ?_) (snd_tup1 (snd_loc (i := 1) ?_ ?_ ?_) ?_) (snd_call1 hn (snd_glob (k := 5) ?_ (g_variable hK) (v_variable hK) ?_) (gv_variable) (k_variable hK) (snd_bin (snd_loc (i := 3) ?_ ?_ ?_) (snd_len b_len (snd_attr (snd_loc (i := 0) ?_ ?_ ?_) (at_around hK hC).1 (at_around hK hC).2 rfl) ?_)) ?_))) sndS_nil)))))
  all_goals kernel_rfl


noncomputable def b_341 : MS := (.seq (.tryNone (.seq (.ret (.call3 (.glob 15) (.loc 0) (.loc 1) (.loc 2))) .nil)) .nil)
noncomputable abbrev t_341 : List Str := ["one", "other", "most"]
theorem s_341 (g : Gd W) (hn : n₀ ≤ n) (L : Addr) : StF W clsX n (eF W.w.params 341 L) t_341 GV MV (Orc W clsX n₀) (execs (bodyAt (KP W.w.params) 341) (eF W.w.params 341 L)) b_341 := by
  have hK := g.K
  have hC := g.C
  refine (stF_seq (stF_tryNone (L := L) g ?_ ?_ (g_LimitFault hK) ?_ (sndS_seq (sndS_ret fun loc => (snd_call3 hn (snd_glob (k := 15) ?_ (g_alike_to hK) (v_alike_to hK) ?_) (gv_alike_to) (k_alike_to hK) (snd_loc (i := 0) ?_ ?_ ?_) ?_ (snd_loc (i := 1) ?_ ?_ ?_) ?_ (snd_loc (i := 2) ?_ ?_ ?_) ?_)) sndS_nil)) sndS_nil)
  all_goals kernel_rfl


noncomputable def b_348 : MS := (.seq (.trySpot (.seq (.expr (.call1 (.glob 19) (.loc 0))) .nil)) (.seq (.ret (.neg (.int 1))) .nil))
noncomputable abbrev t_348 : List Str := ["text", "fault"]
theorem s_348 (g : Gd W) (hn : n₀ ≤ n) (L : Addr) : StF W clsX n (eF W.w.params 348 L) t_348 GV MV (Orc W clsX n₀) (execs (bodyAt (KP W.w.params) 348) (eF W.w.params 348 L)) b_348 := by
  have hK := g.K
  have hC := g.C
  refine (stF_seq (stF_trySpot (L := L) g ?_ ?_ (g_TextFault hK) ?_ (put_loc (i := 1) ?_ ?_ ?_) ?_ ?_ (sndS_seq (sndS_expr (fun loc => (snd_call1 hn (snd_glob (k := 19) ?_ (g_of_names hK) (v_of_names hK) ?_) (gv_of_names) (k_of_names hK) (snd_loc (i := 0) ?_ ?_ ?_) ?_)) ?_ ?_) sndS_nil)) (sndS_seq (sndS_ret fun loc => (snd_neg snd_int)) sndS_nil))
  all_goals kernel_rfl


noncomputable def b_353 : MS := (.seq (.asg 1 (.hand (.comp 15 [] (.bin .Mod (.intOf (.loc 15)) (.int 5040)) (.take (.loc 0) 60) (.bool true)) (.int 0))) (.seq (.asg 2 (.call4 (.glob 21) (.loc 1) (.lst0) (.int 4) (.bool false))) (.seq (.unp2 3 4 (.tup2 (.call2 (.glob 23) (.loc 2) (.lst0)) (.call1 (.glob 25) (.loc 2)))) (.seq (.unp2 5 6 (.call2 (.glob 26) (.loc 1) (.loc 4))) (.seq (.asg 7 (.call2 (.glob 24) (.loc 2) (.lst0))) (.seq (.ite (.or (.cmp .NotEq (.call1 (.glob 19) (.loc 5)) (.loc 3)) (.or (.cmp .NotEq (.call1 (.glob 17) (.loc 3)) (.loc 7)) (.cmp .NotEq (.call1 (.glob 19) (.loc 7)) (.loc 3)))) (.seq (.ret (.bool false)) .nil) .nil) (.seq (.asg 8 (.comp 16 [4] (.loc 16) (.range (.len (.loc 4))) (.and (.isalnum (.idx (.idx (.loc 4) (.loc 16)) (.int 0))) (.or (.cmp .Eq (.loc 16) (.int 0)) (.cmp .NotEq (.idx (.loc 4) (.bin .Sub (.loc 16) (.int 1))) (.str "\\")))))) (.seq (.asg 9 (.idx (.loc 8) (.call2 (.glob 20) (.loc 1) (.len (.loc 8))))) (.seq (.asg 10 (.bin .Add (.idx (.loc 6) (.loc 9)) (.len (.idx (.loc 4) (.loc 9))))) (.seq (.ite (.cmp .NotEq (.call1 (.glob 29) (.bin .Add (.bin .Add (.slc (.loc 5) .none (.idx (.loc 6) (.loc 9))) (.str "var2")) (.slc (.loc 5) (.loc 10) .none))) (.idx (.loc 6) (.loc 9))) (.seq (.ret (.bool false)) .nil) .nil) (.seq (.unp2 11 12 (.tup2 (.call2 (.glob 20) (.loc 1) (.int 3)) (.loc 2))) (.seq (.forr 13 (.range (.loc 11)) (.seq (.asg 12 (.call2 (.glob 27) (.loc 1) (.loc 12))) .nil)) (.seq (.asg 14 (.call2 (.glob 23) (.call4 (.glob 21) (.loc 1) (.lst0) (.int 3) (.bool false)) (.lst0))) (.seq (.ite (.or (.cmp .IsNot (.call3 (.glob 28) (.call2 (.glob 23) (.loc 12) (.lst0)) (.loc 3) (.loc 11)) (.bool true)) (.cmp .NotEq (.call3 (.glob 28) (.loc 3) (.loc 14) (.int 0)) (.cmp .Eq (.loc 3) (.loc 14)))) (.seq (.ret (.bool false)) .nil) .nil) (.seq (.ret (.or (.cmp .Eq (.loc 11) (.int 0)) (.cmp .Is (.call3 (.glob 28) (.loc 3) (.call2 (.glob 23) (.loc 12) (.lst0)) (.bin .Sub (.loc 11) (.int 1))) .none))) .nil)))))))))))))))
noncomputable abbrev t_353 : List Str := ["script", "hand", "tree", "core", "words", "text", "spots", "due", "used", "place", "end", "laps", "whole", "lap", "late", "cell", "k"]
theorem s_353 (hK : W.K = KP W.w.params) (hC : W.C = 265) (hn : n₀ ≤ n) (L : Addr) : SndS W cls n (eF W.w.params 353 L) t_353 GV MV (Orc W cls n₀) (execs (bodyAt (KP W.w.params) 353) (eF W.w.params 353 L)) b_353 := by
  have b_len : Boot W (eF W.w.params 353 L) "len" (.builtin "len") := boot_len hK (by kernel_rfl)
  have b_range : Boot W (eF W.w.params 353 L) "range" (.type "range") := boot_range hK (by kernel_rfl)
  refine (sndS_seq (sndS_asg' (put_loc (i := 1) ?_ ?_ ?_) (fun loc => (snd_hand (snd_comp (i := 15) (vis := []) (compOk_of ?_ ?_ ?_ ?_ ?_ ?_ ?_ ?_ ?_ ?_) (fun _ => rfl) (sndI_of (snd_take (snd_loc (i := 0) ?_ ?_ ?_)) (by intro b hb; cases hb)) (fun C loc => sndF_nil) (fun C loc => (snd_bin (snd_intOf (boot_int hK ?_) (snd_loc (i := 15) ?_ ?_ ?_) ?_) snd_int))) snd_int)) ?_) (sndS_seq (sndS_asg' (put_loc (i := 2) ?_ ?_ ?_) (fun loc => (snd_call4 hn (snd_glob (k := 21) ?_ (g_law_tree hK) (v_law_tree hK) ?_) (gv_law_tree) (k_law_tree hK) (snd_loc (i := 1) ?_ ?_ ?_) ?_ (snd_lst0) ?_ snd_int ?_ snd_bool ?_)) ?_) (sndS_seq (sndS_unp2 (put_loc (i := 3) ?_ ?_ ?_) (put_cell (i := 4) ?_ ?_ ?_ ?_) (fun loc => (snd_tup2 (snd_call2 hn (snd_glob (k := 23) ?_ (g_law_core hK) (v_law_core hK) ?_) (gv_law_core) (k_law_core hK) (snd_loc (i := 2) ?_ ?_ ?_) ?_ (snd_lst0) ?_) ?_ (snd_call1 hn (snd_glob (k := 25) ?_ (g_law_words hK) (v_law_words hK) ?_) (gv_law_words) (k_law_words hK) (snd_loc (i := 2) ?_ ?_ ?_) ?_) ?_)) ?_ ?_) (sndS_seq (sndS_unp2 (put_loc (i := 5) ?_ ?_ ?_) (put_loc (i := 6) ?_ ?_ ?_) (fun loc => (snd_call2 hn (snd_glob (k := 26) ?_ (g_law_text hK) (v_law_text hK) ?_) (gv_law_text) (k_law_text hK) (snd_loc (i := 1) ?_ ?_ ?_) ?_ (snd_loc (i := 4) ?_ ?_ ?_) ?_)) ?_ ?_) (sndS_seq (sndS_asg' (put_loc (i := 7) ?_ ?_ ?_) (fun loc => (snd_call2 hn (snd_glob (k := 24) ?_ (g_law_shown hK) (v_law_shown hK) ?_) (gv_law_shown) (k_law_shown hK) (snd_loc (i := 2) ?_ ?_ ?_) ?_ (snd_lst0) ?_)) ?_) (sndS_seq (sndS_ite (fun loc => (sndT_or (sndT_cmp (snd_call1 hn (snd_glob (k := 19) ?_ (g_of_names hK) (v_of_names hK) ?_) (gv_of_names) (k_of_names hK) (snd_loc (i := 5) ?_ ?_ ?_) ?_) (snd_loc (i := 3) ?_ ?_ ?_) ?_) (sndT_or (sndT_cmp (snd_call1 hn (snd_glob (k := 17) ?_ (g_to_names hK) (v_to_names hK) ?_) (gv_to_names) (k_to_names hK) (snd_loc (i := 3) ?_ ?_ ?_) ?_) (snd_loc (i := 7) ?_ ?_ ?_) ?_) (sndT_or1 (sndT_cmp (snd_call1 hn (snd_glob (k := 19) ?_ (g_of_names hK) (v_of_names hK) ?_) (gv_of_names) (k_of_names hK) (snd_loc (i := 7) ?_ ?_ ?_) ?_) (snd_loc (i := 3) ?_ ?_ ?_) ?_))))) (sndS_seq (sndS_ret fun loc => snd_bool) sndS_nil) sndS_nil) (sndS_seq (sndS_asgcomp (i := 16) (j := 8) (vis := [4]) (compOk_of ?_ ?_ ?_ ?_ ?_ ?_ ?_ ?_ ?_ ?_) (fun _ => rfl) (fun loc => (sndI_range b_range (snd_len b_len (snd_loc (i := 4) ?_ ?_ ?_) ?_) ?_)) (fun C loc => (sndF_one (sndT_and (sndT_plain (snd_isalnum (snd_idx (snd_idx (snd_loc (i := 4) ?_ ?_ ?_) (snd_loc (i := 16) ?_ ?_ ?_) ?_) snd_int ?_) rfl ?_) fun _ => rfl) (sndT_and1 (sndT_or (sndT_cmp (snd_loc (i := 16) ?_ ?_ ?_) snd_int ?_) (sndT_or1 (sndT_cmp (snd_idx (snd_loc (i := 4) ?_ ?_ ?_) (snd_bin (snd_loc (i := 16) ?_ ?_ ?_) snd_int) ?_) snd_str ?_))))))) (fun C loc => (snd_loc (i := 16) ?_ ?_ ?_)) ?_ ?_ (ux_of ?_ ?_) ?_) (sndS_seq (sndS_asg' (put_loc (i := 9) ?_ ?_ ?_) (fun loc => (snd_idx (snd_loc (i := 8) ?_ ?_ ?_) (snd_call2 hn (snd_glob (k := 20) ?_ (g_law_digit hK) (v_law_digit hK) ?_) (gv_law_digit) (k_law_digit hK) (snd_loc (i := 1) ?_ ?_ ?_) ?_ (snd_len b_len (snd_loc (i := 8) ?_ ?_ ?_) ?_) ?_) ?_)) ?_) (sndS_seq (sndS_asg' (put_loc (i := 10) ?_ ?_ ?_) (fun loc => (snd_bin (snd_idx (snd_loc (i := 6) ?_ ?_ ?_) (snd_loc (i := 9) ?_ ?_ ?_) ?_) (snd_len b_len (snd_idx (snd_loc (i := 4) ?_ ?_ ?_) (snd_loc (i := 9) ?_ ?_ ?_) ?_) ?_))) ?_) (sndS_seq (sndS_ite (fun loc => (sndT_cmp (snd_call1 hn (snd_glob (k := 29) ?_ (g_law_refused_at hK) (v_law_refused_at hK) ?_) (gv_law_refused_at) (k_law_refused_at hK) (snd_bin (snd_bin (snd_slc (snd_loc (i := 5) ?_ ?_ ?_) sndP_none (sndP_some (snd_idx (snd_loc (i := 6) ?_ ?_ ?_) (snd_loc (i := 9) ?_ ?_ ?_) ?_))) snd_str) (snd_slc (snd_loc (i := 5) ?_ ?_ ?_) (sndP_some (snd_loc (i := 10) ?_ ?_ ?_)) sndP_none)) ?_) (snd_idx (snd_loc (i := 6) ?_ ?_ ?_) (snd_loc (i := 9) ?_ ?_ ?_) ?_) ?_)) (sndS_seq (sndS_ret fun loc => snd_bool) sndS_nil) sndS_nil) (sndS_seq (sndS_unp2w (put_loc (i := 11) ?_ ?_ ?_) (put_loc (i := 12) ?_ ?_ ?_) (by decide) (fun loc => (snd_tup2 (snd_call2 hn (snd_glob (k := 20) ?_ (g_law_digit hK) (v_law_digit hK) ?_) (gv_law_digit) (k_law_digit hK) (snd_loc (i := 1) ?_ ?_ ?_) ?_ snd_int ?_) ?_ (snd_loc (i := 2) ?_ ?_ ?_) ?_)) ?_ ?_) (sndS_seq (sndS_for' (put_loc (i := 13) ?_ ?_ ?_) (fun _ => rfl) (fun loc => (sndI_range b_range (snd_loc (i := 11) ?_ ?_ ?_) ?_)) (sndS_seq (sndS_asg' (put_loc (i := 12) ?_ ?_ ?_) (fun loc => (snd_call2 hn (snd_glob (k := 27) ?_ (g_law_wrapped hK) (v_law_wrapped hK) ?_) (gv_law_wrapped) (k_law_wrapped hK) (snd_loc (i := 1) ?_ ?_ ?_) ?_ (snd_loc (i := 12) ?_ ?_ ?_) ?_)) ?_) sndS_nil)) (sndS_seq (sndS_asg' (put_loc (i := 14) ?_ ?_ ?_) (fun loc => (snd_call2 hn (snd_glob (k := 23) ?_ (g_law_core hK) (v_law_core hK) ?_) (gv_law_core) (k_law_core hK) (snd_call4 hn (snd_glob (k := 21) ?_ (g_law_tree hK) (v_law_tree hK) ?_) (gv_law_tree) (k_law_tree hK) (snd_loc (i := 1) ?_ ?_ ?_) ?_ (snd_lst0) ?_ snd_int ?_ snd_bool ?_) ?_ (snd_lst0) ?_)) ?_) (sndS_seq (sndS_ite (fun loc => (sndT_or (sndT_cmp (snd_call3 hn (snd_glob (k := 28) ?_ (g_law_alike hK) (v_law_alike hK) ?_) (gv_law_alike) (k_law_alike hK) (snd_call2 hn (snd_glob (k := 23) ?_ (g_law_core hK) (v_law_core hK) ?_) (gv_law_core) (k_law_core hK) (snd_loc (i := 12) ?_ ?_ ?_) ?_ (snd_lst0) ?_) ?_ (snd_loc (i := 3) ?_ ?_ ?_) ?_ (snd_loc (i := 11) ?_ ?_ ?_) ?_) snd_bool ?_) (sndT_or1 (sndT_cmp (snd_call3 hn (snd_glob (k := 28) ?_ (g_law_alike hK) (v_law_alike hK) ?_) (gv_law_alike) (k_law_alike hK) (snd_loc (i := 3) ?_ ?_ ?_) ?_ (snd_loc (i := 14) ?_ ?_ ?_) ?_ snd_int ?_) (snd_cmp (snd_loc (i := 3) ?_ ?_ ?_) (snd_loc (i := 14) ?_ ?_ ?_) ?_) ?_)))) (sndS_seq (sndS_ret fun loc => snd_bool) sndS_nil) sndS_nil) (sndS_seq (sndS_ret fun loc => (snd_or (snd_cmp (snd_loc (i := 11) ?_ ?_ ?_) snd_int ?_) (snd_bool1 (snd_cmp (snd_call3 hn (snd_glob (k := 28) ?_ (g_law_alike hK) (v_law_alike hK) ?_) (gv_law_alike) (k_law_alike hK) (snd_loc (i := 3) ?_ ?_ ?_) ?_ (snd_call2 hn (snd_glob (k := 23) ?_ (g_law_core hK) (v_law_core hK) ?_) (gv_law_core) (k_law_core hK) (snd_loc (i := 12) ?_ ?_ ?_) ?_ (snd_lst0) ?_) ?_ (snd_bin (snd_loc (i := 11) ?_ ?_ ?_) snd_int) ?_) snd_none ?_)))) sndS_nil)))))))))))))))
  all_goals kernel_rfl


end
end Mine
end
section
set_option tactic.hygienic false
open PySem PySem.W PyProof.Rows PySem.Spec PySem.Calls PySem.Builtin.Str
set_option Elab.async false
set_option maxRecDepth 100000
set_option autoImplicit true
namespace Mine
section
variable {gv : Nat → V} {mv : Str → V} {O : V → List V → St → (V → St → Prop) → (Xc → St → Prop) → Prop} {loc : Loc} {σ : St}
noncomputable def wpR (gv : Nat → V) (mv : Str → V) (O : V → List V → St → (V → St → Prop) → (Xc → St → Prop) → Prop) (s : MS) (loc : Loc) (σ : St) (Q : Fl → Loc → St → Prop) (E : Xc → St → Prop) : Prop := wpS gv mv O s loc σ Q E
theorem wpR_in {s : MS} {Q : Fl → Loc → St → Prop} {E : Xc → St → Prop} (h : wpS gv mv O s loc σ Q E) : wpR gv mv O s loc σ Q E := h
theorem e_loc : wpE gv mv O (.loc i) loc σ Q E = (∃ d, loc i = some d ∧ Q d σ) := rfl
theorem e_glob : wpE gv mv O (.glob k) loc σ Q E = (Q (gv k) σ) := rfl
theorem e_int : wpE gv mv O (.int i) loc σ Q E = (Q (.int i) σ) := rfl
theorem e_str : wpE gv mv O (.str x) loc σ Q E = (Q (.str x) σ) := rfl
theorem e_bool : wpE gv mv O (.bool b) loc σ Q E = (Q (.bool b) σ) := rfl
theorem e_none : wpE gv mv O (.none) loc σ Q E = (Q .none σ) := rfl
theorem e_neg : wpE gv mv O (.neg a) loc σ Q E = (wpE gv mv O a loc σ (fun d σ => match d with | .int i => Q (.int (-i)) σ | _ => False) E) := rfl
theorem e_tup0 : wpE gv mv O (.tup0) loc σ Q E = (Q (.tup []) σ) := rfl
theorem e_tup1 : wpE gv mv O (.tup1 a) loc σ Q E = (wpE gv mv O a loc σ (fun d σ => Q (.tup [d]) σ) E) := rfl
theorem e_tup2 : wpE gv mv O (.tup2 a b) loc σ Q E = (wpE gv mv O a loc σ (fun d σ => wpE gv mv O b loc σ (fun d' σ => Q (.tup [d, d']) σ) E) E) := rfl
theorem e_tup3 : wpE gv mv O (.tup3 a b c) loc σ Q E = (wpE gv mv O a loc σ (fun d σ => wpE gv mv O b loc σ (fun d' σ => wpE gv mv O c loc σ (fun d'' σ => Q (.tup [d, d', d'']) σ) E) E) E) := rfl
theorem e_lst0 : wpE gv mv O (.lst0) loc σ Q E = (Q (.list []) σ) := rfl
theorem e_lst1 : wpE gv mv O (.lst1 a) loc σ Q E = (wpE gv mv O a loc σ (fun d σ => Q (.list [d]) σ) E) := rfl
theorem e_lst3 : wpE gv mv O (.lst3 a b c) loc σ Q E = (wpE gv mv O a loc σ (fun d σ => wpE gv mv O b loc σ (fun d' σ => wpE gv mv O c loc σ (fun d'' σ => Q (.list [d, d', d'']) σ) E) E) E) := rfl
theorem e_new0 : wpE gv mv O (.new0) loc σ Q E = (Q (.obj σ.length) (σ ++ [.list []])) := rfl
theorem e_new1 : wpE gv mv O (.new1 a) loc σ Q E = (wpE gv mv O a loc σ (fun d σ => Q (.obj σ.length) (σ ++ [.list [d]])) E) := rfl
theorem e_bin : wpE gv mv O (.bin op a b) loc σ Q E = (wpE gv mv O a loc σ (fun d σ => wpE gv mv O b loc σ (fun d' σ => binW op d d' fun r => Q r σ) E) E) := rfl
theorem e_cmp : wpE gv mv O (.cmp op a b) loc σ Q E = (wpE gv mv O a loc σ (fun d σ => wpE gv mv O b loc σ (fun d' σ => cmpW σ op d d' fun r => Q (.bool r) σ) E) E) := rfl
theorem e_cmp2 : wpE gv mv O (.cmp2 op op' a b c) loc σ Q E = (wpE gv mv O a loc σ (fun d σ => wpE gv mv O b loc σ (fun d' σ => cmpW σ op d d' fun r => match r with
      | true => wpE gv mv O c loc σ (fun d'' σ => cmpW σ op' d' d'' fun r => Q (.bool r) σ) E
      | false => Q (.bool false) σ) E) E) := rfl
theorem e_and : wpE gv mv O (.and a b) loc σ Q E = (wpE gv mv O a loc σ (fun d σ => isB d fun t => match t with
      | true => wpE gv mv O b loc σ (fun d' σ => isB d' fun c => Q (.bool c) σ) E
      | false => Q (.bool false) σ) E) := rfl
theorem e_or : wpE gv mv O (.or a b) loc σ Q E = (wpE gv mv O a loc σ (fun d σ => isB d fun t => match t with
      | true => Q (.bool true) σ
      | false => wpE gv mv O b loc σ (fun d' σ => isB d' fun c => Q (.bool c) σ) E) E) := rfl
theorem e_not : wpE gv mv O (.not a) loc σ Q E = (wpE gv mv O a loc σ (fun d σ => isB d fun c => Q (.bool (!c)) σ) E) := rfl
theorem e_ite : wpE gv mv O (.ite c a b) loc σ Q E = (wpE gv mv O c loc σ (fun d σ => isB d fun t => match t with
      | true => wpE gv mv O a loc σ Q E
      | false => wpE gv mv O b loc σ Q E) E) := rfl
theorem e_idx : wpE gv mv O (.idx a i) loc σ Q E = (wpE gv mv O a loc σ (fun d σ => wpE gv mv O i loc σ (fun d' σ => idxW σ d d' fun r => Q r σ) E) E) := rfl
theorem e_slc : wpE gv mv O (.slc a lo₁ hi₁) loc σ Q E = (wpE gv mv O a loc σ (fun d σ => wpE gv mv O lo₁ loc σ (fun d' σ => wpE gv mv O hi₁ loc σ (fun d'' σ => slcW d d' d'' fun r => Q r σ) E) E) E) := rfl
theorem e_take : wpE gv mv O (.take a k) loc σ Q E = (wpE gv mv O a loc σ (fun d σ => match d with
      | .list l => l.length ≤ big ∧ Q (.list (l.take k)) σ
      | _ => False) E) := rfl
theorem e_call0 : wpE gv mv O (.call0 f) loc σ Q E = (wpE gv mv O f loc σ (fun v σ => O v [] σ Q E) E) := rfl
theorem e_call1 : wpE gv mv O (.call1 f a) loc σ Q E = (wpE gv mv O f loc σ (fun v σ => wpE gv mv O a loc σ (fun d σ => O v [d] σ Q E) E) E) := rfl
theorem e_call2 : wpE gv mv O (.call2 f a b) loc σ Q E = (wpE gv mv O f loc σ (fun v σ => wpE gv mv O a loc σ (fun d σ => wpE gv mv O b loc σ (fun d' σ => O v [d, d'] σ Q E) E) E) E) := rfl
theorem e_call3 : wpE gv mv O (.call3 f a b c) loc σ Q E = (wpE gv mv O f loc σ (fun v σ => wpE gv mv O a loc σ (fun d σ => wpE gv mv O b loc σ (fun d' σ => wpE gv mv O c loc σ (fun d'' σ => O v [d, d', d''] σ Q E) E) E) E) E) := rfl
theorem e_call4 : wpE gv mv O (.call4 f a b c e) loc σ Q E = (wpE gv mv O f loc σ (fun v σ => wpE gv mv O a loc σ (fun d σ => wpE gv mv O b loc σ (fun d' σ => wpE gv mv O c loc σ (fun d'' σ => wpE gv mv O e loc σ (fun d3 σ => O v [d, d', d'', d3] σ Q E) E) E) E) E) E) := rfl
theorem e_len : wpE gv mv O (.len a) loc σ Q E = (wpE gv mv O a loc σ (fun d σ => lenW σ d fun n => Q (.int n) σ) E) := rfl
theorem e_intOf : wpE gv mv O (.intOf a) loc σ Q E = (wpE gv mv O a loc σ (fun d σ => match d with
      | .int i => Q (.int i) σ
      | .str x => ∃ c, x.cps.toList = [c] ∧ (48 ≤ c ∧ c ≤ 57) ∧ Q (.int ((c : Int) - 48)) σ
      | _ => False) E) := rfl
theorem e_strOf : wpE gv mv O (.strOf a) loc σ Q E = (wpE gv mv O a loc σ (fun d σ => match d with
      | .int i => (0 ≤ i ∧ i < 10) ∧ Q (.str ⟨#[48 + i.toNat]⟩) σ
      | _ => False) E) := rfl
theorem e_tupOf : wpE gv mv O (.tupOf a) loc σ Q E = (wpE gv mv O a loc σ (fun d σ => match d with | .list l => l.length ≤ big ∧ Q (.tup l) σ | _ => False) E) := rfl
theorem e_attr : wpE gv mv O (.attr o x) loc σ Q E = (wpE gv mv O o loc σ (fun d σ => attrW σ d x fun r => Q r σ) E) := rfl
theorem e_meth0 : wpE gv mv O (.meth0 o x) loc σ Q E = (wpE gv mv O o loc σ (fun d σ => methW σ d x (O (mv x) [d] σ Q E)) E) := rfl
theorem e_meth1 : wpE gv mv O (.meth1 o x a) loc σ Q E = (wpE gv mv O o loc σ (fun d σ => methW σ d x (wpE gv mv O a loc σ (fun d' σ => O (mv x) [d, d'] σ Q E) E)) E) := rfl
theorem e_isalnum : wpE gv mv O (.isalnum a) loc σ Q E = (wpE gv mv O a loc σ (fun d σ => match d with
      | .str x => ∃ c, x.cps.toList = [c] ∧ c < 128 ∧ Q (.bool (decide ((48 ≤ c ∧ c ≤ 57) ∨ (65 ≤ c ∧ c ≤ 90) ∨ (97 ≤ c ∧ c ≤ 122)))) σ
      | _ => False) E) := rfl
theorem e_append : wpE gv mv O (.append o a) loc σ Q E = (wpE gv mv O o loc σ (fun d σ => isLst σ d ∧ wpE gv mv O a loc σ (fun d' σ => match d with
      | .obj i => ∃ l, σ[i]? = some (.list l) ∧ l.length ≤ big ∧ Q .none (σ.set i (.list (l ++ [d'])))
      | _ => False) E) E) := rfl
theorem e_pop : wpE gv mv O (.pop o) loc σ Q E = (wpE gv mv O o loc σ (fun d σ => match d with
      | .obj i => ∃ l x, σ[i]? = some (.list (l ++ [x])) ∧ l.length ≤ big ∧ Q x (σ.set i (.list l))
      | _ => False) E) := rfl
theorem e_extend : wpE gv mv O (.extend o a) loc σ Q E = (wpE gv mv O o loc σ (fun d σ => isLst σ d ∧ wpE gv mv O a loc σ (fun d' σ => match d, d' with
      | .obj i, .list m => ∃ l, σ[i]? = some (.list l) ∧ l.length + m.length ≤ big ∧ Q .none (σ.set i (.list (l ++ m)))
      | _, _ => False) E) E) := rfl
theorem e_fmt : wpE gv mv O (.fmt pre₁ a post₁) loc σ Q E = (wpE gv mv O a loc σ (fun d σ => match d with
      | .int i => (0 ≤ i ∧ i < 10) ∧ (pre₁.length ≤ 100 ∧ post₁.length ≤ 100) ∧ Q (.str (pre₁ ++ ⟨#[48 + i.toNat]⟩ ++ post₁)) σ
      | .str x => (pre₁.length + x.length + post₁.length ≤ big) ∧ Q (.str (pre₁ ++ x ++ post₁)) σ
      | _ => False) E) := rfl
theorem e_comp_range : wpE gv mv O (.comp i vis elt₁ (.range b) cond₁) loc σ Q E = (wpE gv mv O b loc σ (fun d σ => match d with
      | .int n => (0 ≤ n ∧ n ≤ (big : Int)) ∧ compW (fun l σ Q => wpE gv mv O cond₁ l σ (fun d σ' => isB d fun b => σ' = σ ∧ Q b) (fun _ _ => False)) (fun l σ Q => wpE gv mv O elt₁ l σ (fun d σ' => σ' = σ ∧ Q d) (fun _ _ => False)) i (sees loc vis) σ ((List.range n.toNat).map fun k => .int (k : Nat)) [] fun r => Q (.list r) σ
      | _ => False) E) := rfl
theorem e_comp_loc : wpE gv mv O (.comp i vis elt₁ (.loc j) cond₁) loc σ Q E = (wpE gv mv O (.loc j) loc σ (fun d σ => itemsW d fun items =>
      compW (fun l σ Q => wpE gv mv O cond₁ l σ (fun d σ' => isB d fun b => σ' = σ ∧ Q b) (fun _ _ => False)) (fun l σ Q => wpE gv mv O elt₁ l σ (fun d σ' => σ' = σ ∧ Q d) (fun _ _ => False)) i (sees loc vis) σ items [] fun r => Q (.list r) σ) E) := rfl
theorem e_comp_slc : wpE gv mv O (.comp i vis elt₁ (.slc a₁ a₂ a₃) cond₁) loc σ Q E = (wpE gv mv O (.slc a₁ a₂ a₃) loc σ (fun d σ => itemsW d fun items =>
      compW (fun l σ Q => wpE gv mv O cond₁ l σ (fun d σ' => isB d fun b => σ' = σ ∧ Q b) (fun _ _ => False)) (fun l σ Q => wpE gv mv O elt₁ l σ (fun d σ' => σ' = σ ∧ Q d) (fun _ _ => False)) i (sees loc vis) σ items [] fun r => Q (.list r) σ) E) := rfl
theorem e_comp_take : wpE gv mv O (.comp i vis elt₁ (.take a₁ k₁) cond₁) loc σ Q E = (wpE gv mv O (.take a₁ k₁) loc σ (fun d σ => itemsW d fun items =>
      compW (fun l σ Q => wpE gv mv O cond₁ l σ (fun d σ' => isB d fun b => σ' = σ ∧ Q b) (fun _ _ => False)) (fun l σ Q => wpE gv mv O elt₁ l σ (fun d σ' => σ' = σ ∧ Q d) (fun _ _ => False)) i (sees loc vis) σ items [] fun r => Q (.list r) σ) E) := rfl
theorem e_hand : wpE gv mv O (.hand a b) loc σ Q E = (wpE gv mv O a loc (σ ++ [.dict []]) (fun d σ' => wpE gv mv O b loc σ' (fun d' σ'' => σ''[σ.length]? = some (.dict []) ∧ Q (.obj σ.length) (σ''.set σ.length (.dict [("cells", d), ("at", d')]))) E) E) := rfl
theorem f_nil : wpS gv mv O (.nil) loc σ Q E = (Q .next loc σ) := rfl
theorem f_seq : wpS gv mv O (.seq s rest) loc σ Q E = wpS gv mv O s loc σ (fun fl loc σ => match fl with | .next => wpR gv mv O rest loc σ Q E | fl => Q fl loc σ) E := rfl
theorem f_asg : wpS gv mv O (.asg i a) loc σ Q E = (wpE gv mv O a loc σ (fun d σ => Q .next (upd loc i d) σ) E) := rfl
theorem f_unp2 : wpS gv mv O (.unp2 i j a) loc σ Q E = (wpE gv mv O a loc σ (fun d σ => match d with
      | .tup [x, y] => Q .next (upd (upd loc i x) j y) σ
      | _ => False) E) := rfl
theorem f_setIdx : wpS gv mv O (.setIdx o k a) loc σ Q E = (wpE gv mv O a loc σ (fun d σ => wpE gv mv O o loc σ (fun o σ => match o with
      | .obj i => ∃ es, σ[i]? = some (.dict es) ∧ es.length ≤ 900 ∧ (es.map (·.1)).Nodup ∧ (es.any fun p => p.1 = k) = true ∧ Q .next loc (σ.set i (.dict (es.map fun p => if p.1 = k then (p.1, d) else p)))
      | _ => False) E) E) := rfl
theorem f_setAttr : wpS gv mv O (.setAttr o x a) loc σ Q E = (wpE gv mv O a loc σ (fun d σ => wpE gv mv O o loc σ (fun o σ => match o with
      | .obj i => ∃ j es, σ[i]? = some (.inst j) ∧ σ[j]? = some (.dict es) ∧ es.length ≤ 900 ∧ Q .next loc (σ.set j (.dict (putV x d es)))
      | _ => False) E) E) := rfl
theorem f_ret : wpS gv mv O (.ret a) loc σ Q E = (wpE gv mv O a loc σ (fun d σ => Q (.ret d) loc σ) E) := rfl
theorem f_ite : wpS gv mv O (.ite c a b) loc σ Q E = (wpE gv mv O c loc σ (fun d σ => isB d fun t => match t with
      | true => wpS gv mv O a loc σ Q E
      | false => wpS gv mv O b loc σ Q E) E) := rfl
theorem f_whl : wpS gv mv O (.whl c b) loc σ Q E = (∃ k, loopW (fun loc σ Q => wpE gv mv O c loc σ (fun d σ => isB d fun b => Q b σ) (fun _ _ => False)) (fun loc σ Q => wpS gv mv O b loc σ Q (fun _ _ => False)) k loc σ Q) := rfl
theorem f_forr_range : wpS gv mv O (.forr i (.range a) b) loc σ Q E = (wpE gv mv O a loc σ (fun d σ => match d with
      | .int n => (0 ≤ n ∧ n ≤ (big : Int)) ∧ forW (fun loc σ Q => wpS gv mv O b loc σ Q (fun _ _ => False)) (fun loc _ d => upd loc i d) 0 ((List.range n.toNat).map fun k => .int (k : Nat)) loc σ Q
      | _ => False) E) := rfl
theorem f_forr_loc : wpS gv mv O (.forr i (.loc j) b) loc σ Q E = (wpE gv mv O (.loc j) loc σ (fun d σ => itemsW d fun items => forW (fun loc σ Q => wpS gv mv O b loc σ Q (fun _ _ => False)) (fun loc _ d => upd loc i d) 0 items loc σ Q) E) := rfl
theorem f_fore : wpS gv mv O (.fore i j a b) loc σ Q E = (wpE gv mv O a loc σ (fun d σ => match d with
      | .list items => items.length ≤ big ∧ forW (fun loc σ Q => wpS gv mv O b loc σ Q (fun _ _ => False)) (fun loc k d => upd (upd loc i (.int (k : Nat))) j d) 0 items loc σ Q
      | _ => False) E) := rfl
theorem f_expr : wpS gv mv O (.expr a) loc σ Q E = (wpE gv mv O a loc σ (fun _ σ => Q .next loc σ) E) := rfl
theorem f_brk : wpS gv mv O (.brk) loc σ Q E = (Q .brk loc σ) := rfl
theorem f_raise_none : wpS gv mv O (.raise x₁ a none) loc σ Q E = (wpE gv mv O a loc σ (fun _ σ => E .limit σ) E) := rfl
theorem f_raise_some : wpS gv mv O (.raise x₁ a (some b)) loc σ Q E = (wpE gv mv O a loc σ (fun _ σ => wpE gv mv O b loc σ (fun d σ => match d with
      | .int i => E (.text i) σ
      | _ => False) E) E) := rfl
theorem f_tryNone : wpS gv mv O (.tryNone b) loc σ Q E = (wpS gv mv O b loc σ (fun fl loc σ => match fl with | .ret d => Q (.ret d) loc σ | _ => False) (fun x σ => match x with
      | .limit => Q (.ret .none) (fun _ => none) σ
      | .text _ => False)) := rfl
theorem f_trySpot : wpS gv mv O (.trySpot b) loc σ Q E = (wpS gv mv O b loc σ Q (fun x σ => match x with
      | .text i => Q (.ret (.int i)) (fun _ => none) σ
      | .limit => False)) := rfl
end
end Mine
end
section
open PySem PySem.W PyProof.Rows PySem.Spec PySem.Calls PySem.Builtin.Str
set_option Elab.async false
set_option maxRecDepth 100000
set_option autoImplicit false
set_option maxHeartbeats 4000000
set_option linter.unusedSimpArgs false
set_option tactic.hygienic false
namespace Mine
local macro_rules | `(tactic| walk_at "z") => do
  let l := (("e_loc e_glob e_int e_str e_bool e_none e_neg e_tup0 e_tup1 e_tup2 e_tup3 e_lst0 e_lst1 e_lst3 e_new0 e_new1 e_bin e_cmp e_cmp2 e_and e_or e_not e_ite e_idx e_slc e_take e_call0 e_call1 e_call2 e_call3 e_call4 e_len e_intOf e_strOf e_tupOf e_attr e_meth0 e_meth1 e_isalnum e_append e_pop e_extend e_fmt e_comp_range e_comp_loc e_comp_slc e_comp_take e_hand f_nil f_seq f_asg f_unp2 f_setIdx f_setAttr f_ret f_ite f_whl f_forr_range f_forr_loc f_fore f_expr f_brk f_raise_none f_raise_some f_tryNone f_trySpot".splitOn " ").map fun x => Lean.mkIdent (.str (.str .anonymous "Mine") x)).toArray
  `(tactic| simp only [$[$l:ident],*])
local macro_rules | `(tactic| walk_at "u") => `(tactic| first | (walk_at "z") | ((with_reducible refine wpR_in ?_); (walk_at "z")))
local macro_rules | `(tactic| walk_at "n") => `(tactic| all_goals repeat ((first | (with_reducible refine wpR_in ?_) | (dsimp only [placeW, isB]; (with_reducible refine wpR_in ?_))); (walk_at "z")))


section
variable {σ : St} {Q : Bool → Prop} {i j : Int} {x y : Str} {l m : List V} {b c : Bool} {P : Prop}
theorem cw_lt : cmpW σ .Lt (.int i) (.int j) Q = Q (decide (i < j)) := rfl
theorem cw_le : cmpW σ .LtE (.int i) (.int j) Q = Q (decide (i ≤ j)) := rfl
theorem cw_gt : cmpW σ .Gt (.int i) (.int j) Q = Q (decide (i > j)) := rfl
theorem cw_ge : cmpW σ .GtE (.int i) (.int j) Q = Q (decide (i ≥ j)) := rfl
theorem cw_eqi : cmpW σ .Eq (.int i) (.int j) Q = Q (decide (i = j)) := rfl
theorem cw_nei : cmpW σ .NotEq (.int i) (.int j) Q = Q (!decide (i = j)) := rfl
theorem cw_eqs : cmpW σ .Eq (.str x) (.str y) Q = Q (decide (x = y)) := rfl
theorem cw_nes : cmpW σ .NotEq (.str x) (.str y) Q = Q (!decide (x = y)) := rfl
theorem cw_in : cmpW σ .In (.str x) (.str y) Q = (x.length = 1 ∧ Q (y.cps.toList.contains (x.cps.toList.headD 0))) := rfl
theorem cw_ni : cmpW σ .NotIn (.str x) (.str y) Q = (x.length = 1 ∧ Q (!y.cps.toList.contains (x.cps.toList.headD 0))) := rfl
theorem cw_isnn : cmpW σ .Is .none .none Q = Q true := rfl
theorem cw_istn : cmpW σ .Is (.tup l) .none Q = Q false := rfl
theorem cw_isbn : cmpW σ .Is (.bool b) .none Q = Q false := rfl
theorem cw_isnotnn : cmpW σ .IsNot .none .none Q = Q false := rfl
theorem cw_isnottn : cmpW σ .IsNot (.tup l) .none Q = Q true := rfl
theorem cw_isnotbt : cmpW σ .IsNot (.bool c) (.bool true) Q = Q (!c) := rfl
theorem cw_isnotnt : cmpW σ .IsNot .none (.bool true) Q = Q true := rfl
theorem cw_eqt (hb : b = true ↔ l = m) (h : okV (.tup l) = true ∧ okV (.tup m) = true) (q : Q b) : cmpW σ .Eq (.tup l) (.tup m) Q := by
  refine ⟨h, ?_⟩
  walk_at "n"
  cases b with
  | true => have e := hb.mp rfl; subst e; simpa using q
  | false => have e : ¬ l = m := fun z => by simpa using hb.mpr z
             simpa [e] using q
theorem cw_net (hb : b = true ↔ l = m) (h : okV (.tup l) = true ∧ okV (.tup m) = true) (q : Q (!b)) : cmpW σ .NotEq (.tup l) (.tup m) Q := by
  refine ⟨h, ?_⟩
  walk_at "n"
  cases b with
  | true => have e := hb.mp rfl; subst e; simpa using q
  | false => have e : ¬ l = m := fun z => by simpa using hb.mpr z
             simpa [e] using q
theorem cw_eql (hb : b = true ↔ l = m) (h : okV (.list l) = true ∧ okV (.list m) = true) (q : Q b) : cmpW σ .Eq (.list l) (.list m) Q := by
  refine ⟨h, ?_⟩
  walk_at "n"
  cases b with
  | true => have e := hb.mp rfl; subst e; simpa using q
  | false => have e : ¬ l = m := fun z => by simpa using hb.mpr z
             simpa [e] using q
theorem cw_nel (hb : b = true ↔ l = m) (h : okV (.list l) = true ∧ okV (.list m) = true) (q : Q (!b)) : cmpW σ .NotEq (.list l) (.list m) Q := by
  refine ⟨h, ?_⟩
  walk_at "n"
  cases b with
  | true => have e := hb.mp rfl; subst e; simpa using q
  | false => have e : ¬ l = m := fun z => by simpa using hb.mpr z
             simpa [e] using q
theorem isB_b {P : Bool → Prop} : isB (.bool b) P = P b := rfl
end

section
variable {W : Wd} {cls : Xc → Addr} {n : Nat}

theorem call_of (g : Gd W) {a : Addr} {ps tbl : List Str} {b : MS} (fk : FnK (KP W.w.params) a ps) (ht : Tbl ps tbl) (hb : ∀ L, SndS W cls n (eF W.w.params a L) tbl GV MV (Orc W cls n) (execs (bodyAt (KP W.w.params) a) (eF W.w.params a L)) b)
    {args : List V} {σ : St} {Q : V → St → Prop} {E : Xc → St → Prop} (hl : args.length = ps.length) (q : wpS GV MV (Orc W cls n) b (args0 args) σ (fun fl _ σ => match fl with | .ret d => Q d σ | .next => Q .none σ | .brk => False) E) : CallW W cls (n + 1) (.ref a) args σ Q E :=
  callW_of (fk.fn g.K) ht hb hl q

theorem tbl_of {ps tbl : List Str} (hn : decide tbl.Nodup = true) (hp : (decide (tbl.take ps.length = ps)) = true) : Tbl ps tbl := by
  refine ⟨of_decide_eq_true hn, fun i hi => ?_⟩
  walk_at "n"
  have h := of_decide_eq_true hp
  rw [← h, List.getElem?_take, if_pos (by
    have := congrArg List.length h
    rw [List.length_take] at this
    rw [← h] at hi
    rw [List.length_take] at hi
    omega)]

theorem c_below (g : Gd W) {x : Str} {ts : List V} {σ : St} {Q : V → St → Prop} {E : Xc → St → Prop} (hb : ts.length ≤ 5) (q : Q (.int (if x = "lam" ∧ ts.length = 1 then 1 else 0)) σ) : CallW W cls (n + 1) (.ref 142) [.tup (.str x :: ts)] σ Q E := by
  refine call_of g (fk_142 _) (tbl_of (by kernel_rfl) (by kernel_rfl)) (fun L => s_142 g.K g.C (Nat.le_refl n) L) rfl ?_
  walk_at "n"
  simp only [b_142, args0]
  walk_at "u"
  walk_at "n"
  refine ⟨_, rfl, by decide, by decide, _, rfl, ?_⟩
  walk_at "n"
  simp only [cw_eqs, isB_b]
  by_cases hx : x = "lam"
  · simp only [hx, decide_true]
    refine ⟨_, rfl, ?_⟩
    walk_at "n"
    refine ⟨by simp only [big, List.length_cons]; omega, ?_⟩
    walk_at "n"
    by_cases hl : ts.length = 1
    · have h2 : decide (((V.str "lam" :: ts).length : Int) = 2) = true := by simp [hl]
      show (match decide (((V.str "lam" :: ts).length : Int) = 2) with | true => Q (V.int 1) σ | false => Q (V.int 0) σ)
      rw [h2]
      walk_at "n"
      simpa [hx, hl] using q
    · have h2 : decide (((V.str "lam" :: ts).length : Int) = 2) = false := by simp; omega
      show (match decide (((V.str "lam" :: ts).length : Int) = 2) with | true => Q (V.int 1) σ | false => Q (V.int 0) σ)
      rw [h2]
      walk_at "n"
      simpa [hx, hl] using q
  · simp only [hx, decide_false]
    simpa [hx] using q
end


theorem compW_pure {c : Loc → St → (Bool → Prop) → Prop} {elt : Loc → St → (V → Prop) → Prop} {i : Nat} {loc : Loc} {σ : St} (p : V → Bool) (f : V → V)
    : ∀ (ds acc : List V) (Q : List V → Prop), (∀ d ∈ ds, ∀ (acc : List V) (R : Bool → Prop), R (p d) → c (upd loc i d) (σ ++ [.list acc]) R) → (∀ d ∈ ds, p d = true → ∀ (acc : List V) (R : V → Prop), R (f d) → elt (upd loc i d) (σ ++ [.list acc]) R) → (∀ d ∈ ds, p d = true → bare (f d) = true) →
      Q (acc ++ (ds.filter p).map f) → compW c elt i loc σ ds acc Q
  | [], acc, Q, _, _, _, q => by rw [compW]; simpa using q
  | d :: ds, acc, Q, hc, he, hb, q => by
    rw [compW]
    walk_at "n"
    refine hc d (.head _) acc _ ?_
    walk_at "n"
    cases hp : p d with
    | true =>
      refine he d (.head _) hp acc _ ⟨hb d (.head _) hp, ?_⟩
      walk_at "n"
      refine compW_pure p f ds (acc ++ [f d]) Q (fun d h => hc d (.tail _ h)) (fun d h => he d (.tail _ h)) (fun d h => hb d (.tail _ h)) ?_
      walk_at "n"
      rw [List.filter_cons_of_pos hp, List.map_cons] at q
      simpa using q
    | false =>
      refine compW_pure p f ds acc Q (fun d h => hc d (.tail _ h)) (fun d h => he d (.tail _ h)) (fun d h => hb d (.tail _ h)) ?_
      walk_at "n"
      rw [List.filter_cons_of_neg (by simp [hp])] at q
      exact q

section
variable {W : Wd} {cls : Xc → Addr} {n : Nat}

noncomputable def rowOf (x signs : Str) : Bool := x.cps.toList ≠ [] && x.cps.toList.all fun c => signs.cps.toList.contains c

noncomputable def Plain (x : Str) : Prop := ∀ c ∈ x.cps.toList, c < 128

theorem okS {x : Str} {n : Nat} (h : Plain x) : kqdOk n (.str x) = true := by
  have : PyData.strOk x = true := by
    unfold PyData.strOk
    rw [← Array.all_toList, List.all_eq_true]
    walk_at "n"
    intro c hc
    have := h c hc
    exact decide_eq_true (by omega)
  cases n <;> exact this

theorem okV_signs {l : List Nat} (h : ∀ c ∈ l, c < 128) : okV (.list (l.map fun c => .str ⟨#[c]⟩)) = true := by
  unfold okV
  rw [vD, kqdOk, List.all_eq_true]
  walk_at "n"
  intro d hd
  have key : ∀ l : List Nat, (∀ c ∈ l, c < 128) → ∀ d ∈ vDs (l.map fun c => V.str ⟨#[c]⟩), kqdOk 39 d = true := by
    intro l
    induction l with
    | nil => intro _ d hd; rw [List.map_nil, vDs] at hd; cases hd
    | cons c l ih =>
      intro h d hd
      rw [List.map_cons, vDs] at hd
      rcases List.mem_cons.mp hd with rfl | hd
      · rw [vD]
        walk_at "n"
        exact okS fun c' hc' => by
          have : c' = c := by simpa using hc'
          rw [this]; exact h c (.head _)
          walk_at "n"
      · exact ih (fun c hc => h c (.tail _ hc)) d hd
  exact key l h d hd

theorem c_is_row_of (g : Gd W) {x y : Str} {σ : St} {Q : V → St → Prop} {E : Xc → St → Prop} (hx : x.length ≤ big) (hp : Plain x) (q : Q (.bool (rowOf x y)) σ) : CallW W cls (n + 1) (.ref 114) [.str x, .str y] σ Q E := by
  refine call_of g (fk_114 _) (tbl_of (by kernel_rfl) (by kernel_rfl)) (fun L => s_114 g.K g.C (Nat.le_refl n) L) rfl ?_
  walk_at "n"
  simp only [b_114, args0]
  walk_at "u"
  walk_at "n"
  refine ⟨_, rfl, ?_⟩
  walk_at "n"
  rw [cw_nes]
  walk_at "n"
  by_cases h0 : x = ""
  · simp only [h0, decide_true, Bool.not_true, isB_b]
    have : rowOf x y = false := by rw [h0]; rfl
    rw [this] at q; exact q
    walk_at "n"
  · simp only [h0, decide_false, Bool.not_false, isB_b]
    refine ⟨_, rfl, hx, compW_pure (fun d => match d with | .str s => !y.cps.toList.contains (s.cps.toList.headD 0) | _ => false) (fun d => d) _ _ _ ?_ ?_ ?_ ?_⟩
    walk_at "n"
    · intro d hd acc R r
      obtain ⟨c, hc, rfl⟩ := List.mem_map.mp hd
      refine ⟨_, rfl, _, rfl, ?_⟩
      walk_at "n"
      rw [cw_ni]
      walk_at "n"
      exact ⟨rfl, trivial, r⟩
    · intro d hd hp acc R r
      exact ⟨_, rfl, trivial, r⟩
    · intro d hd hp
      obtain ⟨c, hc, rfl⟩ := List.mem_map.mp hd
      rfl
    · simp only [List.nil_append, List.map_id']
      have hf : (List.filter (fun d => match d with | V.str s => !y.cps.toList.contains (s.cps.toList.headD 0) | _ => false) (x.cps.toList.map fun c => V.str ⟨#[c]⟩)) = (x.cps.toList.filter fun c => !y.cps.toList.contains c).map fun c => V.str ⟨#[c]⟩ := by
        rw [List.filter_map]; rfl
        walk_at "n"
      rw [hf]
      walk_at "n"
      refine cw_eql (b := rowOf x y) ?_ ⟨okV_signs fun c hc => hp c (List.mem_filter.mp hc).1, by rfl⟩ q
      walk_at "n"
      have hne : x.cps.toList ≠ [] := fun z => h0 (by have := str_of_cps z; exact this)
      unfold rowOf
      simp only [hne, ne_eq, not_false_eq_true, decide_true, Bool.true_and, List.all_eq_true, List.map_eq_nil_iff, List.filter_eq_nil_iff, Bool.not_eq_true', Bool.not_eq_false]
end

section
variable {W : Wd} {cls : Xc → Addr} {n : Nat}

noncomputable def nbV (x b : Str) : Int := if x.cps.toList.take b.length = b.cps.toList then (match x.cps.toList.drop b.length with
  | [c] => if 48 ≤ c ∧ c ≤ 57 then (c : Int) - 48 else -1
  | _ => -1) else -1

theorem fig_all : (List.range 128).all (fun c => rowOf (⟨#[c]⟩ : Str) "0123456789" == decide (48 ≤ c ∧ c ≤ 57)) = true := by decide +kernel

theorem c_number_behind (g : Gd W) {x b : Str} {σ : St} {Q : V → St → Prop} {E : Xc → St → Prop} (hx : x.length ≤ 1000) (hb : b.length ≤ 1000) (hp : Plain x) (hd : x.cps.toList.take b.length = b.cps.toList → (x.cps.toList.drop b.length).length ≤ 1) (q : Q (.int (nbV x b)) σ) : CallW W cls (n + 2) (.ref 121) [.str x, .str b] σ Q E := by
  refine call_of g (fk_121 _) (tbl_of (by kernel_rfl) (by kernel_rfl)) (fun L => s_121 g.K g.C (Nat.le_refl (n + 1)) L) rfl ?_
  walk_at "n"
  simp only [b_121, args0]
  walk_at "u"
  walk_at "n"
  have hxb : x.length ≤ big := by simp only [big]; omega
  have hbb : b.length ≤ big := by simp only [big]; omega
  have hbi : (b.length : Int) < (big : Int) := by simp only [big]; omega
  refine ⟨_, rfl, _, rfl, hbb, hxb, Int.natCast_nonneg _, hbi, ?_⟩
  walk_at "n"
  refine ⟨_, rfl, _, rfl, hbb, hxb, Int.natCast_nonneg _, hbi, _, rfl, ?_⟩
  walk_at "n"
  simp only [Int.toNat_natCast]
  rw [cw_nes, isB_b]
  walk_at "n"
  have e1 : cutS x 0 b.length = b ↔ x.cps.toList.take b.length = b.cps.toList := by
    unfold cutS
    rw [List.drop_zero]
    walk_at "n"
    constructor
    · intro h; have := congrArg (·.cps.toList) h; simpa using this
    · intro h; rw [h]
  have e2 : (cutS x b.length x.length).cps.toList = x.cps.toList.drop b.length := by
    unfold cutS
    rw [List.take_of_length_le (by simp [PySem.Str.length])]
    walk_at "n"
  show (match !decide (cutS x 0 b.length = b) with | true => _ | false => _)
  by_cases h1 : x.cps.toList.take b.length = b.cps.toList
  · have : decide (cutS x 0 b.length = b) = true := decide_eq_true (e1.mpr h1)
    rw [this]
    walk_at "n"
    refine ⟨_, rfl, ?_⟩
    walk_at "n"
    show CallW W cls (n + 1) (.ref 114) [.str (cutS x b.length x.length), .str "0123456789"] σ _ _
    have hpr : Plain (cutS x b.length x.length) := fun c hc => hp c (by rw [e2] at hc; exact List.mem_of_mem_drop hc)
    refine c_is_row_of g (by have := cutS_len x b.length x.length; simp only [big]; omega) hpr ?_
    walk_at "n"
    rw [isB_b, isB_b]
    walk_at "n"
    have hd' := hd h1
    cases hL : x.cps.toList.drop b.length with
    | nil =>
      have : rowOf (cutS x b.length x.length) "0123456789" = false := by unfold rowOf; rw [e2, hL]; rfl
      rw [this]
      walk_at "n"
      have hq : nbV x b = -1 := by unfold nbV; rw [if_pos h1, hL]
      rw [hq] at q
      exact q
    | cons c l =>
      rw [hL] at hd'
      walk_at "n"
      have hl : l = [] := List.eq_nil_of_length_eq_zero (by simpa using hd')
      subst hl
      have er : cutS x b.length x.length = ⟨#[c]⟩ := str_of_cps (e2.trans hL)
      have hc : c < 128 := hpr c (by rw [e2, hL]; exact .head _)
      rw [er]
      walk_at "n"
      have hrow : rowOf (⟨#[c]⟩ : Str) "0123456789" = decide (48 ≤ c ∧ c ≤ 57) := by
        have := List.all_eq_true.mp fig_all c (List.mem_range.mpr hc)
        exact eq_of_beq this
      rw [hrow]
      walk_at "n"
      by_cases hdig : 48 ≤ c ∧ c ≤ 57
      · have hq : nbV x b = (c : Int) - 48 := by unfold nbV; rw [if_pos h1, hL]; exact if_pos hdig
        rw [hq] at q
        rw [decide_eq_true hdig]
        walk_at "n"
        refine ⟨_, rfl, Int.le_refl _, by simp only [big]; omega, c, rfl, ?_⟩
        walk_at "n"
        try dsimp only
        walk_at "n"
        rw [cw_eqs]
        walk_at "n"
        by_cases h0 : (⟨#[c]⟩ : Str) = "0"
        · rw [decide_eq_true h0]
          walk_at "n"
          refine ⟨_, rfl, ?_⟩
          walk_at "n"
          rw [cw_nes, decide_eq_true h0]
          walk_at "n"
          exact ⟨_, rfl, c, rfl, hdig, q⟩
        · rw [decide_eq_false h0]
          walk_at "n"
          exact ⟨_, rfl, c, rfl, hdig, q⟩
      · have hq : nbV x b = -1 := by unfold nbV; rw [if_pos h1, hL]; exact if_neg hdig
        rw [hq] at q
        rw [decide_eq_false hdig]
        walk_at "n"
        exact q
  · have : decide (cutS x 0 b.length = b) = false := decide_eq_false fun h => h1 (e1.mp h)
    rw [this]
    walk_at "n"
    have hq : nbV x b = -1 := by unfold nbV; rw [if_neg h1]
    rw [hq] at q
    exact q
end


inductive Tm where
  | lam (t : Tm)
  | app (t u : Tm)
  | var (i : Nat)
  | nam (x : Str)

noncomputable def vtx (i : Nat) : Str := ⟨#[118, 97, 114, 48 + i]⟩
noncomputable def enc : Tm → V
  | .lam t => .tup [.str "lam", enc t]
  | .app t u => .tup [.str "app", enc t, enc u]
  | .var i => .tup [.str (vtx i)]
  | .nam x => .tup [.str x]

theorem vtx_fmt (i : Nat) : ("var" : Str) ++ (⟨#[48 + i]⟩ : Str) ++ Str.empty = vtx i := by
  apply str_of_cps (l := [118, 97, 114, 48 + i])
  rfl
theorem vtx_add (i : Nat) : ("var" : Str) ++ (⟨#[48 + i]⟩ : Str) = vtx i := by
  apply str_of_cps (l := [118, 97, 114, 48 + i])
  rfl

noncomputable def leafs : List Str := ["k", "m2"]
noncomputable def WfM (b : Nat) : Tm → Prop
  | .lam t => WfM b t
  | .app t u => WfM b t ∧ WfM b u
  | .var i => i < b
  | .nam x => x ∈ leafs
noncomputable def size : Tm → Nat
  | .lam t => size t + 1
  | .app t u => size t + size u + 1
  | .var _ => 1
  | .nam _ => 1
theorem WfM.mono {b b' : Nat} (h : b ≤ b') : ∀ {t : Tm}, WfM b t → WfM b' t := by
  intro t
  induction t with
  | lam t ih => exact ih
  | app t u ih1 ih2 => exact fun w => ⟨ih1 w.1, ih2 w.2⟩
  | var i => exact fun w => Nat.lt_of_lt_of_le w h
  | nam x => exact fun w => w

theorem CallW.up {W : Wd} {cls : Xc → Addr} {n n' : Nat} {f : Value} {args : List V} {σ : St} {Q : V → St → Prop} {E : Xc → St → Prop} (h : CallW W cls n f args σ Q E) (hn : n ≤ n') : CallW W cls n' f args σ Q E :=
  fun A fr s hid vs ak => h A fr s hid vs (ak.mono hn)

theorem bare_enc : ∀ t : Tm, bare (enc t) = true
  | .lam t => by rw [enc, bare, bares, bares, bares, bare, bare_enc t]; rfl
  | .app t u => by rw [enc, bare, bares, bares, bares, bares, bare, bare_enc t, bare_enc u]; rfl
  | .var _ => rfl
  | .nam _ => rfl

section
variable {W : Wd} {cls : Xc → Addr} {n : Nat}
theorem call_ofF (g : Gd W) {a : Addr} {ps tbl : List Str} {b : MS} (fk : FnK (KP W.w.params) a ps) (ht : Tbl ps tbl) (hb : ∀ L, StF W cls n (eF W.w.params a L) tbl GV MV (Orc W cls n) (execs (bodyAt (KP W.w.params) a) (eF W.w.params a L)) b)
    {args : List V} {σ : St} {Q : V → St → Prop} {E : Xc → St → Prop} (hl : args.length = ps.length) (q : wpS GV MV (Orc W cls n) b (args0 args) σ (fun fl _ σ => match fl with | .ret d => Q d σ | .next => Q .none σ | .brk => False) E) : CallW W cls (n + 1) (.ref a) args σ Q E :=
  (codeW_ofF (fk.fn g.K) ht hb hl q).call

noncomputable def Short (x b : Str) : Prop := x.length ≤ 1000 ∧ Plain x ∧ (x.cps.toList.take b.length = b.cps.toList → (x.cps.toList.drop b.length).length ≤ 1)

theorem c_index_of (g : Gd W) {x : Str} {ts : List V} {σ : St} {Q : V → St → Prop} {E : Xc → St → Prop} (hs : Short x "var") (hl : ts.length ≤ 5) (q : Q (.int (if ts.length = 0 then nbV x "var" else -1)) σ) : CallW W cls (n + 3) (.ref 128) [.tup (.str x :: ts)] σ Q E := by
  refine call_of g (fk_128 _) (tbl_of (by kernel_rfl) (by kernel_rfl)) (fun L => s_128 g.K g.C (Nat.le_refl (n + 2)) L) rfl ?_
  walk_at "n"
  simp only [b_128, args0]
  walk_at "u"
  walk_at "n"
  refine ⟨_, rfl, by simp only [big, List.length_cons]; omega, ?_⟩
  walk_at "n"
  try dsimp only
  walk_at "n"
  rw [cw_eqi, isB_b]
  walk_at "n"
  by_cases h : ts.length = 0
  · have : decide (((V.str x :: ts).length : Int) = 1) = true := by
      have : ts = [] := List.eq_nil_of_length_eq_zero h
      subst this; rfl
    rw [this]
    walk_at "n"
    rw [if_pos h] at q
    refine ⟨_, rfl, Int.le_refl _, by simp only [big]; omega, _, rfl, ?_⟩
    walk_at "n"
    exact c_number_behind g hs.1 (by decide) hs.2.1 hs.2.2 q
  · have : decide (((V.str x :: ts).length : Int) = 1) = false := by
      refine decide_eq_false fun z => h ?_
      walk_at "n"
      rw [List.length_cons] at z; omega
      walk_at "n"
    rw [this]
    walk_at "n"
    rw [if_neg h] at q
    exact q

theorem c_variable (g : Gd W) {i : Nat} {σ : St} {Q : V → St → Prop} {E : Xc → St → Prop} (hi : i < 10) (q : Q (enc (.var i)) σ) : CallW W cls (n + 1) (.ref 135) [.int i] σ Q E := by
  refine call_of g (fk_135 _) (tbl_of (by kernel_rfl) (by kernel_rfl)) (fun L => s_135 g.K g.C (Nat.le_refl n) L) rfl ?_
  walk_at "n"
  simp only [b_135, args0]
  walk_at "u"
  walk_at "n"
  refine ⟨_, rfl, ⟨by omega, by omega⟩, ⟨by decide, by decide⟩, ?_⟩
  walk_at "n"
  rw [Int.toNat_natCast, vtx_fmt]
  walk_at "n"
  exact q

theorem vtx_short {i : Nat} (h : i < 10) : Short (vtx i) "var" := by
  refine ⟨show 4 ≤ 1000 by decide, fun c hc => ?_, fun _ => show 1 ≤ 1 by decide⟩
  walk_at "n"
  simp only [vtx, List.mem_cons, List.not_mem_nil, or_false] at hc
  rcases hc with rfl | rfl | rfl | rfl <;> omega
theorem vtx_nb {i : Nat} (h : i < 10) : nbV (vtx i) "var" = i := by
  have e : nbV (vtx i) "var" = if 48 ≤ 48 + i ∧ 48 + i ≤ 57 then ((48 + i : Nat) : Int) - 48 else -1 := rfl
  rw [e, if_pos (by omega)]; omega
  walk_at "n"
theorem leaf_short {x : Str} (h : x ∈ leafs) : Short x "var" := by
  simp only [leafs, List.mem_cons, List.not_mem_nil, or_false] at h
  rcases h with rfl | rfl <;> exact ⟨by decide, by unfold Plain; decide, fun _ => by decide⟩
theorem leaf_nb {x : Str} (h : x ∈ leafs) : nbV x "var" = -1 := by
  simp only [leafs, List.mem_cons, List.not_mem_nil, or_false] at h
  rcases h with rfl | rfl <;> rfl

noncomputable def ixOf : Tm → Int
  | .var i => i
  | _ => -1
theorem c_index (g : Gd W) {t : Tm} {σ : St} {Q : V → St → Prop} {E : Xc → St → Prop} (w : WfM 10 t) (q : Q (.int (ixOf t)) σ) : CallW W cls (n + 3) (.ref 128) [enc t] σ Q E := by
  cases t with
  | lam t => exact c_index_of g (ts := [enc t]) ⟨by decide, by unfold Plain; decide, fun _ => by decide⟩ (show 1 ≤ 5 by decide) q
  | app t u => exact c_index_of g (ts := [enc t, enc u]) ⟨by decide, by unfold Plain; decide, fun _ => by decide⟩ (show 2 ≤ 5 by decide) q
  | var i => exact c_index_of g (ts := []) (vtx_short w) (by decide) (by rw [if_pos (show ([] : List V).length = 0 from rfl), vtx_nb w]; exact q)
  | nam x => exact c_index_of g (ts := []) (leaf_short w) (by decide) (by rw [if_pos (show ([] : List V).length = 0 from rfl), leaf_nb w]; exact q)

noncomputable def lamOf : Tm → Nat
  | .lam _ => 1
  | _ => 0
theorem c_below' (g : Gd W) {t : Tm} {σ : St} {Q : V → St → Prop} {E : Xc → St → Prop} (w : WfM 10 t) (q : Q (.int (lamOf t)) σ) : CallW W cls (n + 1) (.ref 142) [enc t] σ Q E := by
  cases t with
  | lam t => exact c_below g (ts := [enc t]) (show 1 ≤ 5 by decide) (by rw [if_pos ⟨rfl, rfl⟩]; exact q)
  | app t u => exact c_below g (ts := [enc t, enc u]) (show 2 ≤ 5 by decide) (by rw [if_neg (by simp)]; exact q)
  | var i => exact c_below g (ts := []) (by decide) (by rw [if_neg (by simp)]; exact q)
  | nam x => exact c_below g (ts := []) (by decide) (by rw [if_neg (by simp)]; exact q)
end


noncomputable def mv (c : Nat) : Tm → Tm
  | .lam t => .lam (mv (c + 1) t)
  | .app t u => .app (mv c t) (mv c u)
  | .var i => if c ≤ i then .var (i + 1) else .var i
  | .nam x => .nam x

section
variable {i j : Int} {x y : Str} {l m : List V} {Q : V → Prop}
theorem bw_addi : binW .Add (.int i) (.int j) Q = Q (.int (i + j)) := rfl
theorem bw_subi : binW .Sub (.int i) (.int j) Q = Q (.int (i - j)) := rfl
theorem bw_adds : binW .Add (.str x) (.str y) Q = (x.length + y.length ≤ big ∧ Q (.str (x ++ y))) := rfl
theorem bw_addt : binW .Add (.tup l) (.tup m) Q = (l.length + m.length ≤ big ∧ Q (.tup (l ++ m))) := rfl
end

section
variable {W : Wd} {cls : Xc → Addr}

theorem c_moved (g : Gd W) : ∀ (t : Tm) (c n : Nat) (σ : St) (Q : V → St → Prop) (E : Xc → St → Prop), size t + 4 ≤ n → WfM 9 t → c + size t ≤ 200 → Q (enc (mv c t)) σ → CallW W cls n (.ref 147) [enc t, .int 1, .int 0, .int c] σ Q E
  | t, c, n + 1, σ, Q, E, hn, w, hc, q => by
    refine call_of g (fk_147 _) (tbl_of (by kernel_rfl) (by kernel_rfl)) (fun L => s_147 g.K g.C (Nat.le_refl n) L) rfl ?_
    walk_at "n"
    simp only [b_147, args0]
    walk_at "u"
    walk_at "n"
    refine ⟨_, rfl, ?_⟩
    walk_at "n"
    refine (c_index (n := size t) g (w.mono (by decide)) ?_).up (by omega)
    walk_at "n"
    refine ⟨_, rfl, _, rfl, _, rfl, ?_⟩
    walk_at "n"
    rw [bw_addi, cw_ge, isB_b]
    walk_at "n"
    cases t with
    | var i =>
      have hi : i < 9 := w
      by_cases h : c ≤ i
      · have : decide (ixOf (.var i) ≥ (0 : Int) + c) = true := decide_eq_true (by show (i : Int) ≥ 0 + c; omega)
        rw [this]
        walk_at "n"
        refine ⟨_, rfl, _, rfl, ?_⟩
        walk_at "n"
        rw [bw_addi]
        walk_at "n"
        refine ⟨_, rfl, ?_⟩
        walk_at "n"
        rw [cw_lt, isB_b]
        walk_at "n"
        have : decide (ixOf (.var i) + 1 < (c : Int)) = false := decide_eq_false (by show ¬ ((i : Int) + 1 < c); omega)
        rw [this]
        walk_at "n"
        refine ⟨_, rfl, _, rfl, ?_⟩
        walk_at "n"
        have e : ixOf (.var i) + 1 = ((i + 1 : Nat) : Int) := by show (i : Int) + 1 = _; omega
        rw [bw_addi, e]
        walk_at "n"
        refine (c_variable (n := 0) g (by omega) ?_).up (by omega)
        walk_at "n"
        rw [mv, if_pos h] at q
        exact q
      · have : decide (ixOf (.var i) ≥ (0 : Int) + c) = false := decide_eq_false (by show ¬ ((i : Int) ≥ 0 + c); omega)
        rw [this]
        walk_at "n"
        rw [mv, if_neg h] at q
        refine ⟨_, rfl, Int.le_refl _, by simp only [big]; omega, _, rfl, ?_⟩
        walk_at "n"
        exact ⟨_, rfl, by simp [big], 1, rfl, rfl, by omega, by simp, by simp [big], by simp [big], by simp [big], q⟩
    | nam x =>
      have : decide (ixOf (.nam x) ≥ (0 : Int) + c) = false := decide_eq_false (by show ¬ ((-1 : Int) ≥ 0 + c); omega)
      rw [this]
      walk_at "n"
      refine ⟨_, rfl, Int.le_refl _, by simp only [big]; omega, _, rfl, ?_⟩
      walk_at "n"
      exact ⟨_, rfl, by simp [big], 1, rfl, rfl, by omega, by simp, by simp [big], by simp [big], by simp [big], q⟩
    | lam t =>
      have : decide (ixOf (.lam t) ≥ (0 : Int) + c) = false := decide_eq_false (by show ¬ ((-1 : Int) ≥ 0 + c); omega)
      rw [this]
      walk_at "n"
      refine ⟨_, rfl, Int.le_refl _, by simp only [big]; omega, _, rfl, ?_⟩
      walk_at "n"
      refine ⟨_, rfl, by simp [big], 1, rfl, rfl, by omega, by simp, by simp [big], trivial, ?_⟩
      walk_at "n"
      refine ⟨_, rfl, _, rfl, _, rfl, _, rfl, _, rfl, ?_⟩
      walk_at "n"
      refine (c_below' (n := 0) (t := .lam t) g (w.mono (by decide)) ?_).up (by simp only [size] at hn; omega)
      walk_at "n"
      rw [bw_addi]
      walk_at "n"
      have e : ((c : Int) + (lamOf (.lam t) : Nat)) = ((c + 1 : Nat) : Int) := by show (c : Int) + ((1 : Nat) : Int) = _; omega
      rw [e]
      walk_at "n"
      refine c_moved g t (c + 1) n _ _ _ (by simp only [size] at hn; omega) w (by simp only [size] at hc; omega) ⟨rfl, bare_enc _, ?_⟩
      walk_at "n"
      exact ⟨by simp [big], by simp [big], q⟩
    | app t u =>
      have : decide (ixOf (.app t u) ≥ (0 : Int) + c) = false := decide_eq_false (by show ¬ ((-1 : Int) ≥ 0 + c); omega)
      rw [this]
      walk_at "n"
      refine ⟨_, rfl, Int.le_refl _, by simp only [big]; omega, _, rfl, ?_⟩
      walk_at "n"
      refine ⟨_, rfl, by simp [big], 1, rfl, rfl, by omega, by simp, by simp [big], trivial, ?_⟩
      walk_at "n"
      have e : ((c : Int) + (lamOf (.app t u) : Nat)) = (c : Int) := by show (c : Int) + ((0 : Nat) : Int) = _; omega
      refine ⟨_, rfl, _, rfl, _, rfl, _, rfl, _, rfl, ?_⟩
      walk_at "n"
      refine (c_below' (n := 0) (t := .app t u) g ⟨w.1.mono (by decide), w.2.mono (by decide)⟩ ?_).up (by simp only [size] at hn; omega)
      walk_at "n"
      rw [bw_addi, e]
      walk_at "n"
      refine c_moved g t c n _ _ _ (by simp only [size] at hn; omega) w.1 (by simp only [size] at hc; omega) ⟨rfl, bare_enc _, trivial, ?_⟩
      walk_at "n"
      refine ⟨_, rfl, _, rfl, _, rfl, _, rfl, _, rfl, ?_⟩
      walk_at "n"
      refine (c_below' (n := 0) (t := .app t u) g ⟨w.1.mono (by decide), w.2.mono (by decide)⟩ ?_).up (by simp only [size] at hn; omega)
      walk_at "n"
      rw [bw_addi, e]
      walk_at "n"
      refine c_moved g u c n _ _ _ (by simp only [size] at hn; omega) w.2 (by simp only [size] at hc; omega) ⟨rfl, bare_enc _, ?_⟩
      walk_at "n"
      exact ⟨by simp [big], by simp [big], q⟩
end


noncomputable def put (u : Tm) (k : Nat) : Tm → Tm
  | .lam t => .lam (put u (k + 1) t)
  | .app t v => .app (put u k t) (put u k v)
  | .var i => if i = k then u else if k < i then .var (i - 1) else .var i
  | .nam x => .nam x

section
variable {W : Wd} {cls : Xc → Addr}

theorem c_shifted (g : Gd W) (t : Tm) {n : Nat} {σ : St} {Q : V → St → Prop} {E : Xc → St → Prop} (hn : size t + 5 ≤ n) (w : WfM 9 t) (hc : size t ≤ 200) (q : Q (enc (mv 0 t)) σ) : CallW W cls n (.ref 154) [enc t, .int 1, .int 0] σ Q E := by
  obtain ⟨m, rfl⟩ : ∃ m, n = m + 1 := ⟨n - 1, by omega⟩
  refine call_of g (fk_154 _) (tbl_of (by kernel_rfl) (by kernel_rfl)) (fun L => s_154 g.K g.C (Nat.le_refl m) L) rfl ?_
  walk_at "n"
  simp only [b_154, args0]
  walk_at "u"
  walk_at "n"
  refine ⟨_, rfl, _, rfl, _, rfl, ?_⟩
  walk_at "n"
  exact c_moved g t 0 m σ _ E (by omega) w (by omega) q

theorem c_put (g : Gd W) {u : Tm} (wu : WfM 9 u) (su : size u ≤ 100) : ∀ (t : Tm) (k n : Nat) (σ : St) (Q : V → St → Prop) (E : Xc → St → Prop), (mv 0 u = u ∨ ∃ i, t = .var i) → size t + size u + 7 ≤ n → WfM 10 t → k + size t ≤ 200 → Q (enc (put u k t)) σ → CallW W cls n (.ref 159) [enc t, .int k, enc u] σ Q E
  | t, k, n + 1, σ, Q, E, hu, hn, w, hc, q => by
    refine call_of g (fk_159 _) (tbl_of (by kernel_rfl) (by kernel_rfl)) (fun L => s_159 g.K g.C (Nat.le_refl n) L) rfl ?_
    walk_at "n"
    simp only [b_159, args0]
    walk_at "u"
    walk_at "n"
    refine ⟨_, rfl, ?_⟩
    walk_at "n"
    refine (c_index (n := size t) g w ?_).up (by omega)
    walk_at "n"
    refine ⟨_, rfl, ?_⟩
    walk_at "n"
    rw [cw_ge, isB_b]
    walk_at "n"
    cases t with
    | var i =>
      have hi : i < 10 := w
      have : decide (ixOf (.var i) ≥ (0 : Int)) = true := decide_eq_true (by show (i : Int) ≥ 0; omega)
      rw [this]
      walk_at "n"
      refine ⟨_, rfl, _, rfl, ?_⟩
      walk_at "n"
      rw [cw_eqi, isB_b]
      walk_at "n"
      by_cases h : i = k
      · have : decide (ixOf (.var i) = (k : Int)) = true := decide_eq_true (by show (i : Int) = k; omega)
        rw [this]
        walk_at "n"
        rw [put, if_pos h] at q
        exact ⟨_, rfl, q⟩
      · have : decide (ixOf (.var i) = (k : Int)) = false := decide_eq_false (by show ¬ (i : Int) = k; omega)
        rw [this]
        walk_at "n"
        refine ⟨_, rfl, _, rfl, ?_⟩
        walk_at "n"
        rw [cw_gt, isB_b]
        walk_at "n"
        rw [put, if_neg h] at q
        by_cases h2 : k < i
        · have : decide (ixOf (.var i) > (k : Int)) = true := decide_eq_true (by show (i : Int) > k; omega)
          rw [this]
          walk_at "n"
          refine ⟨_, rfl, ?_⟩
          walk_at "n"
          have e : ixOf (.var i) - 1 = ((i - 1 : Nat) : Int) := by show (i : Int) - 1 = _; omega
          rw [bw_subi, e]
          walk_at "n"
          rw [if_pos h2] at q
          exact (c_variable (n := 0) g (by omega) q).up (by omega)
        · have : decide (ixOf (.var i) > (k : Int)) = false := decide_eq_false (by show ¬ (i : Int) > k; omega)
          rw [this]
          walk_at "n"
          rw [if_neg h2] at q
          exact ⟨_, rfl, q⟩
    | nam x =>
      have : decide (ixOf (.nam x) ≥ (0 : Int)) = false := decide_eq_false (by show ¬ ((-1 : Int) ≥ 0); omega)
      rw [this]
      walk_at "n"
      refine ⟨_, rfl, (c_below' (n := 0) (t := .nam x) g w ?_).up (by omega)⟩
      walk_at "n"
      refine ⟨_, rfl, ?_⟩
      walk_at "n"
      rw [cw_gt, isB_b]
      walk_at "n"
      have : decide (((lamOf (.nam x) : Nat) : Int) > 0) = false := rfl
      rw [this]
      walk_at "n"
      refine ⟨_, rfl, ?_⟩
      walk_at "n"
      refine ⟨_, rfl, Int.le_refl _, by simp only [big]; omega, _, rfl, ?_⟩
      walk_at "n"
      exact ⟨_, rfl, by simp [big], 1, rfl, rfl, by omega, by simp, by simp [big], by simp [big], by simp [big], q⟩
    | lam t =>
      have hu : mv 0 u = u := hu.resolve_right fun ⟨i, e⟩ => by cases e
      have : decide (ixOf (.lam t) ≥ (0 : Int)) = false := decide_eq_false (by show ¬ ((-1 : Int) ≥ 0); omega)
      rw [this]
      walk_at "n"
      refine ⟨_, rfl, (c_below' (n := 0) (t := .lam t) g w ?_).up (by simp only [size] at hn; omega)⟩
      walk_at "n"
      refine ⟨_, rfl, ?_⟩
      walk_at "n"
      rw [cw_gt, isB_b]
      walk_at "n"
      have : decide (((lamOf (.lam t) : Nat) : Int) > 0) = true := rfl
      rw [this]
      walk_at "n"
      refine ⟨_, rfl, _, rfl, ?_⟩
      walk_at "n"
      refine c_shifted g u (by simp only [size] at hn; omega) wu (by omega) ?_
      walk_at "n"
      rw [hu]
      walk_at "n"
      refine ⟨_, rfl, Int.le_refl _, by simp only [big]; omega, _, rfl, ?_⟩
      walk_at "n"
      refine ⟨_, rfl, by simp [big], 1, rfl, rfl, by omega, by simp, by simp [big], trivial, ?_⟩
      walk_at "n"
      refine ⟨_, rfl, _, rfl, _, rfl, ?_⟩
      walk_at "n"
      have e : ((k : Int) + (lamOf (.lam t) : Nat)) = ((k + 1 : Nat) : Int) := by show (k : Int) + ((1 : Nat) : Int) = _; omega
      rw [bw_addi, e]
      walk_at "n"
      refine ⟨_, rfl, ?_⟩
      walk_at "n"
      refine c_put g wu su t (k + 1) n _ _ _ (.inl hu) (by simp only [size] at hn; omega) w (by simp only [size] at hc; omega) ⟨rfl, bare_enc _, ?_⟩
      walk_at "n"
      exact ⟨by simp [big], by simp [big], q⟩
    | app t v =>
      have hu : mv 0 u = u := hu.resolve_right fun ⟨i, e⟩ => by cases e
      have : decide (ixOf (.app t v) ≥ (0 : Int)) = false := decide_eq_false (by show ¬ ((-1 : Int) ≥ 0); omega)
      rw [this]
      walk_at "n"
      refine ⟨_, rfl, (c_below' (n := 0) (t := .app t v) g w ?_).up (by simp only [size] at hn; omega)⟩
      walk_at "n"
      refine ⟨_, rfl, ?_⟩
      walk_at "n"
      rw [cw_gt, isB_b]
      walk_at "n"
      have : decide (((lamOf (.app t v) : Nat) : Int) > 0) = false := rfl
      rw [this]
      walk_at "n"
      refine ⟨_, rfl, ?_⟩
      walk_at "n"
      have e : ((k : Int) + (lamOf (.app t v) : Nat)) = (k : Int) := by show (k : Int) + ((0 : Nat) : Int) = _; omega
      refine ⟨_, rfl, Int.le_refl _, by simp only [big]; omega, _, rfl, ?_⟩
      walk_at "n"
      refine ⟨_, rfl, by simp [big], 1, rfl, rfl, by omega, by simp, by simp [big], trivial, ?_⟩
      walk_at "n"
      refine ⟨_, rfl, _, rfl, _, rfl, ?_⟩
      walk_at "n"
      rw [bw_addi, e]
      walk_at "n"
      refine ⟨_, rfl, ?_⟩
      walk_at "n"
      refine c_put g wu su t k n _ _ _ (.inl hu) (by simp only [size] at hn; omega) w.1 (by simp only [size] at hc; omega) ⟨rfl, bare_enc _, trivial, ?_⟩
      walk_at "n"
      refine ⟨_, rfl, _, rfl, _, rfl, ?_⟩
      walk_at "n"
      rw [bw_addi, e]
      walk_at "n"
      refine ⟨_, rfl, ?_⟩
      walk_at "n"
      refine c_put g wu su v k n _ _ _ (.inl hu) (by simp only [size] at hn; omega) w.2 (by simp only [size] at hc; omega) ⟨rfl, bare_enc _, ?_⟩
      walk_at "n"
      exact ⟨by simp [big], by simp [big], q⟩

noncomputable def rdx : Tm → Bool
  | .app (.lam _) _ => true
  | _ => false

theorem c_is_redex (g : Gd W) {t : Tm} {n : Nat} {σ : St} {Q : V → St → Prop} {E : Xc → St → Prop} (hn : 2 ≤ n) (w : WfM 10 t) (q : Q (.bool (rdx t)) σ) : CallW W cls n (.ref 166) [enc t] σ Q E := by
  obtain ⟨m, rfl⟩ : ∃ m, n = m + 1 := ⟨n - 1, by omega⟩
  refine call_of g (fk_166 _) (tbl_of (by kernel_rfl) (by kernel_rfl)) (fun L => s_166 g.K g.C (Nat.le_refl m) L) rfl ?_
  walk_at "n"
  simp only [b_166, args0]
  walk_at "u"
  walk_at "n"
  cases t with
  | app t u =>
    refine ⟨_, rfl, Int.le_refl _, by simp only [big]; omega, _, rfl, ?_⟩
    walk_at "n"
    try dsimp only
    walk_at "n"
    rw [cw_eqs, isB_b]
    walk_at "n"
    have : decide (("app" : Str) = "app") = true := rfl
    rw [this]
    walk_at "n"
    refine ⟨_, rfl, by simp [big], ?_⟩
    walk_at "n"
    try dsimp only
    walk_at "n"
    rw [cw_eqi, isB_b]
    walk_at "n"
    have : decide (((([V.str "app", enc t, enc u] : List V).length : Nat) : Int) = 3) = true := rfl
    rw [this]
    walk_at "n"
    refine ⟨_, rfl, by omega, by simp only [big]; omega, _, rfl, ?_⟩
    walk_at "n"
    refine (c_below' (n := 0) g w.1 ?_).up (by omega)
    walk_at "n"
    rw [cw_eqi, isB_b, isB_b]
    walk_at "n"
    cases t <;> exact q
  | lam t =>
    refine ⟨_, rfl, Int.le_refl _, by simp only [big]; omega, _, rfl, ?_⟩
    walk_at "n"
    try dsimp only
    walk_at "n"
    rw [cw_eqs, isB_b]
    walk_at "n"
    exact q
  | var i =>
    refine ⟨_, rfl, Int.le_refl _, by simp only [big]; omega, _, rfl, ?_⟩
    walk_at "n"
    try dsimp only
    walk_at "n"
    rw [cw_eqs, isB_b]
    walk_at "n"
    have : decide (vtx i = "app") = false := decide_eq_false fun h => by
      have := congrArg (fun s : Str => s.cps.size) h
      exact absurd this (by show ¬ (4 = 3); decide)
    rw [this]
    walk_at "n"
    exact q
  | nam x =>
    refine ⟨_, rfl, Int.le_refl _, by simp only [big]; omega, _, rfl, ?_⟩
    walk_at "n"
    try dsimp only
    walk_at "n"
    rw [cw_eqs, isB_b]
    walk_at "n"
    have : decide (x = "app") = false := by
      have w : x ∈ leafs := w
      simp only [leafs, List.mem_cons, List.not_mem_nil, or_false] at w
      rcases w with rfl | rfl <;> decide
    rw [this]
    walk_at "n"
    exact q

theorem c_part_at (g : Gd W) {t : V} {n : Nat} {σ : St} {Q : V → St → Prop} {E : Xc → St → Prop} (hn : 1 ≤ n) (q : Q t σ) : CallW W cls n (.ref 102) [t, .tup []] σ Q E := by
  obtain ⟨m, rfl⟩ : ∃ m, n = m + 1 := ⟨n - 1, by omega⟩
  refine call_of g (fk_102 _) (tbl_of (by kernel_rfl) (by kernel_rfl)) (fun L => s_102 g.K g.C (Nat.le_refl m) L) rfl ?_
  walk_at "n"
  simp only [b_102, args0]
  walk_at "u"
  walk_at "n"
  exact ⟨_, rfl, by simp [big], _, rfl, q⟩

theorem c_replaced (g : Gd W) {t u : V} {n : Nat} {σ : St} {Q : V → St → Prop} {E : Xc → St → Prop} (hn : 1 ≤ n) (q : Q u σ) : CallW W cls n (.ref 109) [t, .tup [], u] σ Q E := by
  obtain ⟨m, rfl⟩ : ∃ m, n = m + 1 := ⟨n - 1, by omega⟩
  refine call_of g (fk_109 _) (tbl_of (by kernel_rfl) (by kernel_rfl)) (fun L => s_109 g.K g.C (Nat.le_refl m) L) rfl ?_
  walk_at "n"
  simp only [b_109, args0]
  walk_at "u"
  walk_at "n"
  refine ⟨_, rfl, cw_eqt (b := true) (by simp) ⟨by rfl, by rfl⟩ ?_⟩
  walk_at "n"
  rw [isB_b]
  walk_at "n"
  exact ⟨_, rfl, q⟩

theorem c_beta (g : Gd W) {b u : Tm} {n : Nat} {σ : St} {Q : V → St → Prop} {E : Xc → St → Prop} (hn : size b + size u + 8 ≤ n) (wb : WfM 10 b) (hu : mv 0 u = u ∨ ∃ i, b = .var i) (wu : WfM 9 u) (su : size u ≤ 100) (sb : size b ≤ 200) (q : Q (enc (put u 0 b)) σ) :
    CallW W cls n (.ref 173) [enc (.app (.lam b) u), .tup []] σ Q E := by
  obtain ⟨m, rfl⟩ : ∃ m, n = m + 1 := ⟨n - 1, by omega⟩
  refine call_of g (fk_173 _) (tbl_of (by kernel_rfl) (by kernel_rfl)) (fun L => s_173 g.K g.C (Nat.le_refl m) L) rfl ?_
  walk_at "n"
  simp only [b_173, args0]
  walk_at "u"
  walk_at "n"
  refine ⟨_, rfl, _, rfl, ?_⟩
  walk_at "n"
  refine c_part_at g (by omega) ?_
  walk_at "n"
  refine ⟨_, rfl, ?_⟩
  walk_at "n"
  refine c_is_redex g (t := .app (.lam b) u) (by omega) ⟨wb, wu.mono (by decide)⟩ ?_
  walk_at "n"
  have : rdx (.app (.lam b) u) = true := rfl
  rw [this, isB_b, isB_b, Bool.not_true]
  walk_at "n"
  refine ⟨_, rfl, _, rfl, _, rfl, by omega, by simp only [big]; omega, _, rfl, by omega, by simp only [big]; omega, _, rfl, ?_⟩
  walk_at "n"
  refine ⟨_, rfl, by omega, by simp only [big]; omega, _, rfl, ?_⟩
  walk_at "n"
  refine c_put g wu su b 0 m _ _ _ hu (by omega) wb (by omega) ?_
  walk_at "n"
  exact c_replaced g (by omega) q
end


theorem callW_drop {W : Wd} {cls : Xc → Addr} {n : Nat} {f : Value} {args : List V} {σ : St} {Q : V → St → Prop} {E : Xc → St → Prop} (h : CallW W cls n f args σ (fun d σ' => bare d = true ∧ ∃ τ, σ' = σ ++ τ ∧ Q d σ) (fun x σ' => ∃ τ, σ' = σ ++ τ ∧ E x σ)) : CallW W cls n f args σ Q E := by
  intro A fr s hid vs ak base ff sr rs
  have dr : ∀ {h' : Heap} {hid' : List Addr} {τ : St}, Post W [] s.heap hid h' hid' (σ ++ τ) → Post W [] s.heap hid h' hid σ ∧ ∃ new, hid' = hid ++ new := fun {h' hid' τ} p => by
    obtain ⟨new, rfl, _⟩ := p.ext
    exact ⟨⟨p.evo, Ext.refl _ _, p.sr.drop sr.len fun i o e => sr.belows e, p.base⟩, new, rfl⟩
  refine wpAny_mono (h A fr s hid vs ak base ff sr rs) (fun v s' q => ?_) fun ev s' q => ?_
  walk_at "n"
  · obtain ⟨h', tk, hid', d, σ', rfl, p, r, hb, τ, rfl, q⟩ := q
    obtain ⟨p', new, rfl⟩ := dr p
    exact ⟨h', tk, hid, d, σ, rfl, p', VR.drop r (bare_below _ d hb), q⟩
  · obtain ⟨h', tk, hid', x, ea, σ', rfl, p, r, rfl, τ, rfl, q⟩ := q
    obtain ⟨p', new, rfl⟩ := dr p
    exact ⟨h', tk, hid, x, ea, σ, rfl, p', r, rfl, q⟩

noncomputable def nf : Tm → Bool
  | .lam t => nf t
  | .app t u => !rdx (.app t u) && nf t && nf u
  | .var _ => true
  | .nam _ => true

noncomputable def ht : Tm → Nat
  | .lam t => ht t + 1
  | .app t u => max (ht t) (ht u) + 1
  | .var _ => 1
  | .nam _ => 1

theorem strOk_of {x : Str} (h : Plain x) : PyData.strOk x = true := okS (n := 0) h
theorem kqd_enc : ∀ (t : Tm) (k : Nat), WfM 10 t → ht t ≤ k → kqdOk k (vD (enc t)) = true
  | .lam t, k + 1, w, h => by
    have h1 := kqd_enc t k w (by simp only [ht] at h; omega)
    have h2 : kqdOk k (.str "lam") = true := okS (by unfold Plain; decide)
    show (vDs [V.str "lam", enc t]).all (kqdOk k) = true
    simp [vDs, vD, h1, h2]
  | .app t u, k + 1, w, h => by
    have h1 := kqd_enc t k w.1 (by simp only [ht] at h; omega)
    have h3 := kqd_enc u k w.2 (by simp only [ht] at h; omega)
    have h2 : kqdOk k (.str "app") = true := okS (by unfold Plain; decide)
    show (vDs [V.str "app", enc t, enc u]).all (kqdOk k) = true
    simp [vDs, vD, h1, h2, h3]
  | .var i, k + 1, w, h => by
    have h2 : kqdOk k (.str (vtx i)) = true := okS (vtx_short w).2.1
    show (vDs [V.str (vtx i)]).all (kqdOk k) = true
    simp [vDs, vD, h2]
  | .nam x, k + 1, w, h => by
    have h2 : kqdOk k (.str x) = true := okS (leaf_short w).2.1
    show (vDs [V.str x]).all (kqdOk k) = true
    simp [vDs, vD, h2]
  | .lam _, 0, _, h => by simp [ht] at h
  | .app _ _, 0, _, h => by simp [ht] at h
  | .var _, 0, _, h => by simp [ht] at h
  | .nam _, 0, _, h => by simp [ht] at h

section
variable {W : Wd} {cls : Xc → Addr}

theorem forW_cons {b : Loc → St → (Fl → Loc → St → Prop) → Prop} {put : Loc → Nat → V → Loc} {k : Nat} {d : V} {ds : List V} {loc : Loc} {σ : St} {Q : Fl → Loc → St → Prop} :
    forW b put k (d :: ds) loc σ Q = b (put loc k d) σ (fun fl loc σ => match fl with
      | .next => forW b put (k + 1) ds loc σ Q
      | .brk => Q .next loc σ
      | .ret d => Q (.ret d) loc σ) := rfl
theorem forW_nil {b : Loc → St → (Fl → Loc → St → Prop) → Prop} {put : Loc → Nat → V → Loc} {k : Nat} {loc : Loc} {σ : St} {Q : Fl → Loc → St → Prop} : forW b put k [] loc σ Q = Q .next loc σ := rfl

theorem c_first_nf (g : Gd W) : ∀ (t : Tm) (n : Nat) (σ : St) (Q : V → St → Prop) (E : Xc → St → Prop), size t + 3 ≤ n → WfM 10 t → nf t = true → Q .none σ → CallW W cls n (.ref 180) [enc t] σ Q E
  | t, n + 1, σ, Q, E, hn, w, hf, q => by
    refine call_of g (fk_180 _) (tbl_of (by kernel_rfl) (by kernel_rfl)) (fun L => s_180 g.K g.C (Nat.le_refl n) L) rfl ?_
    walk_at "n"
    simp only [b_180, args0]
    walk_at "u"
    walk_at "n"
    refine ⟨_, rfl, ?_⟩
    walk_at "n"
    have hr : rdx t = false := by
      cases t with
      | app t u => simp only [nf, Bool.and_eq_true, Bool.not_eq_true'] at hf; exact hf.1.1
      | _ => rfl
    refine c_is_redex g (by omega) w ?_
    walk_at "n"
    rw [hr, isB_b]
    walk_at "n"
    cases t with
    | var i =>
      refine ⟨_, rfl, by simp [big], ?_⟩
      walk_at "n"
      exact ⟨⟨by simp, by simp [big]⟩, q⟩
    | nam x =>
      refine ⟨_, rfl, by simp [big], ?_⟩
      walk_at "n"
      exact ⟨⟨by simp, by simp [big]⟩, q⟩
    | lam t =>
      refine ⟨_, rfl, by simp [big], ?_⟩
      walk_at "n"
      refine ⟨⟨by simp, by simp [big]⟩, ?_⟩
      walk_at "n"
      show forW _ _ 0 [V.int ((0 : Nat) : Int)] _ _ _
      rw [forW_cons]
      walk_at "n"
      refine ⟨_, rfl, _, rfl, ?_⟩
      walk_at "n"
      rw [bw_addi]
      walk_at "n"
      refine ⟨by decide, by decide, _, rfl, ?_⟩
      walk_at "n"
      refine c_first_nf g t n _ _ _ (by simp only [size] at hn; omega) w (by simpa only [nf] using hf) ?_
      walk_at "n"
      refine ⟨_, rfl, ?_⟩
      walk_at "n"
      rw [cw_isnotnn, isB_b]
      walk_at "n"
      exact q
    | app t u =>
      simp only [nf, Bool.and_eq_true, Bool.not_eq_true'] at hf
      refine ⟨_, rfl, by simp [big], ?_⟩
      walk_at "n"
      refine ⟨⟨by simp, by simp [big]⟩, ?_⟩
      walk_at "n"
      show forW _ _ 0 [V.int ((0 : Nat) : Int), V.int ((1 : Nat) : Int)] _ _ _
      rw [forW_cons]
      walk_at "n"
      refine ⟨_, rfl, _, rfl, ?_⟩
      walk_at "n"
      rw [bw_addi]
      walk_at "n"
      refine ⟨by decide, by decide, _, rfl, ?_⟩
      walk_at "n"
      refine c_first_nf g t n _ _ _ (by simp only [size] at hn; omega) w.1 hf.1.2 ?_
      walk_at "n"
      refine ⟨_, rfl, ?_⟩
      walk_at "n"
      rw [cw_isnotnn, isB_b]
      walk_at "n"
      try dsimp only
      walk_at "n"
      rw [forW_cons]
      walk_at "n"
      refine ⟨_, rfl, _, rfl, ?_⟩
      walk_at "n"
      rw [bw_addi]
      walk_at "n"
      refine ⟨by decide, by decide, _, rfl, ?_⟩
      walk_at "n"
      refine c_first_nf g u n _ _ _ (by simp only [size] at hn; omega) w.2 hf.2 ?_
      walk_at "n"
      refine ⟨_, rfl, ?_⟩
      walk_at "n"
      rw [cw_isnotnn, isB_b]
      walk_at "n"
      exact q

theorem c_first_rdx (g : Gd W) {t : Tm} {n : Nat} {σ : St} {Q : V → St → Prop} {E : Xc → St → Prop} (hn : 3 ≤ n) (w : WfM 10 t) (hf : rdx t = true) (q : Q (.tup []) σ) : CallW W cls n (.ref 180) [enc t] σ Q E := by
  obtain ⟨m, rfl⟩ : ∃ m, n = m + 1 := ⟨n - 1, by omega⟩
  refine call_of g (fk_180 _) (tbl_of (by kernel_rfl) (by kernel_rfl)) (fun L => s_180 g.K g.C (Nat.le_refl m) L) rfl ?_
  walk_at "n"
  simp only [b_180, args0]
  walk_at "u"
  walk_at "n"
  refine ⟨_, rfl, ?_⟩
  walk_at "n"
  refine c_is_redex g (by omega) w ?_
  walk_at "n"
  rw [hf, isB_b]
  walk_at "n"
  exact q

noncomputable def encS (st : List (Tm × Nat)) : List V := st.map fun p => .tup [enc p.1, .int p.2]
noncomputable def sizes (st : List (Tm × Nat)) : Nat := (st.map fun p => size p.1).sum
theorem sizes_snoc (st : List (Tm × Nat)) (p : Tm × Nat) : sizes (st ++ [p]) = sizes st + size p.1 := by simp [sizes]
theorem size_pos (t : Tm) : 0 < size t := by cases t <;> simp [size]
theorem ht_pos (t : Tm) : 0 < ht t := by cases t <;> simp [ht]
noncomputable def kids : Tm → List Tm
  | .lam t => [t]
  | .app t u => [t, u]
  | _ => []
theorem len_sizes : ∀ st : List (Tm × Nat), st.length ≤ sizes st
  | [] => Nat.le_refl _
  | p :: st => by
    have := len_sizes st
    have := size_pos p.1
    simp only [sizes, List.map_cons, List.sum_cons, List.length_cons] at *
    omega
theorem encS_snoc (st : List (Tm × Nat)) (p : Tm × Nat) : encS (st ++ [p]) = encS st ++ [.tup [enc p.1, .int p.2]] := by simp [encS]

noncomputable def StOk (st : List (Tm × Nat)) : Prop := ∀ p ∈ st, WfM 10 p.1 ∧ ht p.1 ≤ 30 ∧ p.2 + ht p.1 ≤ 100

theorem okV_encS {st : List (Tm × Nat)} (h : StOk st) : okV (.list (encS st)) = true := by
  have key : ∀ st : List (Tm × Nat), StOk st → (vDs (encS st)).all (kqdOk 39) = true := by
    intro st
    induction st with
    | nil => intro _; rfl
    | cons p st ih =>
      intro h
      have h1 := h p (.head _)
      have h2 := kqd_enc p.1 38 h1.1 (by omega)
      have h3 : kqdOk 38 (.int (p.2 : Int)) = true := rfl
      have h4 := ih fun q hq => h q (.tail _ hq)
      show (kqdOk 39 (vD (.tup [enc p.1, .int p.2])) && (vDs (encS st)).all (kqdOk 39)) = true
      rw [h4, Bool.and_true]
      walk_at "n"
      show (vDs [enc p.1, .int p.2]).all (kqdOk 38) = true
      simp [vDs, vD, h2, h3]
  exact key st h


noncomputable def bc_185 : ME := .cmp .NotEq (.loc 1) .lst0
noncomputable def bb_185 : MS := (.seq (.unp2 3 4 (.pop (.loc 1))) (.seq (.asg 2 (.bin .Add (.loc 2) (.int 1))) (.seq (.ite (.or (.cmp .Gt (.loc 2) (.glob 32)) (.cmp .Gt (.loc 4) (.glob 33))) (.seq (.ret (.bool true)) .nil) .nil) (.seq (.expr (.extend (.loc 1) (.comp 5 [4] (.tup2 (.loc 5) (.bin .Add (.loc 4) (.int 1))) (.slc (.loc 3) (.int 1) .none) (.bool true)))) .nil))))
theorem b_185_eq : b_185 = .seq (.unp2 1 2 (.tup2 (.new1 (.tup2 (.loc 0) (.int 1))) (.int 0))) (.seq (.whl bc_185 bb_185) (.seq (.ret (.bool false)) .nil)) := rfl

theorem kids_comp {c : Loc → St → (Bool → Prop) → Prop} {elt : Loc → St → (V → Prop) → Prop} {loc : Loc} {σ : St} {lv : Nat} (hc : ∀ loc σ R, R true → c loc σ R) (he : ∀ (d : V) (σ : St) (R : V → Prop), R (.tup [d, .int (lv + 1 : Nat)]) → elt (upd loc 5 d) σ R) :
    ∀ (ts : List Tm) (acc : List V) (Q : List V → Prop), Q (acc ++ encS (ts.map fun t => (t, lv + 1))) → compW c elt 5 loc σ (ts.map enc) acc Q
  | [], acc, Q, q => by rw [List.map_nil, compW]; simpa [encS] using q
  | t :: ts, acc, Q, q => by
    rw [List.map_cons, compW]
    walk_at "n"
    refine hc _ _ _ (he _ _ _ ⟨?_, kids_comp hc he ts _ Q ?_⟩)
    walk_at "n"
    · rw [bare, bares, bares, bares, bare_enc]; rfl
      walk_at "n"
    · simpa [encS] using q

theorem sizes_kids (t : Tm) (lv : Nat) : sizes ((kids t).map fun u => (u, lv)) + 1 = size t := by
  cases t <;> simp [kids, sizes, size]
theorem enc_drop (t : Tm) : ∃ x, enc t = .tup (.str x :: (kids t).map enc) := by
  cases t <;> exact ⟨_, rfl⟩
theorem kids_ok {t : Tm} {lv : Nat} (w : WfM 10 t) (h : ht t ≤ 30) (h2 : lv + ht t ≤ 100) : StOk ((kids t).map fun u => (u, lv + 1)) := by
  intro p hp
  obtain ⟨u, hu, rfl⟩ := List.mem_map.mp hp
  cases t with
  | lam t =>
    simp only [kids, List.mem_singleton] at hu
    subst hu
    simp only [ht] at h h2
    exact ⟨w, by dsimp only; omega, by dsimp only; omega⟩
  | app a b =>
    simp only [kids, List.mem_cons, List.not_mem_nil, or_false] at hu
    simp only [ht] at h h2
    rcases hu with rfl | rfl
    · exact ⟨w.1, by dsimp only; omega, by dsimp only; omega⟩
    · exact ⟨w.2, by dsimp only; omega, by dsimp only; omega⟩
  | var i => simp [kids] at hu
  | nam x => simp [kids] at hu

theorem get_last {σ : St} {o : MO} : (σ ++ [o])[σ.length]? = some o := by rw [List.getElem?_append_right (Nat.le_refl _), Nat.sub_self]; rfl
theorem set_last {σ : St} {o o' : MO} : (σ ++ [o]).set σ.length o' = σ ++ [o'] := by rw [List.set_append_right _ _ (Nat.le_refl _), Nat.sub_self]; rfl

theorem bey_loop {O : V → List V → St → (V → St → Prop) → (Xc → St → Prop) → Prop} {σ : St} {c : Loc → St → (Bool → St → Prop) → Prop} {b : Loc → St → (Fl → Loc → St → Prop) → Prop}
    (hc : ∀ loc σ (Q : Bool → St → Prop), wpE GV MV O bc_185 loc σ (fun d σ => isB d fun b => Q b σ) (fun _ _ => False) → c loc σ Q) (hb : ∀ loc σ Q, wpS GV MV O bb_185 loc σ Q (fun _ _ => False) → b loc σ Q) : ∀ (N : Nat) (st : List (Tm × Nat)) (many : Nat) (loc : Loc) (Q : Fl → Loc → St → Prop), sizes st ≤ N → many + N ≤ 10000 → StOk st → loc 1 = some (.obj σ.length) → loc 2 = some (.int many) →
    (∀ loc', Q .next loc' (σ ++ [.list []])) →
    loopW c b (N + 1) loc (σ ++ [.list (encS st)]) Q := by
  intro N
  induction N with
  | zero =>
    intro st many loc Q hs hm ho h1 h2 q
    have : st = [] := List.eq_nil_of_length_eq_zero (by have := len_sizes st; omega)
    subst this
    rw [loopW]
    walk_at "n"
    refine hc _ _ _ ?_
    walk_at "n"
    simp only [bc_185]
    walk_at "u"
    walk_at "n"
    exact ⟨_, h1, _, get_last, okV_encS ho, q loc⟩
  | succ N ih =>
    intro st many loc Q hs hm ho h1 h2 q
    rw [loopW]
    walk_at "n"
    refine hc _ _ _ ?_
    walk_at "n"
    simp only [bc_185]
    walk_at "u"
    walk_at "n"
    refine ⟨_, h1, _, get_last, okV_encS ho, ?_⟩
    walk_at "n"
    try dsimp only
    walk_at "n"
    rw [isB_b]
    walk_at "n"
    rcases List.eq_nil_or_concat st with rfl | ⟨st', ⟨t, lv⟩, rfl⟩
    · exact q loc
    · have hd : decide (encS (st'.concat (t, lv)) = []) = false := decide_eq_false (by simp [encS])
      rw [hd]
      walk_at "n"
      obtain ⟨w, hh, hh2⟩ := ho (t, lv) (by simp)
      dsimp only at w hh hh2
      walk_at "n"
      have hz : sizes st' + size t ≤ N + 1 := by rw [List.concat_eq_append, sizes_snoc] at hs; exact hs
      have hl : st'.length ≤ 10000 := by have := len_sizes st'; omega
      refine hb _ _ _ ?_
      walk_at "n"
      simp only [bb_185]
      walk_at "u"
      walk_at "n"
      refine ⟨_, h1, encS st', .tup [enc t, .int lv], by rw [List.concat_eq_append, encS_snoc]; exact get_last, by simp only [encS, List.length_map, big]; omega, ?_⟩
      walk_at "n"
      try dsimp only
      walk_at "n"
      refine ⟨.int many, show loc 2 = _ from h2, ?_⟩
      walk_at "n"
      rw [bw_addi]
      walk_at "n"
      refine ⟨_, rfl, ?_⟩
      walk_at "n"
      rw [show GV 32 = .int 20000 from rfl, cw_gt, isB_b]
      walk_at "n"
      have e1 : decide ((many : Int) + 1 > 20000) = false := decide_eq_false (by omega)
      rw [e1]
      walk_at "n"
      refine ⟨_, rfl, ?_⟩
      walk_at "n"
      rw [show GV 33 = .int 150 from rfl, cw_gt, isB_b]
      walk_at "n"
      have e2 : decide ((lv : Int) > 150) = false := decide_eq_false (by omega)
      rw [e2, isB_b]
      walk_at "n"
      refine ⟨_, h1, ⟨_, _, rfl, by rw [set_last]; exact get_last⟩, ?_⟩
      walk_at "n"
      obtain ⟨x, ex⟩ := enc_drop t
      have hk : (kids t).length ≤ 2 := by cases t <;> simp [kids]
      refine ⟨_, rfl, ?_⟩
      walk_at "n"
      show slcW (enc t) (.int 1) .none _
      rw [ex]
      walk_at "n"
      refine ⟨by simp [big]; omega, 1, rfl, rfl, by omega, by simp; omega, ?_⟩
      walk_at "n"
      refine ⟨by simp [big]; omega, ?_⟩
      walk_at "n"
      refine kids_comp (lv := lv) (fun _ _ _ r => ⟨trivial, r⟩) (fun d σ' R r => ⟨_, rfl, _, rfl, ?_⟩) (kids t) [] _ ?_
      walk_at "n"
      · rw [List.nil_append, set_last]
        walk_at "n"
        refine ⟨encS st', get_last, ?_, ?_⟩
        walk_at "n"
        · simp only [encS, List.length_map, big]; omega
        · rw [set_last]
          walk_at "n"
          have e3 : encS st' ++ encS ((kids t).map fun t => (t, lv + 1)) = encS (st' ++ (kids t).map fun t => (t, lv + 1)) := by simp [encS]
          rw [e3]
          walk_at "n"
          refine ih _ (many + 1) _ Q ?_ (by omega) ?_ ?_ ?_ q
          walk_at "n"
          · have := sizes_kids t (lv + 1)
            have e4 : sizes (st' ++ (kids t).map fun t => (t, lv + 1)) = sizes st' + sizes ((kids t).map fun t => (t, lv + 1)) := by simp [sizes]
            rw [e4]; omega
            walk_at "n"
          · intro p hp
            rcases List.mem_append.mp hp with hp | hp
            · exact ho p (by simp [hp])
            · exact kids_ok w hh hh2 p hp
          · exact h1
          · show some (V.int ((many : Int) + 1)) = _
            congr 2
      · rw [bw_addi]
        walk_at "n"
        have : ((lv : Int) + 1) = ((lv + 1 : Nat) : Int) := by omega
        rw [this]
        walk_at "n"
        exact ⟨trivial, r⟩

theorem c_is_beyond (g : Gd W) {t : Tm} {n : Nat} {σ : St} {Q : V → St → Prop} {E : Xc → St → Prop} (hn : 1 ≤ n) (w : WfM 10 t) (hs : size t ≤ 9000) (hh : ht t ≤ 30) (q : Q (.bool false) σ) : CallW W cls n (.ref 185) [enc t] σ Q E := by
  obtain ⟨m, rfl⟩ : ∃ m, n = m + 1 := ⟨n - 1, by omega⟩
  refine callW_drop (call_of g (fk_185 _) (tbl_of (by kernel_rfl) (by kernel_rfl)) (fun L => s_185 g.K g.C (Nat.le_refl m) L) rfl ?_)
  walk_at "n"
  simp only [b_185_eq, args0]
  walk_at "u"
  walk_at "n"
  refine ⟨_, rfl, size t + 1, ?_⟩
  walk_at "n"
  refine bey_loop (O := Orc W cls m) (fun _ _ _ h => h) (fun _ _ _ h => h) (size t) [(t, 1)] 0 _ _ (by simp [sizes]) (by omega) ?_ rfl rfl fun loc' => ?_
  walk_at "n"
  · intro p hp
    rw [List.mem_singleton.mp hp]
    walk_at "n"
    exact ⟨w, hh, by dsimp only; omega⟩
  · exact ⟨rfl, _, rfl, q⟩
end


structure TmOk (t : Tm) : Prop where
  w : WfM 9 t
  s : size t ≤ 100
  h : ht t ≤ 30
theorem TmOk.w10 {t : Tm} (h : TmOk t) : WfM 10 t := h.w.mono (by decide)

inductive Red (v : Tm) : Nat → Tm → Prop
  | done : nf v = true → TmOk v → Red v 0 v
  | step {k : Nat} {b u : Tm} : (mv 0 u = u ∨ ∃ i, b = .var i) → TmOk (.app (.lam b) u) → Red v k (put u 0 b) → Red v (k + 1) (.app (.lam b) u)
theorem Red.ok {v t : Tm} {k : Nat} (r : Red v k t) : TmOk t := by
  cases r with
  | done _ h => exact h
  | step _ h _ => exact h

noncomputable def wc_192 : ME := .not (.call1 (.glob 13) (.loc 0))
noncomputable def wb_192 : MS := (.seq (.asg 3 (.call1 (.glob 12) (.loc 0))) (.seq (.ite (.cmp .Is (.loc 3) .none) (.seq (.ret (.loc 0)) .nil) .nil) (.seq (.ite (.cmp .Eq (.loc 2) (.loc 1)) (.seq .brk .nil) .nil) (.seq (.unp2 0 2 (.tup2 (.call2 (.glob 11) (.loc 0) (.loc 3)) (.bin .Add (.loc 2) (.int 1)))) .nil))))
theorem b_192_eq : b_192 = .seq (.asg 2 (.int 0)) (.seq (.whl wc_192 wb_192) (.seq (.raise (.glob 37) (.str "no normal form within what is let") none) .nil)) := rfl

section
variable {W : Wd}

theorem norm_loop (g : Gd W) {m : Nat} (hm : 210 ≤ m) {v : Tm} {most : Nat} {σ : St} {c : Loc → St → (Bool → St → Prop) → Prop} {b : Loc → St → (Fl → Loc → St → Prop) → Prop}
    (hc : ∀ loc σ (Q : Bool → St → Prop), wpE GV MV (Orc W clsX m) wc_192 loc σ (fun d σ => isB d fun b => Q b σ) (fun _ _ => False) → c loc σ Q) (hb : ∀ loc σ Q, wpS GV MV (Orc W clsX m) wb_192 loc σ Q (fun _ _ => False) → b loc σ Q) :
    ∀ (k : Nat) (t : Tm) (many : Nat) (loc : Loc) (Q : Fl → Loc → St → Prop), Red v k t → many ≤ most → loc 0 = some (enc t) → loc 1 = some (.int most) → loc 2 = some (.int many) →
    (many + k ≤ most → ∀ loc', Q (.ret (enc v)) loc' σ) → (most < many + k → ∀ loc', Q .next loc' σ) → loopW c b (k + 1) loc σ Q := by
  intro k
  induction k with
  | zero =>
    intro t many loc Q r hle h0 h1 h2 q1 q2
    have ok := r.ok
    rw [loopW]
    walk_at "n"
    refine hc _ _ _ ?_
    walk_at "n"
    simp only [wc_192]
    walk_at "u"
    walk_at "n"
    refine ⟨_, h0, ?_⟩
    walk_at "n"
    refine c_is_beyond g (by omega) ok.w10 (by have := ok.s; omega) ok.h ?_
    walk_at "n"
    rw [isB_b]
    walk_at "n"
    rw [isB_b]
    walk_at "n"
    refine hb _ _ _ ?_
    walk_at "n"
    simp only [wb_192]
    walk_at "u"
    walk_at "n"
    refine ⟨_, h0, ?_⟩
    walk_at "n"
    cases r with
    | done hn _ =>
      refine c_first_nf g v m _ _ _ (by have := ok.s; omega) ok.w10 hn ?_
      walk_at "n"
      refine ⟨_, rfl, ?_⟩
      walk_at "n"
      rw [cw_isnn, isB_b]
      walk_at "n"
      exact ⟨_, h0, q1 (by omega) _⟩
  | succ k ih =>
    intro t many loc Q r hle h0 h1 h2 q1 q2
    have ok := r.ok
    rw [loopW]
    walk_at "n"
    refine hc _ _ _ ?_
    walk_at "n"
    simp only [wc_192]
    walk_at "u"
    walk_at "n"
    refine ⟨_, h0, ?_⟩
    walk_at "n"
    refine c_is_beyond g (by omega) ok.w10 (by have := ok.s; omega) ok.h ?_
    walk_at "n"
    rw [isB_b]
    walk_at "n"
    rw [isB_b]
    walk_at "n"
    refine hb _ _ _ ?_
    walk_at "n"
    simp only [wb_192]
    walk_at "u"
    walk_at "n"
    refine ⟨_, h0, ?_⟩
    walk_at "n"
    cases r with
    | @step _ bb u hf _ r =>
      refine c_first_rdx g (by omega) ok.w10 rfl ?_
      walk_at "n"
      refine ⟨_, rfl, ?_⟩
      walk_at "n"
      rw [cw_istn, isB_b]
      walk_at "n"
      refine ⟨.int many, h2, .int most, h1, ?_⟩
      walk_at "n"
      rw [cw_eqi, isB_b]
      walk_at "n"
      by_cases hmm : many = most
      · have : decide ((many : Int) = most) = true := decide_eq_true (by omega)
        rw [this]
        walk_at "n"
        exact q2 (by omega) _
      · have : decide ((many : Int) = most) = false := decide_eq_false (by omega)
        rw [this]
        walk_at "n"
        refine ⟨_, h0, _, rfl, ?_⟩
        walk_at "n"
        obtain ⟨⟨wb, wu⟩, hs, _⟩ := ok
        simp only [size] at hs
        refine c_beta g (by omega) (WfM.mono (b := 9) (b' := 10) (t := bb) (by decide) (show WfM 9 bb from wb)) hf wu (by omega) (by omega) ?_
        walk_at "n"
        refine ⟨.int many, h2, ?_⟩
        walk_at "n"
        rw [bw_addi]
        walk_at "n"
        refine ih _ (many + 1) _ Q r (by omega) rfl h1 ?_ (fun h => q1 (by omega)) (fun h => q2 (by omega))
        walk_at "n"
        show some (V.int ((many : Int) + 1)) = _
        congr 2

theorem c_normal (g : Gd W) {n k : Nat} (hn : 211 ≤ n) {t v : Tm} {most : Nat} {σ : St} {Q : V → St → Prop} {E : Xc → St → Prop} (r : Red v k t) (q : k ≤ most → Q (enc v) σ) (e : most < k → E .limit σ) : CallW W clsX n (.ref 192) [enc t, .int most] σ Q E := by
  obtain ⟨m, rfl⟩ : ∃ m, n = m + 1 := ⟨n - 1, by omega⟩
  refine call_of g (fk_192 _) (tbl_of (by kernel_rfl) (by kernel_rfl)) (fun L => s_192 g (by omega) (Nat.le_refl m) L) rfl ?_
  walk_at "n"
  simp only [b_192_eq]
  walk_at "u"
  walk_at "n"
  refine ⟨k + 1, ?_⟩
  walk_at "n"
  exact norm_loop g (m := m) (by omega) (fun _ _ _ h => h) (fun _ _ _ h => h) k t 0 _ _ r (Nat.zero_le _) rfl rfl rfl (fun h _ => q (by omega)) (fun h _ => e (by omega))

theorem cw_enc {σ : St} {t u : Tm} {Q : Bool → Prop} {b : Bool} (hb : b = true ↔ enc t = enc u) (wt : TmOk t) (wu : TmOk u) (q : Q b) : cmpW σ .Eq (enc t) (enc u) Q := by
  have k1 := kqd_enc t 40 wt.w10 (by have := wt.h; omega)
  have k2 := kqd_enc u 40 wu.w10 (by have := wu.h; omega)
  obtain ⟨x, ex⟩ := enc_drop t
  obtain ⟨y, ey⟩ := enc_drop u
  rw [ex, ey] at hb ⊢
  rw [ex] at k1
  rw [ey] at k2
  exact cw_eqt (b := b) (by rw [hb]; simp only [V.tup.injEq]) ⟨k1, k2⟩ q

theorem c_alike (g : Gd W) {n : Nat} (hn : 212 ≤ n) {t u v v' : Tm} {k k' most : Nat} {σ : St} {Q : V → St → Prop} {E : Xc → St → Prop} {b : Bool} (hb : b = true ↔ enc v = enc v') (r : Red v k t) (r' : Red v' k' u) (wv : TmOk v) (wv' : TmOk v')
    (q : k ≤ most → k' ≤ most → Q (.bool b) σ) (e : most < k ∨ most < k' → E .limit σ) : CallW W clsX n (.ref 199) [enc t, enc u, .int most] σ Q E := by
  obtain ⟨m, rfl⟩ : ∃ m, n = m + 1 := ⟨n - 1, by omega⟩
  refine call_of g (fk_199 _) (tbl_of (by kernel_rfl) (by kernel_rfl)) (fun L => s_199 g.K g.C (Nat.le_refl m) L) rfl ?_
  walk_at "n"
  simp only [b_199, args0]
  walk_at "u"
  walk_at "n"
  refine ⟨_, rfl, _, rfl, ?_⟩
  walk_at "n"
  refine c_normal g (by omega) r (fun h => ?_) (fun h => e (.inl h))
  walk_at "n"
  refine ⟨_, rfl, _, rfl, ?_⟩
  walk_at "n"
  refine c_normal g (by omega) r' (fun h' => ?_) (fun h' => e (.inr h'))
  walk_at "n"
  exact cw_enc hb wv wv' (q h h')

theorem c_law_alike (g : Gd W) {n : Nat} (hn : 213 ≤ n) {t u v v' : Tm} {k k' most : Nat} {σ : St} {Q : V → St → Prop} {E : Xc → St → Prop} {b : Bool} (hb : b = true ↔ enc v = enc v') (r : Red v k t) (r' : Red v' k' u) (wv : TmOk v) (wv' : TmOk v')
    (q : k ≤ most → k' ≤ most → Q (.bool b) σ) (e : most < k ∨ most < k' → Q .none σ) : CallW W clsX n (.ref 341) [enc t, enc u, .int most] σ Q E := by
  obtain ⟨m, rfl⟩ : ∃ m, n = m + 1 := ⟨n - 1, by omega⟩
  refine call_ofF g (fk_341 _) (tbl_of (by kernel_rfl) (by kernel_rfl)) (fun L => s_341 g (Nat.le_refl m) L) rfl ?_
  walk_at "n"
  simp only [b_341, args0]
  walk_at "u"
  walk_at "n"
  refine ⟨_, rfl, _, rfl, _, rfl, ?_⟩
  walk_at "n"
  exact c_alike g (by omega) hb r r' wv wv' q e
end


noncomputable def hnd (cs : List Int) (a : Nat) : MO := .dict [("cells", .list (cs.map .int)), ("at", .int a)]

inductive Tr where
  | lam (x : Str) (t : Tr)
  | app (t u : Tr)
  | name (x : Str)
noncomputable def encT : Tr → V
  | .lam x t => .tup [.str "lam", .str x, encT t]
  | .app t u => .tup [.str "app", encT t, encT u]
  | .name x => .tup [.str "name", .str x]
noncomputable def bnds : List Str := ["p", "y0", "x0", "q7"]
noncomputable def oths : List Str := ["k", "y0", "y1", "m2"]
noncomputable def WfT : Nat → Bool → List Str → Tr → Prop
  | 0, _, _, _ => False
  | f + 1, hd, ar, .lam x t => hd = false ∧ x ∈ bnds ∧ WfT f false (ar ++ [x]) t
  | f + 1, _, ar, .app t u => WfT f true ar t ∧ WfT f false ar u
  | _ + 1, _, ar, .name x => x ∈ ar ∨ x ∈ oths
noncomputable def vstr (l : List Str) : List V := l.map .str

theorem bw_muli {i j : Int} {Q : V → Prop} : binW .Mult (.int i) (.int j) Q = ((-(big : Int) < i ∧ i < (big : Int)) ∧ Q (.int (i * j))) := rfl
theorem bw_modi {i j : Int} {Q : V → Prop} : binW .Mod (.int i) (.int j) Q = (0 < j ∧ Q (.int (i % j))) := rfl
theorem bw_divi {i j : Int} {Q : V → Prop} : binW .FloorDiv (.int i) (.int j) Q = ((0 < j ∧ j < (big : Int) ∧ -(2 ^ 50) < i ∧ i < 2 ^ 50) ∧ Q (.int (i / j))) := rfl
theorem bw_addl {l m : List V} {Q : V → Prop} : binW .Add (.list l) (.list m) Q = (l.length + m.length ≤ big ∧ Q (.list (l ++ m))) := rfl

section
variable {W : Wd} {cls : Xc → Addr}

theorem c_digit (g : Gd W) {i a w n : Nat} {cs : List Int} {σ : St} {Q : V → St → Prop} {E : Xc → St → Prop} (hn : 1 ≤ n) (hi : σ[i]? = some (hnd cs a)) (ha : a ≤ 9000) (hw : 0 < w) (hcs : cs.length ≤ 100) (q : ∀ d : Nat, d < w → Q (.int d) (σ.set i (hnd cs (a + 1)))) :
    CallW W cls n (.ref 285) [.obj i, .int w] σ Q E := by
  obtain ⟨m, rfl⟩ : ∃ m, n = m + 1 := ⟨n - 1, by omega⟩
  refine call_of g (fk_285 _) (tbl_of (by kernel_rfl) (by kernel_rfl)) (fun L => s_285 g.K g.C (Nat.le_refl m) L) rfl ?_
  walk_at "n"
  simp only [b_285, args0]
  walk_at "u"
  walk_at "n"
  have hlt : i < σ.length := (List.getElem?_eq_some_iff.mp hi).1
  have fin : ∀ r : Int, Q (.int (r % (w : Int))) (σ.set i (hnd cs (a + 1))) := fun r => by
    have h1 := Int.emod_nonneg r (show (w : Int) ≠ 0 by omega)
    have h2 := Int.emod_lt_of_pos r (show (0 : Int) < w by omega)
    have := q (r % (w : Int)).toNat (by omega)
    rwa [Int.toNat_of_nonneg h1] at this
  refine ⟨_, rfl, _, hi, _, rfl, ?_⟩
  walk_at "n"
  refine ⟨_, rfl, ?_⟩
  walk_at "n"
  rw [bw_addi]
  walk_at "n"
  refine ⟨_, rfl, _, hi, show 2 ≤ 900 by decide, show [("cells" : Str), "at"].Nodup by decide, show (decide (("cells" : Str) = "at") || (decide (("at" : Str) = "at") || false)) = true by decide, ?_⟩
  walk_at "n"
  have e : [(Str.ofString "cells", V.list (cs.map .int)), (Str.ofString "at", V.int a)].map (fun p => if p.1 = Str.ofString "at" then (p.1, V.int ((a : Int) + 1)) else p) = [(Str.ofString "cells", V.list (cs.map .int)), (Str.ofString "at", V.int ((a + 1 : Nat) : Int))] := by
    have h1 : ¬ ((Str.ofString "cells") = (Str.ofString "at")) := by decide
    have h2 : ((a : Int) + 1) = ((a + 1 : Nat) : Int) := by omega
    simp only [List.map_cons, List.map_nil, if_neg h1, if_true, h2]
  rw [e]
  walk_at "n"
  have hi' : (σ.set i (hnd cs (a + 1)))[i]? = some (hnd cs (a + 1)) := by rw [List.getElem?_set_self hlt]
  refine ⟨_, rfl, _, rfl, _, hi', _, rfl, ?_⟩
  walk_at "n"
  refine ⟨by simp only [List.length_map, big]; omega, ?_⟩
  walk_at "n"
  try dsimp only
  walk_at "n"
  rw [cw_lt, isB_b]
  walk_at "n"
  by_cases h : a < cs.length
  · have : decide ((a : Int) < ((cs.map V.int).length : Nat)) = true := decide_eq_true (by rw [List.length_map]; omega)
    rw [this]
    walk_at "n"
    refine ⟨_, rfl, _, hi', _, rfl, ?_⟩
    walk_at "n"
    refine ⟨_, rfl, by omega, by simp only [big]; omega, .int cs[a], ?_, ?_⟩
    walk_at "n"
    · rw [Int.toNat_natCast, List.getElem?_map, List.getElem?_eq_getElem h]; rfl
      walk_at "n"
    · refine ⟨_, rfl, ?_⟩
      walk_at "n"
      rw [bw_modi]
      walk_at "n"
      exact ⟨by omega, fin _⟩
  · have : decide ((a : Int) < ((cs.map V.int).length : Nat)) = false := decide_eq_false (by rw [List.length_map]; omega)
    rw [this]
    walk_at "n"
    have haa : (a : Int) * a ≤ 81000000 := by
      have h1 : (a : Int) ≤ 9000 := by omega
      have h0 : (0 : Int) ≤ a := by omega
      exact Int.le_trans (Int.mul_le_mul h1 h1 h0 (by decide)) (by decide)
    have h0 : (0 : Int) ≤ (a : Int) * a := Int.mul_nonneg (by omega) (by omega)
    refine ⟨_, rfl, _, rfl, ?_⟩
    walk_at "n"
    rw [bw_muli]
    walk_at "n"
    refine ⟨⟨by simp only [big]; omega, by simp only [big]; omega⟩, _, rfl, ?_⟩
    walk_at "n"
    rw [bw_muli]
    walk_at "n"
    refine ⟨⟨by simp only [big]; omega, by simp only [big]; omega⟩, ?_⟩
    walk_at "n"
    rw [bw_addi, bw_addi, bw_divi]
    walk_at "n"
    refine ⟨⟨by decide, by decide, by omega, by omega⟩, _, rfl, ?_⟩
    walk_at "n"
    rw [bw_modi]
    walk_at "n"
    exact ⟨by omega, fin _⟩

theorem set_set {σ : St} {i : Nat} {x y : MO} : (σ.set i x).set i y = σ.set i y := List.set_set ..
theorem get_set {σ : St} {i : Nat} {x y : MO} (h : σ[i]? = some x) : (σ.set i y)[i]? = some y := by rw [List.getElem?_set_self (List.getElem?_eq_some_iff.mp h).1]

noncomputable def plainNames : List Str := ["p", "y0", "x0", "q7", "k", "y1", "m2", "z", "x1", "x2", "x3", "var2"]
theorem plain_names : ∀ x ∈ plainNames, Plain x := by
  have : (plainNames.all fun x => x.cps.toList.all fun c => decide (c < 128)) = true := by decide +kernel
  intro x hx c hc
  exact of_decide_eq_true (List.all_eq_true.mp (List.all_eq_true.mp this x hx) c hc)

theorem okV_vstr {l : List Str} (h : ∀ x ∈ l, Plain x) : okV (.list (vstr l)) = true := by
  have key : ∀ l : List Str, (∀ x ∈ l, Plain x) → (vDs (vstr l)).all (kqdOk 39) = true := by
    intro l
    induction l with
    | nil => intro _; rfl
    | cons x l ih =>
      intro h
      have h1 : kqdOk 39 (.str x) = true := okS (h x (.head _))
      have h2 := ih fun y hy => h y (.tail _ hy)
      show (kqdOk 39 (vD (.str x)) && (vDs (vstr l)).all (kqdOk 39)) = true
      rw [h2, vD, h1]; rfl
      walk_at "n"
  exact key l h

theorem bnd_plain {x : Str} (h : x ∈ bnds) : x ∈ plainNames := by
  simp only [bnds, plainNames, List.mem_cons, List.not_mem_nil, or_false] at h ⊢
  rcases h with rfl | rfl | rfl | rfl <;> simp
theorem oth_plain {x : Str} (h : x ∈ oths) : x ∈ plainNames := by
  simp only [oths, plainNames, List.mem_cons, List.not_mem_nil, or_false] at h ⊢
  rcases h with rfl | rfl | rfl | rfl <;> simp

noncomputable def bt_292 : MS := (.seq (.ite (.and (.cmp .Lt (.loc 4) (.int 2)) (.not (.loc 3))) (.seq (.asg 5 (.idx (.glob 35) (.call2 (.glob 20) (.loc 0) (.int 4)))) (.seq (.ret (.tup3 (.str "lam") (.loc 5) (.call4 (.glob 21) (.loc 0) (.bin .Add (.loc 1) (.lst1 (.loc 5))) (.bin .Sub (.loc 2) (.int 1)) (.bool false)))) .nil)) .nil) (.seq (.ite (.cmp2 .Lt .Lt (.int 1) (.loc 4) (.int 5)) (.seq (.asg 6 (.call4 (.glob 21) (.loc 0) (.loc 1) (.bin .Sub (.loc 2) (.int 1)) (.bool true))) (.seq (.ret (.tup3 (.str "app") (.loc 6) (.call4 (.glob 21) (.loc 0) (.loc 1) (.bin .Sub (.loc 2) (.int 1)) (.bool false)))) .nil)) .nil) (.seq (.ite (.and (.cmp .NotEq (.loc 1) (.lst0)) (.cmp .Gt (.call2 (.glob 20) (.loc 0) (.int 3)) (.int 0))) (.seq (.ret (.tup2 (.str "name") (.idx (.loc 1) (.call2 (.glob 20) (.loc 0) (.len (.loc 1)))))) .nil) .nil) (.seq (.ret (.tup2 (.str "name") (.idx (.glob 36) (.call2 (.glob 20) (.loc 0) (.int 4))))) .nil))))
theorem b_292_eq : b_292 = .seq (.asg 4 (.ite (.cmp .Gt (.loc 2) (.int 1)) (.call2 (.glob 20) (.loc 0) (.int 6)) (.int 5))) bt_292 := rfl

theorem bnd_at {d : Nat} (h : d < 4) : ∃ x, x ∈ bnds ∧ ([.str "p", .str "y0", .str "x0", .str "q7"] : List V)[((d : Nat) : Int).toNat]? = some (.str x) := by
  rcases (by omega : d = 0 ∨ d = 1 ∨ d = 2 ∨ d = 3) with rfl | rfl | rfl | rfl
  · exact ⟨"p", by decide, rfl⟩
  · exact ⟨"y0", by decide, rfl⟩
  · exact ⟨"x0", by decide, rfl⟩
  · exact ⟨"q7", by decide, rfl⟩
theorem oth_at {d : Nat} (h : d < 4) : ∃ x, x ∈ oths ∧ ([.str "k", .str "y0", .str "y1", .str "m2"] : List V)[((d : Nat) : Int).toNat]? = some (.str x) := by
  rcases (by omega : d = 0 ∨ d = 1 ∨ d = 2 ∨ d = 3) with rfl | rfl | rfl | rfl
  · exact ⟨"k", by decide, rfl⟩
  · exact ⟨"y0", by decide, rfl⟩
  · exact ⟨"y1", by decide, rfl⟩
  · exact ⟨"m2", by decide, rfl⟩

theorem c_tree (g : Gd W) {i : Nat} {cs : List Int} (hcs : cs.length ≤ 100) : ∀ (f : Nat) (hd : Bool) (ar : List Str) (a n : Nat) (σ : St) (Q : V → St → Prop) (E : Xc → St → Prop), 0 < f → f ≤ 4 → f + 2 ≤ n → (∀ x ∈ ar, x ∈ bnds) → ar.length + f ≤ 10 → σ[i]? = some (hnd cs a) → a + 3 * 2 ^ f ≤ 8000 →
    (∀ t a', WfT f hd ar t → a ≤ a' → a' + 1 ≤ a + 3 * 2 ^ f → Q (encT t) (σ.set i (hnd cs a'))) → CallW W cls n (.ref 292) [.obj i, .list (vstr ar), .int f, .bool hd] σ Q E
  | f + 1, hd, ar, a, n + 1, σ, Q, E, h0, h4, hn, har, hl, hi, ha, q => by
    refine call_of g (fk_292 _) (tbl_of (by kernel_rfl) (by kernel_rfl)) (fun L => s_292 g.K g.C (Nat.le_refl n) L) rfl ?_
    walk_at "n"
    have hp : 3 * 2 ^ (f + 1) = 3 * 2 ^ f + 3 * 2 ^ f := by rw [Nat.pow_succ]; omega
    have hp1 : 1 ≤ 2 ^ f := Nat.one_le_two_pow
    have ef : ((f + 1 : Nat) : Int) - 1 = (f : Int) := by omega
    have hlen : (vstr ar).length = ar.length := by simp [vstr]
    have rest : ∀ (way a₁ : Nat) (σ₁ : St), way < 6 → σ₁[i]? = some (hnd cs a₁) → a ≤ a₁ → a₁ ≤ a + 1 → (way < 5 → 0 < f) → (∀ t a', WfT (f + 1) hd ar t → a₁ ≤ a' → a' + 1 ≤ a + 3 * 2 ^ (f + 1) → Q (encT t) (σ₁.set i (hnd cs a'))) →
        wpS GV MV (Orc W cls n) bt_292 (upd (args0 [.obj i, .list (vstr ar), .int ((f + 1 : Nat) : Int), .bool hd]) 4 (.int way)) σ₁ (fun fl _ σ => match fl with | .ret d => Q d σ | .next => Q .none σ | .brk => False) E := by
      intro way a₁ σ₁ hw hi₁ h1 h2 h3 q
      simp only [bt_292]
      walk_at "u"
      walk_at "n"
      -- no lam
      have nolam : ¬ (way < 2 ∧ hd = false) → (wpS GV MV (Orc W cls n) (.seq (.ite (.cmp2 .Lt .Lt (.int 1) (.loc 4) (.int 5)) (.seq (.asg 6 (.call4 (.glob 21) (.loc 0) (.loc 1) (.bin .Sub (.loc 2) (.int 1)) (.bool true))) (.seq (.ret (.tup3 (.str "app") (.loc 6) (.call4 (.glob 21) (.loc 0) (.loc 1) (.bin .Sub (.loc 2) (.int 1)) (.bool false)))) .nil)) .nil) (.seq (.ite (.and (.cmp .NotEq (.loc 1) (.lst0)) (.cmp .Gt (.call2 (.glob 20) (.loc 0) (.int 3)) (.int 0))) (.seq (.ret (.tup2 (.str "name") (.idx (.loc 1) (.call2 (.glob 20) (.loc 0) (.len (.loc 1)))))) .nil) .nil) (.seq (.ret (.tup2 (.str "name") (.idx (.glob 36) (.call2 (.glob 20) (.loc 0) (.int 4))))) .nil))) (upd (args0 [.obj i, .list (vstr ar), .int ((f + 1 : Nat) : Int), .bool hd]) 4 (.int way)) σ₁ (fun fl _ σ => match fl with | .ret d => Q d σ | .next => Q .none σ | .brk => False) E) := by
        intro _
        have nm : wpS GV MV (Orc W cls n) (.seq (.ite (.and (.cmp .NotEq (.loc 1) (.lst0)) (.cmp .Gt (.call2 (.glob 20) (.loc 0) (.int 3)) (.int 0))) (.seq (.ret (.tup2 (.str "name") (.idx (.loc 1) (.call2 (.glob 20) (.loc 0) (.len (.loc 1)))))) .nil) .nil) (.seq (.ret (.tup2 (.str "name") (.idx (.glob 36) (.call2 (.glob 20) (.loc 0) (.int 4))))) .nil)) (upd (args0 [.obj i, .list (vstr ar), .int ((f + 1 : Nat) : Int), .bool hd]) 4 (.int way)) σ₁ (fun fl _ σ => match fl with | .ret d => Q d σ | .next => Q .none σ | .brk => False) E := by
          walk_at "u"
          walk_at "n"
          have free : ∀ (a₂ : Nat) (σ₂ : St), σ₂[i]? = some (hnd cs a₂) → a₁ ≤ a₂ → a₂ ≤ a₁ + 1 → (∀ t a', WfT (f + 1) hd ar t → a₂ ≤ a' → a' + 1 ≤ a + 3 * 2 ^ (f + 1) → Q (encT t) (σ₂.set i (hnd cs a'))) →
              Orc W cls n (GV 20) [.obj i, .int 4] σ₂ (fun d' σ => idxW σ (GV 36) d' fun r => Q (.tup [.str "name", r]) σ) E := by
            intro a₂ σ₂ hi₂ h5 h6 q
            refine c_digit g (w := 4) (by omega) hi₂ (by omega) (by omega) hcs fun d hd4 => ?_
            walk_at "n"
            obtain ⟨x, hx, ex⟩ := oth_at hd4
            show idxW _ (.tup [.str "k", .str "y0", .str "y1", .str "m2"]) _ _
            exact ⟨by omega, by simp only [big]; omega, _, ex, q (.name x) (a₂ + 1) (.inr hx) (by omega) (by omega)⟩
          refine ⟨_, rfl, ?_⟩
          walk_at "n"
          have hpl : ∀ x ∈ ar, Plain x := fun x hx => plain_names x (bnd_plain (har x hx))
          by_cases he : ar = []
          · refine cw_nel (b := true) (by rw [he]; simp [vstr]) ⟨okV_vstr hpl, by rfl⟩ ?_
            walk_at "n"
            rw [Bool.not_true, isB_b, isB_b]
            walk_at "n"
            exact ⟨_, rfl, free a₁ σ₁ hi₁ (Nat.le_refl _) (by omega) q⟩
          · refine cw_nel (b := false) (by simp [vstr, he]) ⟨okV_vstr hpl, by rfl⟩ ?_
            walk_at "n"
            rw [Bool.not_false, isB_b]
            walk_at "n"
            refine ⟨_, rfl, ?_⟩
            walk_at "n"
            refine c_digit g (w := 3) (by omega) hi₁ (by omega) (by omega) hcs fun d hd3 => ?_
            walk_at "n"
            rw [cw_gt, isB_b, isB_b]
            walk_at "n"
            by_cases hd0 : 0 < d
            · have : decide ((d : Int) > 0) = true := decide_eq_true (by omega)
              rw [this]
              walk_at "n"
              refine ⟨_, rfl, _, rfl, _, rfl, by rw [hlen]; simp only [big]; omega, ?_⟩
              walk_at "n"
              try dsimp only
              walk_at "n"
              rw [hlen]
              walk_at "n"
              have hpos : 0 < ar.length := by cases ar with | nil => exact absurd rfl he | cons => simp
              refine c_digit g (w := ar.length) (by omega) (get_set hi₁) (by omega) hpos hcs fun e he' => ?_
              walk_at "n"
              refine ⟨by omega, by simp only [big]; omega, .str ar[e], ?_, ?_⟩
              walk_at "n"
              · rw [Int.toNat_natCast, vstr, List.getElem?_map, List.getElem?_eq_getElem he']; rfl
                walk_at "n"
              · rw [set_set]
                walk_at "n"
                exact q (.name ar[e]) (a₁ + 1 + 1) (.inl (List.getElem_mem he')) (by omega) (by omega)
            · have : decide ((d : Int) > 0) = false := decide_eq_false (by omega)
              rw [this]
              walk_at "n"
              exact ⟨_, rfl, free (a₁ + 1) _ (get_set hi₁) (by omega) (by omega) fun t a' wt h5 h6 => by rw [set_set]; exact q t a' wt (by omega) h6⟩
        walk_at "u"
        walk_at "n"
        refine ⟨_, rfl, ?_⟩
        walk_at "n"
        rw [cw_lt]
        walk_at "n"
        by_cases hw1 : 1 < way
        · have : decide ((1 : Int) < way) = true := decide_eq_true (by omega)
          rw [this]
          walk_at "n"
          try dsimp only
          walk_at "n"
          rw [cw_lt, isB_b]
          walk_at "n"
          by_cases hw5 : way < 5
          · have : decide ((way : Int) < 5) = true := decide_eq_true (by omega)
            rw [this]
            walk_at "n"
            walk_at "u"
            walk_at "n"
            refine ⟨_, rfl, _, rfl, _, rfl, ?_⟩
            walk_at "n"
            rw [bw_subi, ef]
            walk_at "n"
            refine c_tree g hcs f true ar a₁ n _ _ _ (h3 hw5) (by omega) (by omega) har (by omega) hi₁ (by omega) fun t a' wt h5 h6 => ?_
            walk_at "n"
            refine ⟨_, rfl, _, rfl, _, rfl, _, rfl, ?_⟩
            walk_at "n"
            rw [bw_subi, ef]
            walk_at "n"
            refine c_tree g hcs f false ar a' n _ _ _ (h3 hw5) (by omega) (by omega) har (by omega) (get_set hi₁) (by omega) fun u a'' wu h7 h8 => ?_
            walk_at "n"
            rw [set_set]
            walk_at "n"
            exact q (.app t u) a'' ⟨wt, wu⟩ (by omega) (by omega)
          · have : decide ((way : Int) < 5) = false := decide_eq_false (by omega)
            rw [this]
            walk_at "n"
            exact nm
        · have : decide ((1 : Int) < way) = false := decide_eq_false (by omega)
          rw [this]
          walk_at "n"
          exact nm
      refine ⟨_, rfl, ?_⟩
      walk_at "n"
      rw [cw_lt, isB_b]
      walk_at "n"
      by_cases hw2 : way < 2
      · have : decide ((way : Int) < 2) = true := decide_eq_true (by omega)
        rw [this]
        walk_at "n"
        refine ⟨_, rfl, ?_⟩
        walk_at "n"
        rw [isB_b, isB_b, isB_b]
        walk_at "n"
        cases hd with
        | true => exact nolam (by simp)
        | false =>
          refine ⟨_, rfl, ?_⟩
          walk_at "n"
          refine c_digit g (w := 4) (by omega) hi₁ (by omega) (by omega) hcs fun d hd4 => ?_
          walk_at "n"
          obtain ⟨x, hx, ex⟩ := bnd_at hd4
          show idxW _ (.tup [.str "p", .str "y0", .str "x0", .str "q7"]) _ _
          refine ⟨by omega, by simp only [big]; omega, _, ex, ?_⟩
          walk_at "n"
          refine ⟨_, rfl, _, rfl, _, rfl, _, rfl, ?_⟩
          walk_at "n"
          rw [bw_addl]
          walk_at "n"
          refine ⟨by rw [hlen]; simp only [List.length_cons, List.length_nil, big]; omega, _, rfl, ?_⟩
          walk_at "n"
          rw [bw_subi, ef]
          walk_at "n"
          have ea : vstr ar ++ [.str x] = vstr (ar ++ [x]) := by simp [vstr]
          rw [ea]
          walk_at "n"
          refine c_tree g hcs f false (ar ++ [x]) (a₁ + 1) n _ _ _ (h3 (by omega)) (by omega) (by omega) (fun y hy => ?_) (by rw [List.length_append]; simp only [List.length_cons, List.length_nil]; omega) (get_set hi₁) (by omega) fun t a' wt h5 h6 => ?_
          walk_at "n"
          · rcases List.mem_append.mp hy with hy | hy
            · exact har y hy
            · rw [List.mem_singleton.mp hy]; exact hx
              walk_at "n"
          · rw [set_set]
            walk_at "n"
            exact q (.lam x t) a' ⟨rfl, hx, wt⟩ (by omega) (by omega)
      · have : decide ((way : Int) < 2) = false := decide_eq_false (by omega)
        rw [this, isB_b]
        walk_at "n"
        exact nolam (by omega)
    simp only [b_292_eq, args0]
    walk_at "u"
    walk_at "n"
    refine ⟨_, rfl, ?_⟩
    walk_at "n"
    rw [cw_gt, isB_b]
    walk_at "n"
    by_cases hf : 0 < f
    · have : decide (((f + 1 : Nat) : Int) > 1) = true := decide_eq_true (by omega)
      rw [this]
      walk_at "n"
      refine ⟨_, rfl, ?_⟩
      walk_at "n"
      refine c_digit g (w := 6) (by omega) hi (by omega) (by omega) hcs fun d hd6 => ?_
      walk_at "n"
      exact rest d (a + 1) _ hd6 (get_set hi) (by omega) (by omega) (fun _ => hf) fun t a' wt h5 h6 => by rw [set_set]; exact q t a' wt (by omega) h6
    · have : decide (((f + 1 : Nat) : Int) > 1) = false := decide_eq_false (by omega)
      rw [this]
      walk_at "n"
      exact rest 5 a σ (by omega) hi (by omega) (by omega) (fun h => by omega) fun t a' wt h5 h6 => q t a' wt h5 h6
end


noncomputable def lastFrom (x : Str) : Nat → List Str → Int → Int
  | _, [], r => r
  | k, y :: ys, r => lastFrom x (k + 1) ys (if y = x then k else r)
noncomputable def lastIx (x : Str) (ar : List Str) : Int := lastFrom x 0 ar (-1)
theorem lastFrom_snoc (x z : Str) : ∀ (ys : List Str) (k : Nat) (r : Int), lastFrom x k (ys ++ [z]) r = if z = x then ((k + ys.length : Nat) : Int) else lastFrom x k ys r
  | [], k, r => by
    rw [List.nil_append, lastFrom, lastFrom, lastFrom]; rfl
    walk_at "n"
  | y :: ys, k, r => by
    rw [List.cons_append, lastFrom, lastFrom_snoc x z ys, lastFrom]
    walk_at "n"
    split
    · rw [List.length_cons]; congr 1; omega
      walk_at "n"
    · rfl
theorem lastIx_snoc (x z : Str) (ar : List Str) : lastIx x (ar ++ [z]) = if z = x then (ar.length : Int) else lastIx x ar := by
  unfold lastIx
  rw [lastFrom_snoc]
  walk_at "n"
  simp
theorem lastIx_lt (x : Str) (ar : List Str) : lastIx x ar < ar.length := by
  suffices h : ∀ n (ar : List Str), ar.length = n → lastIx x ar < ar.length from h _ ar rfl
  intro n
  induction n with
  | zero => intro ar h; rw [List.eq_nil_of_length_eq_zero h]; show (-1 : Int) < 0; decide
  | succ n ih =>
    intro ar h
    rcases List.eq_nil_or_concat ar with rfl | ⟨ys, z, rfl⟩
    · simp at h
    · rw [List.concat_eq_append] at h ⊢
      rw [lastIx_snoc]
      walk_at "n"
      rw [List.length_append] at h ⊢
      simp only [List.length_cons, List.length_nil] at h ⊢
      have := ih ys (by omega)
      split <;> omega
theorem lastIx_ge (x : Str) (ar : List Str) : -1 ≤ lastIx x ar := by
  suffices h : ∀ n (ar : List Str), ar.length = n → -1 ≤ lastIx x ar from h _ ar rfl
  intro n
  induction n with
  | zero => intro ar h; rw [List.eq_nil_of_length_eq_zero h]; show (-1 : Int) ≤ -1; decide
  | succ n ih =>
    intro ar h
    rcases List.eq_nil_or_concat ar with rfl | ⟨ys, z, rfl⟩
    · simp at h
    · rw [List.concat_eq_append] at h ⊢
      rw [lastIx_snoc]
      walk_at "n"
      rw [List.length_append] at h
      simp only [List.length_cons, List.length_nil] at h
      have := ih ys (by omega)
      split <;> omega
theorem lastIx_mem {x : Str} {ar : List Str} : x ∈ ar ↔ 0 ≤ lastIx x ar := by
  suffices h : ∀ n (ar : List Str), ar.length = n → (x ∈ ar ↔ 0 ≤ lastIx x ar) from h _ ar rfl
  intro n
  induction n with
  | zero => intro ar h; rw [List.eq_nil_of_length_eq_zero h]; simp [lastIx, lastFrom]
  | succ n ih =>
    intro ar h
    rcases List.eq_nil_or_concat ar with rfl | ⟨ys, z, rfl⟩
    · simp at h
    · rw [List.concat_eq_append] at h ⊢
      rw [lastIx_snoc]
      walk_at "n"
      rw [List.length_append] at h
      simp only [List.length_cons, List.length_nil] at h
      have := ih ys (by omega)
      by_cases hz : z = x
      · rw [if_pos hz]; simp [hz]
        walk_at "n"
      · rw [if_neg hz, ← this]
        walk_at "n"
        simp [Ne.symm hz]

noncomputable def yn (x : Str) : Option Nat := if x = "y0" then some 0 else if x = "y1" then some 1 else none
noncomputable def core : Tr → List Str → Tm
  | .lam x t, ar => .lam (core t (ar ++ [x]))
  | .app t u, ar => .app (core t ar) (core u ar)
  | .name x, ar => if 0 ≤ lastIx x ar then .var (ar.length - 1 - (lastIx x ar).toNat) else match yn x with
    | some k => .var (k + ar.length)
    | none => .nam x
noncomputable def dgs (i : Nat) : Str := ⟨#[48 + i]⟩
noncomputable def shown : Tr → List Str → Str
  | .lam x t, ar => (("\\x" : Str) ++ dgs ar.length ++ ".") ++ shown t (ar ++ [x])
  | .app t u, ar => ((("(" : Str) ++ shown t ar ++ " ") ++ shown u ar) ++ ")"
  | .name x, ar => if 0 ≤ lastIx x ar then ("x" : Str) ++ dgs (lastIx x ar).toNat else x
noncomputable def words : Tr → List Str
  | .lam x t => ([("\\" : Str), x, (".": Str)] : List Str) ++ words t
  | .app t u => ([("(" : Str)] : List Str) ++ words t ++ words u ++ [(")" : Str)]
  | .name x => [x]
noncomputable def sizeT : Tr → Nat
  | .lam _ t => sizeT t + 1
  | .app t u => sizeT t + sizeT u + 1
  | .name _ => 1
theorem sizeT_pos (t : Tr) : 0 < sizeT t := by cases t <;> simp [sizeT]
noncomputable def WfC : List Str → Tr → Prop
  | ar, .lam x t => WfC (ar ++ [x]) t
  | ar, .app t u => WfC ar t ∧ WfC ar u
  | ar, .name x => (x ∈ ar ∨ x ∈ oths) ∧ ar.length ≤ 8

section
variable {W : Wd} {cls : Xc → Addr}

theorem bound_loop {b : Loc → St → (Fl → Loc → St → Prop) → Prop} {x : Str} {σ : St} (hb : ∀ loc σ Q, wpS GV MV (Orc W cls 0) (.seq (.ite (.cmp .Eq (.loc 4) (.loc 0)) (.seq (.asg 2 (.loc 3)) .nil) .nil) .nil) loc σ Q (fun _ _ => False) → b loc σ Q) :
    ∀ (ys : List Str) (k : Nat) (r : Int) (loc : Loc) (Q : Fl → Loc → St → Prop), loc 0 = some (.str x) → loc 2 = some (.int r) → (∀ loc', loc' 2 = some (.int (lastFrom x k ys r)) → Q .next loc' σ) →
    forW b (fun loc k d => upd (upd loc 3 (.int (k : Nat))) 4 d) k (vstr ys) loc σ Q
  | [], k, r, loc, Q, h0, h2, q => q loc h2
  | y :: ys, k, r, loc, Q, h0, h2, q => by
    show forW b _ k (.str y :: vstr ys) loc σ Q
    rw [forW_cons]
    walk_at "n"
    refine hb _ _ _ ?_
    walk_at "n"
    walk_at "u"
    walk_at "n"
    refine ⟨_, rfl, .str x, h0, ?_⟩
    walk_at "n"
    rw [cw_eqs, isB_b]
    walk_at "n"
    by_cases h : y = x
    · have : decide (y = x) = true := decide_eq_true h
      rw [this]
      walk_at "n"
      refine ⟨_, rfl, ?_⟩
      walk_at "n"
      refine bound_loop hb ys (k + 1) k _ Q h0 rfl fun loc' h' => q loc' ?_
      walk_at "n"
      rw [h', lastFrom, if_pos h]
      walk_at "n"
    · have : decide (y = x) = false := decide_eq_false h
      rw [this]
      walk_at "n"
      refine bound_loop hb ys (k + 1) r _ Q h0 h2 fun loc' h' => q loc' ?_
      walk_at "n"
      rw [h', lastFrom, if_neg h]
      walk_at "n"

theorem c_bound (g : Gd W) {x : Str} {ar : List Str} {n : Nat} {σ : St} {Q : V → St → Prop} {E : Xc → St → Prop} (hn : 1 ≤ n) (hl : ar.length ≤ 1000) (q : Q (.int (lastIx x ar)) σ) : CallW W cls n (.ref 299) [.str x, .list (vstr ar)] σ Q E := by
  obtain ⟨m, rfl⟩ : ∃ m, n = m + 1 := ⟨n - 1, by omega⟩
  refine call_of g (fk_299 _) (tbl_of (by kernel_rfl) (by kernel_rfl)) (fun L => s_299 g.K g.C (Nat.le_refl m) L) rfl ?_
  walk_at "n"
  simp only [b_299]
  walk_at "u"
  walk_at "n"
  refine ⟨_, rfl, by simp only [vstr, List.length_map, big]; omega, ?_⟩
  walk_at "n"
  refine bound_loop (x := x) (W := W) (cls := cls) ?_ ar 0 (-1) _ _ rfl rfl fun loc' h => ⟨_, h, q⟩
  walk_at "n"
  intro loc σ Q h
  simp only [e_loc, e_glob, e_int, e_str, e_bool, e_none, e_neg, e_tup0, e_tup1, e_tup2, e_tup3, e_lst0, e_lst1, e_lst3, e_new0, e_new1, e_bin, e_cmp, e_cmp2, e_and, e_or, e_not, e_ite, e_idx, e_slc, e_take, e_call0, e_call1, e_call2, e_call3, e_call4, e_len, e_intOf, e_strOf, e_tupOf, e_attr, e_meth0, e_meth1, e_isalnum, e_append, e_pop, e_extend, e_fmt, e_comp_range, e_comp_loc, e_comp_slc, e_comp_take, e_hand, f_nil, f_seq, f_asg, f_unp2, f_setIdx, f_setAttr, f_ret, f_ite, f_whl, f_forr_range, f_forr_loc, f_fore, f_expr, f_brk, f_raise_none, f_raise_some, f_tryNone, f_trySpot] at h
  exact h

theorem c_core (g : Gd W) : ∀ (t : Tr) (ar : List Str) (n : Nat) (σ : St) (Q : V → St → Prop) (E : Xc → St → Prop), sizeT t + 1 ≤ n → sizeT t + ar.length ≤ 500 → WfC ar t → Q (enc (core t ar)) σ → CallW W cls n (.ref 306) [encT t, .list (vstr ar)] σ Q E
  | t, ar, n + 1, σ, Q, E, hn, hl, w, q => by
    refine call_of g (fk_306 _) (tbl_of (by kernel_rfl) (by kernel_rfl)) (fun L => s_306 g.K g.C (Nat.le_refl n) L) rfl ?_
    walk_at "n"
    simp only [b_306, args0]
    walk_at "u"
    walk_at "n"
    have hlen : (vstr ar).length = ar.length := by simp [vstr]
    cases t with
    | lam x t =>
      refine ⟨_, rfl, by omega, by simp only [big]; omega, _, rfl, ?_⟩
      walk_at "n"
      try dsimp only
      walk_at "n"
      rw [cw_eqs, isB_b]
      walk_at "n"
      rw [show decide (("lam" : Str) = "lam") = true from rfl]
      walk_at "n"
      refine ⟨_, rfl, by omega, by simp only [big]; omega, _, rfl, ?_⟩
      walk_at "n"
      refine ⟨_, rfl, _, rfl, by omega, by simp only [big]; omega, _, rfl, ?_⟩
      walk_at "n"
      try dsimp only
      walk_at "n"
      rw [bw_addl]
      walk_at "n"
      have ea : vstr ar ++ [.str x] = vstr (ar ++ [x]) := by simp [vstr]
      rw [ea]
      walk_at "n"
      simp only [sizeT] at hn hl
      refine ⟨by rw [hlen]; simp only [List.length_cons, List.length_nil, big]; omega, ?_⟩
      walk_at "n"
      exact c_core g t (ar ++ [x]) n σ _ E (by omega) (by rw [List.length_append]; simp only [List.length_cons, List.length_nil]; omega) w q
    | app t u =>
      refine ⟨_, rfl, by omega, by simp only [big]; omega, _, rfl, ?_⟩
      walk_at "n"
      try dsimp only
      walk_at "n"
      rw [cw_eqs, isB_b, show decide (("app" : Str) = "lam") = false from rfl]
      walk_at "n"
      refine ⟨_, rfl, by omega, by simp only [big]; omega, _, rfl, ?_⟩
      walk_at "n"
      try dsimp only
      walk_at "n"
      rw [cw_eqs, isB_b, show decide (("app" : Str) = "app") = true from rfl]
      walk_at "n"
      refine ⟨_, rfl, by omega, by simp only [big]; omega, _, rfl, ?_⟩
      walk_at "n"
      refine ⟨_, rfl, ?_⟩
      walk_at "n"
      simp only [sizeT] at hn hl
      refine c_core g t ar n σ _ E (by omega) (by omega) w.1 ?_
      walk_at "n"
      refine ⟨_, rfl, by omega, by simp only [big]; omega, _, rfl, ?_⟩
      walk_at "n"
      refine ⟨_, rfl, ?_⟩
      walk_at "n"
      exact c_core g u ar n σ _ E (by omega) (by omega) w.2 q
    | name x =>
      obtain ⟨hx, h8⟩ := w
      refine ⟨_, rfl, by omega, by simp only [big]; omega, _, rfl, ?_⟩
      walk_at "n"
      try dsimp only
      walk_at "n"
      rw [cw_eqs, isB_b, show decide (("name" : Str) = "lam") = false from rfl]
      walk_at "n"
      refine ⟨_, rfl, by omega, by simp only [big]; omega, _, rfl, ?_⟩
      walk_at "n"
      try dsimp only
      walk_at "n"
      rw [cw_eqs, isB_b, show decide (("name" : Str) = "app") = false from rfl]
      walk_at "n"
      refine ⟨_, rfl, by omega, by simp only [big]; omega, _, rfl, ?_⟩
      walk_at "n"
      refine ⟨_, rfl, ?_⟩
      walk_at "n"
      simp only [sizeT] at hn
      refine c_bound g (by omega) (by omega) ?_
      walk_at "n"
      refine ⟨_, rfl, ?_⟩
      walk_at "n"
      rw [cw_ge, isB_b]
      walk_at "n"
      have hlt := lastIx_lt x ar
      by_cases h : 0 ≤ lastIx x ar
      · have : decide (lastIx x ar ≥ 0) = true := decide_eq_true h
        rw [this]
        walk_at "n"
        refine ⟨_, rfl, by rw [hlen]; simp only [big]; omega, ?_⟩
        walk_at "n"
        try dsimp only
        walk_at "n"
        rw [bw_subi]
        walk_at "n"
        refine ⟨_, rfl, ?_⟩
        walk_at "n"
        rw [bw_subi, hlen]
        walk_at "n"
        have e : ((ar.length : Nat) : Int) - 1 - lastIx x ar = ((ar.length - 1 - (lastIx x ar).toNat : Nat) : Int) := by omega
        rw [e]
        walk_at "n"
        refine ⟨⟨by omega, by omega⟩, ?_⟩
        walk_at "n"
        rw [bw_adds, Int.toNat_natCast, vtx_add]
        walk_at "n"
        rw [core, if_pos h] at q
        exact ⟨show 3 + 1 ≤ 1000000 by decide, q⟩
      · have : decide (lastIx x ar ≥ 0) = false := decide_eq_false h
        rw [this]
        walk_at "n"
        rw [core, if_neg h] at q
        have hx : x ∈ oths := hx.resolve_left fun h' => h (lastIx_mem.mp h')
        simp only [oths, List.mem_cons, List.not_mem_nil, or_false] at hx
        refine ⟨_, rfl, by omega, by simp only [big]; omega, _, rfl, ?_⟩
        walk_at "n"
        try dsimp only
        walk_at "n"
        rcases hx with rfl | rfl | rfl | rfl
        · refine ⟨by omega, by simp only [big]; omega, 107, rfl, ?_⟩
          walk_at "n"
          try dsimp only
          walk_at "n"
          rw [cw_eqs, isB_b, show decide ((⟨#[107]⟩ : Str) = "y") = false from by decide]
          walk_at "n"
          exact ⟨_, rfl, by omega, by simp only [big]; omega, _, rfl, q⟩
        · refine ⟨by omega, by simp only [big]; omega, 121, rfl, ?_⟩
          walk_at "n"
          try dsimp only
          walk_at "n"
          rw [cw_eqs, isB_b, show decide ((⟨#[121]⟩ : Str) = "y") = true from by decide]
          walk_at "n"
          refine ⟨_, rfl, by omega, by simp only [big]; omega, _, rfl, ?_⟩
          walk_at "n"
          refine ⟨by decide, by decide, by decide, 48, rfl, ⟨by decide, by decide⟩, ?_⟩
          walk_at "n"
          refine ⟨_, rfl, by rw [hlen]; simp only [big]; omega, ?_⟩
          walk_at "n"
          try dsimp only
          walk_at "n"
          rw [bw_addi, hlen]
          walk_at "n"
          have e : ((48 : Nat) : Int) - 48 + (ar.length : Nat) = ((0 + ar.length : Nat) : Int) := by omega
          rw [e]
          walk_at "n"
          refine ⟨⟨by omega, by omega⟩, ?_⟩
          walk_at "n"
          rw [bw_adds, Int.toNat_natCast, vtx_add]
          walk_at "n"
          exact ⟨show 3 + 1 ≤ 1000000 by decide, q⟩
        · refine ⟨by omega, by simp only [big]; omega, 121, rfl, ?_⟩
          walk_at "n"
          try dsimp only
          walk_at "n"
          rw [cw_eqs, isB_b, show decide ((⟨#[121]⟩ : Str) = "y") = true from by decide]
          walk_at "n"
          refine ⟨_, rfl, by omega, by simp only [big]; omega, _, rfl, ?_⟩
          walk_at "n"
          refine ⟨by decide, by decide, by decide, 49, rfl, ⟨by decide, by decide⟩, ?_⟩
          walk_at "n"
          refine ⟨_, rfl, by rw [hlen]; simp only [big]; omega, ?_⟩
          walk_at "n"
          try dsimp only
          walk_at "n"
          rw [bw_addi, hlen]
          walk_at "n"
          have e : ((49 : Nat) : Int) - 48 + (ar.length : Nat) = ((1 + ar.length : Nat) : Int) := by omega
          rw [e]
          walk_at "n"
          refine ⟨⟨by omega, by omega⟩, ?_⟩
          walk_at "n"
          rw [bw_adds, Int.toNat_natCast, vtx_add]
          walk_at "n"
          exact ⟨show 3 + 1 ≤ 1000000 by decide, q⟩
        · refine ⟨by omega, by simp only [big]; omega, 109, rfl, ?_⟩
          walk_at "n"
          try dsimp only
          walk_at "n"
          rw [cw_eqs, isB_b, show decide ((⟨#[109]⟩ : Str) = "y") = false from by decide]
          walk_at "n"
          exact ⟨_, rfl, by omega, by simp only [big]; omega, _, rfl, q⟩
end


theorem oth_len {x : Str} (h : x ∈ oths) : x.length ≤ 2 := by
  simp only [oths, List.mem_cons, List.not_mem_nil, or_false] at h
  rcases h with rfl | rfl | rfl | rfl <;> decide
theorem shown_len : ∀ (t : Tr) (ar : List Str), WfC ar t → (shown t ar).length ≤ 4 * sizeT t
  | .lam x t, ar, w => by
    have := shown_len t (ar ++ [x]) w
    have e : (("\\x" : Str) ++ dgs ar.length ++ "." : Str).length = 4 := rfl
    rw [shown, Str.length_append, e, sizeT]; omega
    walk_at "n"
  | .app t u, ar, w => by
    have h1 := shown_len t ar w.1
    have h2 := shown_len u ar w.2
    have e1 : ("(" : Str).length = 1 := rfl
    have e2 : (" " : Str).length = 1 := rfl
    have e3 : (")" : Str).length = 1 := rfl
    rw [shown, Str.length_append, Str.length_append, Str.length_append, Str.length_append, e1, e2, e3, sizeT]; omega
    walk_at "n"
  | .name x, ar, w => by
    rw [shown, sizeT]
    walk_at "n"
    split
    · show 2 ≤ 4; decide
    · rename_i h
      have := oth_len (w.1.resolve_left fun h' => h (lastIx_mem.mp h'))
      omega

theorem WfC.len : ∀ {t : Tr} {ar : List Str}, WfC ar t → ar.length ≤ 8 := by
  intro t
  induction t with
  | lam x t ih =>
    intro ar w
    have := ih (ar := ar ++ [x]) w
    rw [List.length_append] at this
    simp only [List.length_cons, List.length_nil] at this
    omega
  | app t u ih _ => intro ar w; exact ih w.1
  | name x => intro ar w; exact w.2

section
variable {W : Wd} {cls : Xc → Addr}

theorem c_shown (g : Gd W) : ∀ (t : Tr) (ar : List Str) (n : Nat) (σ : St) (Q : V → St → Prop) (E : Xc → St → Prop), sizeT t + 1 ≤ n → sizeT t + ar.length ≤ 500 → WfC ar t → Q (.str (shown t ar)) σ → CallW W cls n (.ref 313) [encT t, .list (vstr ar)] σ Q E
  | t, ar, n + 1, σ, Q, E, hn, hl, w, q => by
    refine call_of g (fk_313 _) (tbl_of (by kernel_rfl) (by kernel_rfl)) (fun L => s_313 g.K g.C (Nat.le_refl n) L) rfl ?_
    walk_at "n"
    simp only [b_313, args0]
    walk_at "u"
    walk_at "n"
    have hlen : (vstr ar).length = ar.length := by simp [vstr]
    have h8 := WfC.len w
    cases t with
    | lam x t =>
      have hs := shown_len t (ar ++ [x]) w
      refine ⟨_, rfl, by omega, by simp only [big]; omega, _, rfl, ?_⟩
      walk_at "n"
      try dsimp only
      walk_at "n"
      rw [cw_eqs, isB_b, show decide (("lam" : Str) = "lam") = true from rfl]
      walk_at "n"
      refine ⟨_, rfl, by rw [hlen]; simp only [big]; omega, ?_⟩
      walk_at "n"
      try dsimp only
      walk_at "n"
      rw [hlen]
      walk_at "n"
      refine ⟨⟨by omega, by omega⟩, ?_⟩
      walk_at "n"
      rw [bw_adds, Int.toNat_natCast]
      walk_at "n"
      refine ⟨show 2 + 1 ≤ 1000000 by decide, ?_⟩
      walk_at "n"
      rw [bw_adds]
      walk_at "n"
      refine ⟨show 3 + 1 ≤ 1000000 by decide, ?_⟩
      walk_at "n"
      refine ⟨_, rfl, by omega, by simp only [big]; omega, _, rfl, ?_⟩
      walk_at "n"
      refine ⟨_, rfl, _, rfl, by omega, by simp only [big]; omega, _, rfl, ?_⟩
      walk_at "n"
      try dsimp only
      walk_at "n"
      rw [bw_addl]
      walk_at "n"
      have ea : vstr ar ++ [.str x] = vstr (ar ++ [x]) := by simp [vstr]
      rw [ea]
      walk_at "n"
      simp only [sizeT] at hn hl
      refine ⟨by rw [hlen]; simp only [List.length_cons, List.length_nil, big]; omega, ?_⟩
      walk_at "n"
      refine c_shown g t (ar ++ [x]) n σ _ E (by omega) (by rw [List.length_append]; simp only [List.length_cons, List.length_nil]; omega) w ?_
      walk_at "n"
      rw [bw_adds]
      walk_at "n"
      refine ⟨?_, q⟩
      walk_at "n"
      have e : (("\\x" : Str) ++ (⟨#[48 + ar.length]⟩ : Str) ++ ("." : Str)).length = 4 := rfl
      rw [e]; simp only [big]; omega
      walk_at "n"
    | app t u =>
      have hs := shown_len t ar w.1
      have hs' := shown_len u ar w.2
      refine ⟨_, rfl, by omega, by simp only [big]; omega, _, rfl, ?_⟩
      walk_at "n"
      try dsimp only
      walk_at "n"
      rw [cw_eqs, isB_b, show decide (("app" : Str) = "lam") = false from rfl]
      walk_at "n"
      refine ⟨_, rfl, by omega, by simp only [big]; omega, _, rfl, ?_⟩
      walk_at "n"
      try dsimp only
      walk_at "n"
      rw [cw_eqs, isB_b, show decide (("app" : Str) = "app") = true from rfl]
      walk_at "n"
      refine ⟨_, rfl, by omega, by simp only [big]; omega, _, rfl, ?_⟩
      walk_at "n"
      refine ⟨_, rfl, ?_⟩
      walk_at "n"
      simp only [sizeT] at hn hl
      have e1 : ("(" : Str).length = 1 := rfl
      have e2 : (" " : Str).length = 1 := rfl
      have e3 : (")" : Str).length = 1 := rfl
      refine c_shown g t ar n σ _ E (by omega) (by omega) w.1 ?_
      walk_at "n"
      rw [bw_adds]
      walk_at "n"
      refine ⟨by rw [e1]; simp only [big]; omega, ?_⟩
      walk_at "n"
      rw [bw_adds]
      walk_at "n"
      refine ⟨by rw [Str.length_append, e1, e2]; simp only [big]; omega, ?_⟩
      walk_at "n"
      refine ⟨_, rfl, by omega, by simp only [big]; omega, _, rfl, ?_⟩
      walk_at "n"
      refine ⟨_, rfl, ?_⟩
      walk_at "n"
      refine c_shown g u ar n σ _ E (by omega) (by omega) w.2 ?_
      walk_at "n"
      rw [bw_adds]
      walk_at "n"
      refine ⟨by rw [Str.length_append, Str.length_append, e1, e2]; simp only [big]; omega, ?_⟩
      walk_at "n"
      rw [bw_adds]
      walk_at "n"
      exact ⟨by rw [Str.length_append, Str.length_append, Str.length_append, e1, e2, e3]; simp only [big]; omega, q⟩
    | name x =>
      refine ⟨_, rfl, by omega, by simp only [big]; omega, _, rfl, ?_⟩
      walk_at "n"
      try dsimp only
      walk_at "n"
      rw [cw_eqs, isB_b, show decide (("name" : Str) = "lam") = false from rfl]
      walk_at "n"
      refine ⟨_, rfl, by omega, by simp only [big]; omega, _, rfl, ?_⟩
      walk_at "n"
      try dsimp only
      walk_at "n"
      rw [cw_eqs, isB_b, show decide (("name" : Str) = "app") = false from rfl]
      walk_at "n"
      refine ⟨_, rfl, by omega, by simp only [big]; omega, _, rfl, ?_⟩
      walk_at "n"
      refine ⟨_, rfl, ?_⟩
      walk_at "n"
      simp only [sizeT] at hn
      refine c_bound g (by omega) (by omega) ?_
      walk_at "n"
      refine ⟨_, rfl, ?_⟩
      walk_at "n"
      rw [cw_ge, isB_b]
      walk_at "n"
      have hlt := lastIx_lt x ar
      rw [shown] at q
      by_cases h : 0 ≤ lastIx x ar
      · have : decide (lastIx x ar ≥ 0) = true := decide_eq_true h
        rw [this]
        walk_at "n"
        rw [if_pos h] at q
        refine ⟨_, rfl, ⟨by omega, by omega⟩, ?_⟩
        walk_at "n"
        rw [bw_adds]
        walk_at "n"
        exact ⟨show 1 + 1 ≤ 1000000 by decide, q⟩
      · have : decide (lastIx x ar ≥ 0) = false := decide_eq_false h
        rw [this]
        walk_at "n"
        rw [if_neg h] at q
        exact ⟨_, rfl, by omega, by simp only [big]; omega, _, rfl, q⟩

theorem words_len (t : Tr) : (words t).length ≤ 3 * sizeT t := by
  induction t with
  | lam x t ih => simp only [words, sizeT, List.length_append, List.length_cons, List.length_nil]; omega
  | app t u ih1 ih2 => simp only [words, sizeT, List.length_append, List.length_cons, List.length_nil]; omega
  | name x => simp only [words, sizeT, List.length_cons, List.length_nil]; omega
theorem vstr_len (l : List Str) : (vstr l).length = l.length := by simp [vstr]
theorem vstr_append (l m : List Str) : vstr l ++ vstr m = vstr (l ++ m) := by simp [vstr]

theorem c_words (g : Gd W) : ∀ (t : Tr) (n : Nat) (σ : St) (Q : V → St → Prop) (E : Xc → St → Prop), sizeT t ≤ n → sizeT t ≤ 500 → Q (.list (vstr (words t))) σ → CallW W cls n (.ref 320) [encT t] σ Q E
  | t, 0, _, _, _, hn, _, _ => by have := sizeT_pos t; omega
  | t, n + 1, σ, Q, E, hn, hl, q => by
    refine call_of g (fk_320 _) (tbl_of (by kernel_rfl) (by kernel_rfl)) (fun L => s_320 g.K g.C (Nat.le_refl n) L) rfl ?_
    walk_at "n"
    simp only [b_320, args0]
    walk_at "u"
    walk_at "n"
    cases t with
    | lam x t =>
      have := words_len t
      refine ⟨_, rfl, by omega, by simp only [big]; omega, _, rfl, ?_⟩
      walk_at "n"
      try dsimp only
      walk_at "n"
      rw [cw_eqs, isB_b, show decide (("lam" : Str) = "lam") = true from rfl]
      walk_at "n"
      refine ⟨_, rfl, by omega, by simp only [big]; omega, _, rfl, ?_⟩
      walk_at "n"
      refine ⟨_, rfl, by omega, by simp only [big]; omega, _, rfl, ?_⟩
      walk_at "n"
      simp only [sizeT] at hn hl
      refine c_words g t n σ _ E (by omega) (by omega) ?_
      walk_at "n"
      rw [bw_addl]
      walk_at "n"
      exact ⟨by rw [vstr_len]; simp only [List.length_cons, List.length_nil, big]; omega, q⟩
    | app t u =>
      have := words_len t
      have := words_len u
      refine ⟨_, rfl, by omega, by simp only [big]; omega, _, rfl, ?_⟩
      walk_at "n"
      try dsimp only
      walk_at "n"
      rw [cw_eqs, isB_b, show decide (("app" : Str) = "lam") = false from rfl]
      walk_at "n"
      refine ⟨_, rfl, by omega, by simp only [big]; omega, _, rfl, ?_⟩
      walk_at "n"
      try dsimp only
      walk_at "n"
      rw [cw_eqs, isB_b, show decide (("app" : Str) = "app") = true from rfl]
      walk_at "n"
      refine ⟨_, rfl, by omega, by simp only [big]; omega, _, rfl, ?_⟩
      walk_at "n"
      simp only [sizeT] at hn hl
      refine c_words g t n σ _ E (by omega) (by omega) ?_
      walk_at "n"
      rw [bw_addl]
      walk_at "n"
      refine ⟨by rw [vstr_len]; simp only [List.length_cons, List.length_nil, big]; omega, ?_⟩
      walk_at "n"
      refine ⟨_, rfl, by omega, by simp only [big]; omega, _, rfl, ?_⟩
      walk_at "n"
      refine c_words g u n σ _ E (by omega) (by omega) ?_
      walk_at "n"
      rw [bw_addl]
      walk_at "n"
      refine ⟨by rw [List.length_append, vstr_len, vstr_len]; simp only [List.length_cons, List.length_nil, big]; omega, ?_⟩
      walk_at "n"
      rw [bw_addl]
      walk_at "n"
      refine ⟨by rw [List.length_append, List.length_append, vstr_len, vstr_len]; simp only [List.length_cons, List.length_nil, big]; omega, ?_⟩
      walk_at "n"
      have e : [V.str "("] ++ vstr (words t) ++ vstr (words u) ++ [V.str ")"] = vstr (words (.app t u)) := by simp [vstr, words]
      rw [e]
      walk_at "n"
      exact q
    | name x =>
      refine ⟨_, rfl, by omega, by simp only [big]; omega, _, rfl, ?_⟩
      walk_at "n"
      try dsimp only
      walk_at "n"
      rw [cw_eqs, isB_b, show decide (("name" : Str) = "lam") = false from rfl]
      walk_at "n"
      refine ⟨_, rfl, by omega, by simp only [big]; omega, _, rfl, ?_⟩
      walk_at "n"
      try dsimp only
      walk_at "n"
      rw [cw_eqs, isB_b, show decide (("name" : Str) = "app") = false from rfl]
      walk_at "n"
      exact ⟨_, rfl, by omega, by simp only [big]; omega, _, rfl, q⟩

inductive Wrap (t : Tr) : Tr → Prop
  | same : Wrap t (.app (.lam "z" (.name "z")) t)
  | om : Wrap t (.app (.lam "z" t) (.app (.lam "p" (.app (.name "p") (.name "p"))) (.lam "p" (.app (.name "p") (.name "p")))))
  | drop : Wrap t (.app (.lam "z" t) (.name "k"))

theorem c_wrapped (g : Gd W) {i a n : Nat} {cs : List Int} {σ : St} {Q : V → St → Prop} {E : Xc → St → Prop} (hn : 2 ≤ n) (t : Tr) (hi : σ[i]? = some (hnd cs a)) (ha : a ≤ 8900) (hcs : cs.length ≤ 100) (q : ∀ t', Wrap t t' → Q (encT t') (σ.set i (hnd cs (a + 1)))) :
    CallW W cls n (.ref 334) [.obj i, encT t] σ Q E := by
  obtain ⟨m, rfl⟩ : ∃ m, n = m + 1 := ⟨n - 1, by omega⟩
  refine call_of g (fk_334 _) (tbl_of (by kernel_rfl) (by kernel_rfl)) (fun L => s_334 g.K g.C (Nat.le_refl m) L) rfl ?_
  walk_at "n"
  simp only [b_334, args0]
  walk_at "u"
  walk_at "n"
  refine ⟨_, rfl, ?_⟩
  walk_at "n"
  refine c_digit g (w := 3) (by omega) hi (by omega) (by omega) hcs fun d hd => ?_
  walk_at "n"
  refine ⟨_, rfl, ?_⟩
  walk_at "n"
  rw [cw_eqi, isB_b]
  walk_at "n"
  rcases (by omega : d = 0 ∨ d = 1 ∨ d = 2) with rfl | rfl | rfl
  · rw [show decide (((0 : Nat) : Int) = 0) = true from rfl]
    walk_at "n"
    exact ⟨_, rfl, q _ .same⟩
  · rw [show decide (((1 : Nat) : Int) = 0) = false from rfl]
    walk_at "n"
    refine ⟨_, rfl, _, rfl, ?_⟩
    walk_at "n"
    rw [cw_eqi, isB_b, show decide (((1 : Nat) : Int) = 1) = true from rfl]
    walk_at "n"
    exact ⟨_, rfl, _, rfl, q _ .om⟩
  · rw [show decide (((2 : Nat) : Int) = 0) = false from rfl]
    walk_at "n"
    refine ⟨_, rfl, _, rfl, ?_⟩
    walk_at "n"
    rw [cw_eqi, isB_b, show decide (((2 : Nat) : Int) = 1) = false from rfl]
    walk_at "n"
    exact q _ .drop
end


noncomputable def nmd : Tm → Nat → Str
  | .lam t, d => (("\\" : Str) ++ (("x" : Str) ++ dgs d ++ ".")) ++ nmd t (d + 1)
  | .app t u, d => ((("(" : Str) ++ nmd t d ++ " ") ++ nmd u d) ++ ")"
  | .var i, d => if i < d then ("x" : Str) ++ dgs (d - 1 - i) ++ Str.empty else ("y" : Str) ++ dgs (i - d) ++ Str.empty
  | .nam x, _ => x
theorem leaf_len {x : Str} (h : x ∈ leafs) : x.length ≤ 2 := by
  simp only [leafs, List.mem_cons, List.not_mem_nil, or_false] at h
  rcases h with rfl | rfl <;> decide
theorem nmd_len {b : Nat} : ∀ (t : Tm) (d : Nat), WfM b t → (nmd t d).length ≤ 4 * size t
  | .lam t, d, w => by
    have := nmd_len t (d + 1) w
    have e : (("\\" : Str) ++ (("x" : Str) ++ dgs d ++ "." : Str)).length = 4 := rfl
    rw [nmd, Str.length_append, e, size]; omega
    walk_at "n"
  | .app t u, d, w => by
    have h1 := nmd_len t d w.1
    have h2 := nmd_len u d w.2
    have e1 : ("(" : Str).length = 1 := rfl
    have e2 : (" " : Str).length = 1 := rfl
    have e3 : (")" : Str).length = 1 := rfl
    rw [nmd, Str.length_append, Str.length_append, Str.length_append, Str.length_append, e1, e2, e3, size]; omega
    walk_at "n"
  | .var i, d, w => by
    rw [nmd, size]
    walk_at "n"
    split
    · show 2 ≤ 4; decide
    · show 2 ≤ 4; decide
  | .nam x, d, w => by
    rw [nmd, size]
    walk_at "n"
    have := leaf_len w
    omega

theorem leaf_row {x : Str} (h : x ∈ leafs) : rowOf x (("abcdefghijklmnopqrstuvwxyzABCDEFGHIJKLMNOPQRSTUVWXYZ" : Str) ++ "0123456789") = true := by
  simp only [leafs, List.mem_cons, List.not_mem_nil, or_false] at h
  rcases h with rfl | rfl <;> decide +kernel
theorem leaf_xy {x b : Str} (h : x ∈ leafs) (hb : b ∈ (["x", "y"] : List Str)) : nbV x b = -1 ∧ (x.cps.toList.take b.length = b.cps.toList → (x.cps.toList.drop b.length).length ≤ 1) := by
  simp only [leafs, List.mem_cons, List.not_mem_nil, or_false] at h hb
  rcases h with rfl | rfl <;> rcases hb with rfl | rfl <;> exact ⟨by decide, by decide⟩

section
variable {W : Wd} {cls : Xc → Addr}

theorem c_named (g : Gd W) : ∀ (t : Tm) (d n : Nat) (σ : St) (Q : V → St → Prop) (E : Xc → St → Prop), size t + 4 ≤ n → WfM 10 t → ht t + d ≤ 10 → size t ≤ 200 → Q (.str (nmd t d)) σ → CallW W cls n (.ref 206) [enc t, .int d] σ Q E
  | t, d, n + 1, σ, Q, E, hn, w, hd, hs, q => by
    refine call_of g (fk_206 _) (tbl_of (by kernel_rfl) (by kernel_rfl)) (fun L => s_206 g.K g.C (Nat.le_refl n) L) rfl ?_
    walk_at "n"
    simp only [b_206, args0]
    walk_at "u"
    walk_at "n"
    refine ⟨_, rfl, ?_⟩
    walk_at "n"
    refine (c_index (n := 0) g w ?_).up (by have := size_pos t; omega)
    walk_at "n"
    refine ⟨_, rfl, ?_⟩
    walk_at "n"
    rw [cw_ge, isB_b]
    walk_at "n"
    have hp := ht_pos t
    cases t with
    | var i =>
      have hi : i < 10 := w
      rw [show decide (ixOf (.var i) ≥ (0 : Int)) = true from decide_eq_true (by show (i : Int) ≥ 0; omega)]
      walk_at "n"
      refine ⟨_, rfl, _, rfl, ?_⟩
      walk_at "n"
      rw [cw_lt, isB_b]
      walk_at "n"
      rw [nmd] at q
      by_cases h : i < d
      · rw [show decide (ixOf (.var i) < (d : Int)) = true from decide_eq_true (by show (i : Int) < d; omega)]
        walk_at "n"
        rw [if_pos h] at q
        refine ⟨_, rfl, ?_⟩
        walk_at "n"
        rw [bw_subi]
        walk_at "n"
        refine ⟨_, rfl, ?_⟩
        walk_at "n"
        have e : (d : Int) - 1 - ixOf (.var i) = ((d - 1 - i : Nat) : Int) := by show (d : Int) - 1 - (i : Int) = _; omega
        rw [bw_subi, e]
        walk_at "n"
        refine ⟨⟨by omega, by omega⟩, ⟨by decide, by decide⟩, ?_⟩
        walk_at "n"
        rw [Int.toNat_natCast]
        walk_at "n"
        exact q
      · rw [show decide (ixOf (.var i) < (d : Int)) = false from decide_eq_false (by show ¬ (i : Int) < d; omega)]
        walk_at "n"
        rw [if_neg h] at q
        refine ⟨_, rfl, _, rfl, ?_⟩
        walk_at "n"
        have e : ixOf (.var i) - (d : Int) = ((i - d : Nat) : Int) := by show (i : Int) - (d : Int) = _; omega
        rw [bw_subi, e]
        walk_at "n"
        refine ⟨⟨by omega, by omega⟩, ⟨by decide, by decide⟩, ?_⟩
        walk_at "n"
        rw [Int.toNat_natCast]
        walk_at "n"
        exact q
    | lam t =>
      rw [show decide (ixOf (.lam t) ≥ (0 : Int)) = false from rfl]
      walk_at "n"
      refine ⟨_, rfl, ?_⟩
      walk_at "n"
      simp only [size, ht] at hn hd hs
      refine (c_below' (n := 0) (t := .lam t) g w ?_).up (by omega)
      walk_at "n"
      rw [cw_eqi, isB_b, show decide (((lamOf (.lam t) : Nat) : Int) = 1) = true from rfl]
      walk_at "n"
      have hl := nmd_len (b := 10) t (d + 1) w
      refine ⟨_, rfl, ⟨by omega, by omega⟩, ⟨by decide, by decide⟩, ?_⟩
      walk_at "n"
      rw [bw_adds, Int.toNat_natCast]
      walk_at "n"
      refine ⟨show 1 + 3 ≤ 1000000 by decide, ?_⟩
      walk_at "n"
      refine ⟨_, rfl, by omega, by simp only [big]; omega, _, rfl, ?_⟩
      walk_at "n"
      refine ⟨_, rfl, ?_⟩
      walk_at "n"
      have e : (d : Int) + 1 = ((d + 1 : Nat) : Int) := by omega
      rw [bw_addi, e]
      walk_at "n"
      refine c_named g t (d + 1) n σ _ E (by omega) w (by omega) (by omega) ?_
      walk_at "n"
      rw [bw_adds]
      walk_at "n"
      refine ⟨?_, q⟩
      walk_at "n"
      have e : (("\\" : Str) ++ (("x" : Str) ++ (⟨#[48 + d]⟩ : Str) ++ "." : Str)).length = 4 := rfl
      rw [e]; simp only [big]; omega
      walk_at "n"
    | app t u =>
      rw [show decide (ixOf (.app t u) ≥ (0 : Int)) = false from rfl]
      walk_at "n"
      refine ⟨_, rfl, ?_⟩
      walk_at "n"
      simp only [size, ht] at hn hd hs
      refine (c_below' (n := 0) (t := .app t u) g w ?_).up (by omega)
      walk_at "n"
      rw [cw_eqi, isB_b, show decide (((lamOf (.app t u) : Nat) : Int) = 1) = false from rfl]
      walk_at "n"
      have h1 := nmd_len (b := 10) t d w.1
      have h2 := nmd_len (b := 10) u d w.2
      have e1 : ("(" : Str).length = 1 := rfl
      have e2 : (" " : Str).length = 1 := rfl
      have e3 : (")" : Str).length = 1 := rfl
      refine ⟨_, rfl, by omega, by simp only [big]; omega, _, rfl, ?_⟩
      walk_at "n"
      try dsimp only
      walk_at "n"
      rw [cw_eqs, isB_b, show decide (("app" : Str) = "app") = true from rfl]
      walk_at "n"
      refine ⟨_, rfl, by simp [big], ?_⟩
      walk_at "n"
      try dsimp only
      walk_at "n"
      rw [cw_eqi, isB_b, show decide (((([V.str "app", enc t, enc u] : List V).length : Nat) : Int) = 3) = true from rfl]
      walk_at "n"
      refine ⟨_, rfl, by omega, by simp only [big]; omega, _, rfl, _, rfl, ?_⟩
      walk_at "n"
      refine c_named g t d n σ _ E (by omega) w.1 (by omega) (by omega) ?_
      walk_at "n"
      rw [bw_adds]
      walk_at "n"
      refine ⟨by rw [e1]; simp only [big]; omega, ?_⟩
      walk_at "n"
      rw [bw_adds]
      walk_at "n"
      refine ⟨by rw [Str.length_append, e1, e2]; simp only [big]; omega, ?_⟩
      walk_at "n"
      refine ⟨_, rfl, by omega, by simp only [big]; omega, _, rfl, _, rfl, ?_⟩
      walk_at "n"
      refine c_named g u d n σ _ E (by omega) w.2 (by omega) (by omega) ?_
      walk_at "n"
      rw [bw_adds]
      walk_at "n"
      refine ⟨by rw [Str.length_append, Str.length_append, e1, e2]; simp only [big]; omega, ?_⟩
      walk_at "n"
      rw [bw_adds]
      walk_at "n"
      exact ⟨by rw [Str.length_append, Str.length_append, Str.length_append, e1, e2, e3]; simp only [big]; omega, q⟩
    | nam x =>
      have w : x ∈ leafs := w
      have sx := leaf_short w
      have l2 := leaf_len w
      rw [show decide (ixOf (.nam x) ≥ (0 : Int)) = false from rfl]
      walk_at "n"
      refine ⟨_, rfl, ?_⟩
      walk_at "n"
      simp only [size] at hn
      refine (c_below' (n := 0) (t := .nam x) g w ?_).up (by omega)
      walk_at "n"
      rw [cw_eqi, isB_b, show decide (((lamOf (.nam x) : Nat) : Int) = 1) = false from rfl]
      walk_at "n"
      refine ⟨_, rfl, by omega, by simp only [big]; omega, _, rfl, ?_⟩
      walk_at "n"
      try dsimp only
      walk_at "n"
      rw [cw_eqs, isB_b]
      walk_at "n"
      have : decide (x = "app") = false := by
        simp only [leafs, List.mem_cons, List.not_mem_nil, or_false] at w
        rcases w with rfl | rfl <;> decide
      rw [this]
      walk_at "n"
      refine ⟨_, rfl, by simp [big], ?_⟩
      walk_at "n"
      try dsimp only
      walk_at "n"
      rw [cw_nei, isB_b, show (!decide (((([V.str x] : List V).length : Nat) : Int) = 1)) = false from rfl]
      walk_at "n"
      refine ⟨_, rfl, by omega, by simp only [big]; omega, _, rfl, ?_⟩
      walk_at "n"
      show binW .Add (.str "abcdefghijklmnopqrstuvwxyzABCDEFGHIJKLMNOPQRSTUVWXYZ") (.str "0123456789") _
      rw [bw_adds]
      walk_at "n"
      refine ⟨by decide, ?_⟩
      walk_at "n"
      refine (c_is_row_of (n := 0) g (by simp only [big]; omega) sx.2.1 ?_).up (by omega)
      walk_at "n"
      rw [leaf_row w, isB_b, Bool.not_true, isB_b, isB_b]
      walk_at "n"
      obtain ⟨x1, x2⟩ := leaf_xy w (b := "x") (by simp)
      obtain ⟨y1, y2⟩ := leaf_xy w (b := "y") (by simp)
      refine ⟨_, rfl, by omega, by simp only [big]; omega, _, rfl, ?_⟩
      walk_at "n"
      refine (c_number_behind (n := 0) g (by omega) (by decide) sx.2.1 x2 ?_).up (by omega)
      walk_at "n"
      rw [x1, cw_ge, isB_b, show decide ((-1 : Int) ≥ 0) = false from rfl]
      walk_at "n"
      refine ⟨_, rfl, by omega, by simp only [big]; omega, _, rfl, ?_⟩
      walk_at "n"
      refine (c_number_behind (n := 0) g (by omega) (by decide) sx.2.1 y2 ?_).up (by omega)
      walk_at "n"
      rw [y1, cw_ge, isB_b, show decide ((-1 : Int) ≥ 0) = false from rfl, isB_b]
      walk_at "n"
      exact ⟨_, rfl, by omega, by simp only [big]; omega, _, rfl, q⟩

theorem c_to_names (g : Gd W) {t : Tm} {n : Nat} {σ : St} {Q : V → St → Prop} {E : Xc → St → Prop} (hn : size t + 5 ≤ n) (w : WfM 10 t) (hd : ht t ≤ 10) (hs : size t ≤ 200) (q : Q (.str (nmd t 0)) σ) : CallW W cls n (.ref 213) [enc t] σ Q E := by
  obtain ⟨m, rfl⟩ : ∃ m, n = m + 1 := ⟨n - 1, by omega⟩
  refine call_of g (fk_213 _) (tbl_of (by kernel_rfl) (by kernel_rfl)) (fun L => s_213 g.K g.C (Nat.le_refl m) L) rfl ?_
  walk_at "n"
  simp only [b_213, args0]
  walk_at "u"
  walk_at "n"
  exact ⟨_, rfl, c_named g t 0 m σ _ E (by omega) w (by omega) hs q⟩
end


noncomputable def rdr (k : Nat) (T : Str) (s : Nat) (ar : List Str) : St := [.dict [("text", .str T), ("spot", .int s), ("around", .obj (k + 2))], .inst k, .list (vstr ar)]
noncomputable abbrev rst (b : St) (T : Str) (s : Nat) (ar : List Str) : St := b ++ rdr b.length T s ar
theorem rst0 (b : St) (T : Str) (s : Nat) (ar : List Str) : (rst b T s ar)[b.length]? = some (.dict [("text", .str T), ("spot", .int s), ("around", .obj (b.length + 2))]) := by
  rw [rst, List.getElem?_append_right (Nat.le_refl _), Nat.sub_self]; rfl
  walk_at "n"
theorem rst1 (b : St) (T : Str) (s : Nat) (ar : List Str) : (rst b T s ar)[b.length + 1]? = some (.inst b.length) := by
  rw [rst, List.getElem?_append_right (by omega), Nat.add_sub_cancel_left]; rfl
  walk_at "n"
theorem rst2 (b : St) (T : Str) (s : Nat) (ar : List Str) : (rst b T s ar)[b.length + 2]? = some (.list (vstr ar)) := by
  rw [rst, List.getElem?_append_right (by omega), Nat.add_sub_cancel_left]; rfl
  walk_at "n"
theorem rst_spot (b : St) (T : Str) (s s' : Nat) (ar : List Str) : (rst b T s ar).set b.length (.dict (putV "spot" (.int s') [("text", .str T), ("spot", .int s), ("around", .obj (b.length + 2))])) = rst b T s' ar := by
  rw [rst, List.set_append_right _ _ (Nat.le_refl _), Nat.sub_self]
  walk_at "n"
  rfl
theorem rst_ar (b : St) (T : Str) (s : Nat) (ar ar' : List Str) : (rst b T s ar).set (b.length + 2) (.list (vstr ar')) = rst b T s ar' := by
  rw [rst, List.set_append_right _ _ (by omega), Nat.add_sub_cancel_left]
  walk_at "n"
  rfl

noncomputable def At (T : Str) (s : Nat) (l : List Nat) : Prop := T.cps.toList.drop s = l
theorem At.len {T : Str} {s : Nat} {l : List Nat} (h : At T s l) (hne : l ≠ []) : s + l.length = T.length := by
  have := congrArg List.length h
  rw [List.length_drop] at this
  have hp : 0 < l.length := by cases l with | nil => exact absurd rfl hne | cons => simp
  have : T.cps.toList.length = T.length := by simp [PySem.Str.length]
  omega
theorem At.next {T : Str} {s : Nat} {c : Nat} {l : List Nat} (h : At T s (c :: l)) : At T (s + 1) l := by
  unfold At at h ⊢
  rw [← List.drop_drop, h]; rfl
  walk_at "n"
theorem At.skip {T : Str} : ∀ (p : List Nat) {s : Nat} {l : List Nat}, At T s (p ++ l) → At T (s + p.length) l
  | [], s, l, h => h
  | c :: p, s, l, h => by
    have := At.skip (T := T) p (At.next h)
    rw [List.length_cons]
    walk_at "n"
    rw [show s + (p.length + 1) = s + 1 + p.length by omega]
    walk_at "n"
    exact this
theorem At.cut {T : Str} {s : Nat} {c : Nat} {l : List Nat} (h : At T s (c :: l)) : cutS T s (s + 1) = ⟨#[c]⟩ := by
  unfold cutS
  unfold At at h
  have : (T.cps.toList.take (s + 1)).drop s = [c] := by
    rw [List.drop_take, h]
    walk_at "n"
    simp
  rw [this]
  walk_at "n"
theorem At.cut_nil {T : Str} {s : Nat} (h : At T s []) : cutS T s (s + 1) = ⟨#[]⟩ := by
  unfold cutS
  unfold At at h
  have : (T.cps.toList.take (s + 1)).drop s = [] := by
    rw [List.drop_take, h, List.take_nil]
    walk_at "n"
  rw [this]
  walk_at "n"

noncomputable def one : List Nat → Str
  | [] => ⟨#[]⟩
  | c :: _ => ⟨#[c]⟩
theorem At.cut1 {T : Str} {s : Nat} {l : List Nat} (h : At T s l) : cutS T s (s + 1) = one l := by
  cases l with
  | nil => exact h.cut_nil
  | cons c l => exact h.cut
theorem one_blank {l : List Nat} (h : l.head? ≠ some 32) : decide (one l = " ") = false := by
  refine decide_eq_false fun e => h ?_
  walk_at "n"
  cases l with
  | nil => have := congrArg (fun s : Str => s.cps.size) e; cases this
  | cons c l =>
    have := congrArg (fun s : Str => s.cps.toList) e
    have h2 : [c] = [32] := this
    cases h2; rfl

section
variable {W : Wd} {cls : Xc → Addr}

theorem rd_text {b : St} {T : Str} {s : Nat} {ar : List Str} {Q : V → Prop} (q : Q (.str T)) : attrW (rst b T s ar) (.obj (b.length + 1)) "text" Q := ⟨_, _, .str T, rst1 .., rst0 .., rfl, trivial, q⟩
theorem rd_spot {b : St} {T : Str} {s : Nat} {ar : List Str} {Q : V → Prop} (q : Q (.int s)) : attrW (rst b T s ar) (.obj (b.length + 1)) "spot" Q := ⟨_, _, .int s, rst1 .., rst0 .., rfl, trivial, q⟩
theorem rd_around {b : St} {T : Str} {s : Nat} {ar : List Str} {Q : V → Prop} (q : Q (.obj (b.length + 2))) : attrW (rst b T s ar) (.obj (b.length + 1)) "around" Q := ⟨_, _, .obj (b.length + 2), rst1 .., rst0 .., rfl, trivial, q⟩
theorem set_spot {b : St} {T : Str} {s s' : Nat} {ar : List Str} {Q : St → Prop} (q : Q (rst b T s' ar)) : ∃ j es, (rst b T s ar)[b.length + 1]? = some (.inst j) ∧ (rst b T s ar)[j]? = some (.dict es) ∧ es.length ≤ 900 ∧ Q ((rst b T s ar).set j (.dict (putV "spot" (.int s') es))) :=
  ⟨_, _, rst1 .., rst0 .., show 3 ≤ 900 by decide, by rw [rst_spot]; exact q⟩

noncomputable def sc_234 : ME := (.cmp .Eq (.slc (.attr (.loc 0) "text") (.attr (.loc 0) "spot") (.bin .Add (.attr (.loc 0) "spot") (.int 1))) (.str " "))
noncomputable def sb_234 : MS := (.seq (.setAttr (.loc 0) "spot" (.bin .Add (.attr (.loc 0) "spot") (.int 1))) .nil)
theorem b_234_eq : b_234 = .seq (.whl sc_234 sb_234) (.seq (.ret (.slc (.attr (.loc 0) "text") (.attr (.loc 0) "spot") (.bin .Add (.attr (.loc 0) "spot") (.int 1)))) .nil) := rfl

theorem sign_loop {O : V → List V → St → (V → St → Prop) → (Xc → St → Prop) → Prop} {σ₀ : St} {T : Str} {ar : List Str} (hT : T.length ≤ 100000) {c : Loc → St → (Bool → St → Prop) → Prop} {b : Loc → St → (Fl → Loc → St → Prop) → Prop}
    (hc : ∀ loc σ (Q : Bool → St → Prop), wpE GV MV O sc_234 loc σ (fun d σ => isB d fun b => Q b σ) (fun _ _ => False) → c loc σ Q) (hb : ∀ loc σ Q, wpS GV MV O sb_234 loc σ Q (fun _ _ => False) → b loc σ Q) :
    ∀ (m : Nat) (s : Nat) (rest : List Nat) (loc : Loc) (Q : Fl → Loc → St → Prop), At T s (List.replicate m 32 ++ rest) → s ≤ 100000 → rest.head? ≠ some 32 → loc 0 = some (.obj (σ₀.length + 1)) → Q .next loc (rst σ₀ T (s + m) ar) →
    loopW c b (m + 1) loc (rst σ₀ T s ar) Q := by
  intro m
  induction m with
  | zero =>
    intro s rest loc Q h hs hr h0 q
    rw [loopW]
    walk_at "n"
    refine hc _ _ _ ?_
    walk_at "n"
    simp only [sc_234]
    walk_at "u"
    walk_at "n"
    refine ⟨_, h0, rd_text ⟨_, h0, rd_spot ⟨_, h0, rd_spot ?_⟩⟩⟩
    walk_at "n"
    rw [bw_addi]
    walk_at "n"
    refine ⟨by simp only [big]; omega, by omega, by simp only [big]; omega, by omega, by simp only [big]; omega, ?_⟩
    walk_at "n"
    try dsimp only
    walk_at "n"
    have e1 : ((s : Int)).toNat = s := Int.toNat_natCast _
    have e2 : ((s : Int) + 1).toNat = s + 1 := by omega
    rw [e1, e2, h.cut1]
    walk_at "n"
    have e3 : List.replicate 0 32 ++ rest = rest := rfl
    rw [e3, cw_eqs, isB_b, one_blank hr]
    walk_at "n"
    exact q
  | succ m ih =>
    intro s rest loc Q h hs hr h0 q
    have h' : At T s (32 :: (List.replicate m 32 ++ rest)) := h
    have hlt := h'.len (by simp)
    rw [List.length_cons] at hlt
    rw [loopW]
    walk_at "n"
    refine hc _ _ _ ?_
    walk_at "n"
    simp only [sc_234]
    walk_at "u"
    walk_at "n"
    refine ⟨_, h0, rd_text ⟨_, h0, rd_spot ⟨_, h0, rd_spot ?_⟩⟩⟩
    walk_at "n"
    rw [bw_addi]
    walk_at "n"
    refine ⟨by simp only [big]; omega, by omega, by simp only [big]; omega, by omega, by simp only [big]; omega, ?_⟩
    walk_at "n"
    try dsimp only
    walk_at "n"
    have e1 : ((s : Int)).toNat = s := Int.toNat_natCast _
    have e2 : ((s : Int) + 1).toNat = s + 1 := by omega
    rw [e1, e2, h'.cut, cw_eqs, isB_b, show decide ((⟨#[32]⟩ : Str) = " ") = true from by decide]
    walk_at "n"
    refine hb _ _ _ ?_
    walk_at "n"
    simp only [sb_234]
    walk_at "u"
    walk_at "n"
    refine ⟨_, h0, rd_spot ?_⟩
    walk_at "n"
    have e4 : (s : Int) + 1 = ((s + 1 : Nat) : Int) := by omega
    rw [bw_addi, e4]
    walk_at "n"
    refine ⟨_, h0, ?_⟩
    walk_at "n"
    refine set_spot (Q := fun σ => loopW c b (m + 1) loc σ Q) ?_
    walk_at "n"
    exact ih (s + 1) rest loc Q h'.next (by omega) hr h0 (by rw [show s + 1 + m = s + (m + 1) by omega]; exact q)

theorem c_sign (g : Gd W) {b : St} {T : Str} {ar : List Str} {s m n : Nat} {rest : List Nat} {Q : V → St → Prop} {E : Xc → St → Prop} (hn : 1 ≤ n) (hT : T.length ≤ 50000) (h : At T s (List.replicate m 32 ++ rest)) (hs : s ≤ T.length) (hr : rest.head? ≠ some 32) (q : Q (.str (one rest)) (rst b T (s + m) ar)) :
    CallW W cls n (.ref 234) [.obj (b.length + 1)] (rst b T s ar) Q E := by
  obtain ⟨k, rfl⟩ : ∃ k, n = k + 1 := ⟨n - 1, by omega⟩
  refine call_of g (fk_234 _) (tbl_of (by kernel_rfl) (by kernel_rfl)) (fun L => s_234 g.K g.C (Nat.le_refl k) L) rfl ?_
  walk_at "n"
  simp only [b_234_eq]
  walk_at "u"
  walk_at "n"
  refine ⟨m + 1, ?_⟩
  walk_at "n"
  refine sign_loop (O := Orc W cls k) (σ₀ := b) (T := T) (ar := ar) (by omega) (fun _ _ _ h => h) (fun _ _ _ h => h) m s rest _ _ h (by omega) hr rfl ?_
  walk_at "n"
  have h' : At T (s + m) rest := by
    have := At.skip (T := T) (List.replicate m 32) h
    rwa [List.length_replicate] at this
  have hm : s + m ≤ T.length := by
    have := congrArg List.length h
    rw [List.length_drop, List.length_append, List.length_replicate] at this
    have e : T.cps.toList.length = T.length := by simp [PySem.Str.length]
    omega
  refine ⟨_, rfl, rd_text ⟨_, rfl, rd_spot ⟨_, rfl, rd_spot ?_⟩⟩⟩
  walk_at "n"
  rw [bw_addi]
  walk_at "n"
  refine ⟨by simp only [big]; omega, by omega, by simp only [big]; omega, by omega, by simp only [big]; omega, ?_⟩
  walk_at "n"
  try dsimp only
  walk_at "n"
  have e1 : (((s + m : Nat) : Int)).toNat = s + m := Int.toNat_natCast _
  have e2 : (((s + m : Nat) : Int) + 1).toNat = s + m + 1 := by omega
  rw [e1, e2, h'.cut1]
  walk_at "n"
  exact q
end


noncomputable def alnumS : Str := ("abcdefghijklmnopqrstuvwxyzABCDEFGHIJKLMNOPQRSTUVWXYZ" : Str) ++ "0123456789"
noncomputable def isA (c : Nat) : Bool := alnumS.cps.toList.contains c
noncomputable def nm (w : Str) : Prop := w.cps.toList ≠ [] ∧ ∀ c ∈ w.cps.toList, isA c = true
noncomputable def Stop (l : List Nat) : Prop := ∀ c, l.head? = some c → isA c = false
theorem isA_blank : isA 32 = false := by decide +kernel
theorem isA_lam : isA 92 = false := by decide +kernel
theorem isA_open : isA 40 = false := by decide +kernel
theorem isA_close : isA 41 = false := by decide +kernel
theorem isA_dot : isA 46 = false := by decide +kernel

structure Here (T : Str) (s : Nat) (l : List Nat) : Prop where
  at_ : At T s l
  le : s ≤ T.length
theorem Here.len {T : Str} {s : Nat} {l : List Nat} (h : Here T s l) : s + l.length = T.length := by
  have := congrArg List.length h.at_
  rw [List.length_drop] at this
  have e : T.cps.toList.length = T.length := by simp [PySem.Str.length]
  have := h.le
  omega
theorem Here.skip {T : Str} {p : List Nat} {s : Nat} {l : List Nat} (h : Here T s (p ++ l)) : Here T (s + p.length) l := by
  refine ⟨h.at_.skip, ?_⟩
  walk_at "n"
  have := h.len
  rw [List.length_append] at this
  omega
theorem Here.next {T : Str} {c s : Nat} {l : List Nat} (h : Here T s (c :: l)) : Here T (s + 1) l := Here.skip (p := [c]) h
theorem Here.blanks {T : Str} {m s : Nat} {l : List Nat} (h : Here T s (List.replicate m 32 ++ l)) : Here T (s + m) l := by
  have := h.skip
  rwa [List.length_replicate] at this
theorem At.get {T : Str} {s c : Nat} {l : List Nat} (h : At T s (c :: l)) : T.cps.toList[s]? = some c := by
  have : (T.cps.toList.drop s)[0]? = some c := by rw [h]; rfl
  rwa [List.getElem?_drop, Nat.add_zero] at this
theorem At.word {T : Str} {s : Nat} {w : Str} {l : List Nat} (h : At T s (w.cps.toList ++ l)) : cutS T s (s + w.length) = w := by
  unfold cutS
  have e : w.cps.toList.length = w.length := by simp [PySem.Str.length]
  have : (T.cps.toList.take (s + w.length)).drop s = w.cps.toList := by
    rw [List.drop_take, h]
    walk_at "n"
    rw [show s + w.length - s = w.length by omega, ← e, List.take_left']
    walk_at "n"
    rfl
  rw [this]
  walk_at "n"

theorem vstr_snoc (ar : List Str) (x : Str) : vstr ar ++ [V.str x] = vstr (ar ++ [x]) := by simp [vstr]

section
variable {W : Wd} {cls : Xc → Addr}

theorem rd_meth {b : St} {T : Str} {s : Nat} {ar : List Str} {x : Str} {P : Prop} (hx : ([("text", V.str T), ("spot", .int s), ("around", .obj (b.length + 2))] : List (Str × V)).lookup x = none) (p : P) : methW (rst b T s ar) (.obj (b.length + 1)) x P :=
  ⟨_, _, rst1 .., rst0 .., hx, p⟩

theorem c_want (g : Gd W) {b : St} {T : Str} {ar : List Str} {s m n c : Nat} {rest : List Nat} {Q : V → St → Prop} {E : Xc → St → Prop} (hn : 2 ≤ n) (hT : T.length ≤ 50000) (h : Here T s (List.replicate m 32 ++ c :: rest)) (hr : c ≠ 32) (q : Q .none (rst b T (s + m + 1) ar)) :
    CallW W cls n (.ref 241) [.obj (b.length + 1), .str ⟨#[c]⟩] (rst b T s ar) Q E := by
  obtain ⟨k, rfl⟩ : ∃ k, n = k + 1 := ⟨n - 1, by omega⟩
  refine call_of g (fk_241 _) (tbl_of (by kernel_rfl) (by kernel_rfl)) (fun L => s_241 g.K g.C (Nat.le_refl k) L) rfl ?_
  walk_at "n"
  simp only [b_241]
  walk_at "u"
  walk_at "n"
  refine ⟨_, rfl, rd_meth rfl ?_⟩
  walk_at "n"
  refine c_sign g (by omega) hT h.at_ h.le (by simpa using hr) ?_
  walk_at "n"
  refine ⟨_, rfl, ?_⟩
  walk_at "n"
  rw [cw_nes, isB_b, show (!decide (one (c :: rest) = (⟨#[c]⟩ : Str))) = false from by simp [one]]
  walk_at "n"
  refine ⟨_, rfl, rd_spot ?_⟩
  walk_at "n"
  rw [bw_addi, show ((s + m : Nat) : Int) + 1 = ((s + m + 1 : Nat) : Int) by omega]
  walk_at "n"
  refine ⟨_, rfl, ?_⟩
  walk_at "n"
  exact set_spot (Q := fun σ => Q .none σ) q

noncomputable def nc_248 : ME := (.and (.cmp .Lt (.attr (.loc 0) "spot") (.len (.attr (.loc 0) "text"))) (.cmp .In (.idx (.attr (.loc 0) "text") (.attr (.loc 0) "spot")) (.bin .Add (.glob 31) (.glob 30))))
noncomputable def nb_248 : MS := (.seq (.setAttr (.loc 0) "spot" (.bin .Add (.attr (.loc 0) "spot") (.int 1))) .nil)
theorem b_248_eq : b_248 = (.seq (.expr (.meth0 (.loc 0) "sign")) (.seq (.asg 1 (.attr (.loc 0) "spot")) (.seq (.whl nc_248 nb_248) (.seq (.ite (.cmp .Eq (.attr (.loc 0) "spot") (.loc 1)) .bad .nil) (.seq (.ret (.slc (.attr (.loc 0) "text") (.loc 1) (.attr (.loc 0) "spot"))) .nil))))) := rfl

theorem alnum_len : ("abcdefghijklmnopqrstuvwxyzABCDEFGHIJKLMNOPQRSTUVWXYZ" : Str).length + ("0123456789" : Str).length ≤ big := by decide +kernel

theorem name_loop {O : V → List V → St → (V → St → Prop) → (Xc → St → Prop) → Prop} {σ₀ : St} {T : Str} {ar : List Str} (hT : T.length ≤ 50000) {c : Loc → St → (Bool → St → Prop) → Prop} {b : Loc → St → (Fl → Loc → St → Prop) → Prop}
    (hc : ∀ loc σ (Q : Bool → St → Prop), wpE GV MV O nc_248 loc σ (fun d σ => isB d fun b => Q b σ) (fun _ _ => False) → c loc σ Q) (hb : ∀ loc σ Q, wpS GV MV O nb_248 loc σ Q (fun _ _ => False) → b loc σ Q) :
    ∀ (w : List Nat) (s : Nat) (rest : List Nat) (loc : Loc) (Q : Fl → Loc → St → Prop), Here T s (w ++ rest) → (∀ c ∈ w, isA c = true) → Stop rest → loc 0 = some (.obj (σ₀.length + 1)) → Q .next loc (rst σ₀ T (s + w.length) ar) →
    loopW c b (w.length + 1) loc (rst σ₀ T s ar) Q := by
  intro w
  walk_at "n"
  induction w with
  | nil =>
    intro s rest loc Q h hw hr h0 q
    walk_at "n"
    rw [List.length_nil, loopW]
    walk_at "n"
    refine hc _ _ _ ?_
    walk_at "n"
    simp only [nc_248]
    walk_at "u"
    walk_at "n"
    refine ⟨_, h0, rd_spot ⟨_, h0, rd_text ?_⟩⟩
    walk_at "n"
    refine ⟨by simp only [big]; omega, ?_⟩
    walk_at "n"
    try dsimp only
    walk_at "n"
    rw [cw_lt, isB_b]
    walk_at "n"
    rw [List.nil_append] at h
    have hl := h.len
    cases rest with
    | nil =>
      rw [List.length_nil] at hl
      rw [show decide ((s : Int) < (T.length : Int)) = false from decide_eq_false (by omega)]
      walk_at "n"
      exact q
    | cons c rest =>
      rw [List.length_cons] at hl
      rw [show decide ((s : Int) < (T.length : Int)) = true from decide_eq_true (by omega)]
      walk_at "n"
      refine ⟨_, h0, rd_text ⟨_, h0, rd_spot ?_⟩⟩
      walk_at "n"
      refine ⟨by omega, by simp only [big]; omega, c, ?_, ?_⟩
      walk_at "n"
      · rw [Int.toNat_natCast]; exact h.at_.get
        walk_at "n"
      · show binW .Add (.str _) (.str _) _
        rw [bw_adds]
        walk_at "n"
        refine ⟨alnum_len, ?_⟩
        walk_at "n"
        rw [cw_in]
        walk_at "n"
        refine ⟨rfl, ?_⟩
        walk_at "n"
        rw [isB_b]
        walk_at "n"
        have e : isA c = false := hr c rfl
        show isB (.bool (isA c)) _
        rw [isB_b, e]
        walk_at "n"
        exact q
  | cons x w ih =>
    intro s rest loc Q h hw hr h0 q
    walk_at "n"
    have hl := h.len
    rw [List.cons_append, List.length_cons] at hl
    rw [List.length_cons, loopW]
    walk_at "n"
    refine hc _ _ _ ?_
    walk_at "n"
    simp only [nc_248]
    walk_at "u"
    walk_at "n"
    refine ⟨_, h0, rd_spot ⟨_, h0, rd_text ?_⟩⟩
    walk_at "n"
    refine ⟨by simp only [big]; omega, ?_⟩
    walk_at "n"
    try dsimp only
    walk_at "n"
    rw [cw_lt, isB_b]
    walk_at "n"
    rw [show decide ((s : Int) < (T.length : Int)) = true from decide_eq_true (by omega)]
    walk_at "n"
    refine ⟨_, h0, rd_text ⟨_, h0, rd_spot ?_⟩⟩
    walk_at "n"
    refine ⟨by omega, by simp only [big]; omega, x, ?_, ?_⟩
    walk_at "n"
    · rw [Int.toNat_natCast]; exact h.at_.get
      walk_at "n"
    · show binW .Add (.str _) (.str _) _
      rw [bw_adds]
      walk_at "n"
      refine ⟨alnum_len, ?_⟩
      walk_at "n"
      rw [cw_in]
      walk_at "n"
      refine ⟨rfl, ?_⟩
      walk_at "n"
      rw [isB_b]
      walk_at "n"
      have e : isA x = true := hw x (.head _)
      show isB (.bool (isA x)) _
      rw [isB_b, e]
      walk_at "n"
      refine hb _ _ _ ?_
      walk_at "n"
      simp only [nb_248]
      walk_at "u"
      walk_at "n"
      refine ⟨_, h0, rd_spot ?_⟩
      walk_at "n"
      have e4 : (s : Int) + 1 = ((s + 1 : Nat) : Int) := by omega
      rw [bw_addi, e4]
      walk_at "n"
      refine ⟨_, h0, ?_⟩
      walk_at "n"
      refine set_spot (Q := fun σ => loopW c b (w.length + 1) loc σ Q) ?_
      walk_at "n"
      exact ih (s + 1) rest loc Q h.next (fun c hc => hw c (.tail _ hc)) hr h0 (by rw [show s + 1 + w.length = s + (w.length + 1) by omega]; exact q)

theorem c_name (g : Gd W) {b : St} {T : Str} {ar : List Str} {s m n : Nat} {w : Str} {rest : List Nat} {Q : V → St → Prop} {E : Xc → St → Prop} (hn : 2 ≤ n) (hT : T.length ≤ 50000) (h : Here T s (List.replicate m 32 ++ (w.cps.toList ++ rest))) (hw : nm w) (hr : Stop rest) (q : Q (.str w) (rst b T (s + m + w.length) ar)) :
    CallW W cls n (.ref 248) [.obj (b.length + 1)] (rst b T s ar) Q E := by
  obtain ⟨k, rfl⟩ : ∃ k, n = k + 1 := ⟨n - 1, by omega⟩
  refine call_of g (fk_248 _) (tbl_of (by kernel_rfl) (by kernel_rfl)) (fun L => s_248 g.K g.C (Nat.le_refl k) L) rfl ?_
  walk_at "n"
  simp only [b_248_eq]
  walk_at "u"
  walk_at "n"
  refine ⟨_, rfl, rd_meth rfl ?_⟩
  walk_at "n"
  have ew : w.cps.toList.length = w.length := by simp [PySem.Str.length]
  have hpos : 0 < w.length := by
    rw [← ew]
    walk_at "n"
    exact List.length_pos_iff.mpr hw.1
  refine c_sign g (by omega) hT h.at_ h.le ?_ ?_
  walk_at "n"
  · intro e
    walk_at "n"
    obtain ⟨x, xs, hx⟩ := List.exists_cons_of_ne_nil hw.1
    rw [hx] at e
    have : x = 32 := by simpa using e
    have h2 := hw.2 x (by rw [hx]; exact .head _)
    rw [this, isA_blank] at h2
    cases h2
  refine ⟨_, rfl, rd_spot ?_⟩
  walk_at "n"
  have h' := h.blanks
  refine ⟨w.cps.toList.length + 1, ?_⟩
  walk_at "n"
  refine name_loop (O := Orc W cls k) (σ₀ := b) (T := T) (ar := ar) hT (fun _ _ _ h => h) (fun _ _ _ h => h) w.cps.toList (s + m) rest _ _ h' hw.2 hr rfl ?_
  walk_at "n"
  rw [ew]
  walk_at "n"
  refine ⟨_, rfl, rd_spot ⟨_, rfl, ?_⟩⟩
  walk_at "n"
  rw [cw_eqi, isB_b, show decide (((s + m + w.length : Nat) : Int) = ((s + m : Nat) : Int)) = false from decide_eq_false (by omega)]
  walk_at "n"
  refine ⟨_, rfl, rd_text ⟨_, rfl, _, rfl, rd_spot ?_⟩⟩
  walk_at "n"
  have hl := h'.len
  rw [List.length_append, ew] at hl
  refine ⟨by simp only [big]; omega, by omega, by simp only [big]; omega, by omega, by simp only [big]; omega, ?_⟩
  walk_at "n"
  try dsimp only
  walk_at "n"
  rw [Int.toNat_natCast, Int.toNat_natCast, h'.at_.word]
  walk_at "n"
  exact q
end


theorem lastIx_app (x : Str) (ys : List Str) : ∀ (n : Nat) (zs : List Str), zs.length = n → x ∉ zs → lastIx x (ys ++ zs) = lastIx x ys := by
  intro n
  walk_at "n"
  induction n with
  | zero => intro zs h _; rw [List.eq_nil_of_length_eq_zero h, List.append_nil]
  | succ n ih =>
    intro zs h hx
    walk_at "n"
    rcases List.eq_nil_or_concat zs with rfl | ⟨us, z, rfl⟩
    · simp at h
    · rw [List.concat_eq_append] at h hx ⊢
      walk_at "n"
      rw [← List.append_assoc, lastIx_snoc]
      walk_at "n"
      rw [List.length_append] at h
      simp only [List.length_cons, List.length_nil] at h
      have hz : z ≠ x := fun e => hx (by simp [e])
      rw [if_neg hz]
      walk_at "n"
      exact ih us (by omega) fun e => hx (by simp [e])

theorem oth_short {x : Str} (h : x ∈ oths) : x.length ≤ 2 ∧ Plain x ∧ nbV x "var" = -1 ∧ (x.cps.toList.take 3 = ("var" : Str).cps.toList → (x.cps.toList.drop 3).length ≤ 1) ∧ (x.cps.toList.take 1 = ("y" : Str).cps.toList → (x.cps.toList.drop 1).length ≤ 1) := by
  have hp := plain_names x (oth_plain h)
  simp only [oths, List.mem_cons, List.not_mem_nil, or_false] at h
  rcases h with rfl | rfl | rfl | rfl <;> exact ⟨by decide, hp, by decide, by decide, by decide⟩
theorem oth_nb {x : Str} (h : x ∈ oths) : (nbV x "y" = -1 ∧ yn x = none) ∨ ∃ k : Nat, k < 2 ∧ nbV x "y" = k ∧ yn x = some k := by
  simp only [oths, List.mem_cons, List.not_mem_nil, or_false] at h
  rcases h with rfl | rfl | rfl | rfl
  · exact .inl ⟨by decide, by decide⟩
  · exact .inr ⟨0, by decide, by decide, by decide⟩
  · exact .inr ⟨1, by decide, by decide, by decide⟩
  · exact .inl ⟨by decide, by decide⟩

noncomputable def lb_255 : MS := (.seq (.ite (.cmp .Eq (.idx (.attr (.loc 0) "around") (.bin .Sub (.bin .Sub (.len (.attr (.loc 0) "around")) (.int 1)) (.loc 2))) (.loc 1)) (.seq (.ret (.call1 (.glob 5) (.loc 2))) .nil) .nil) .nil)
noncomputable def lr_255 : MS := (.seq (.ite (.cmp .GtE (.call2 (.glob 3) (.loc 1) (.str "var")) (.int 0)) (.seq (.raise (.glob 38) (.fmt Str.empty (.loc 1) " is called like a variable") (some (.bin .Sub (.attr (.loc 0) "spot") (.len (.loc 1))))) .nil) .nil) (.seq (.asg 3 (.call2 (.glob 3) (.loc 1) (.str "y"))) (.seq (.ret (.ite (.cmp .Lt (.loc 3) (.int 0)) (.tup1 (.loc 1)) (.call1 (.glob 5) (.bin .Add (.loc 3) (.len (.attr (.loc 0) "around")))))) .nil)))
theorem b_255_eq : b_255 = .seq (.asg 1 (.meth0 (.loc 0) "name")) (.seq (.forr 2 (.range (.len (.attr (.loc 0) "around"))) lb_255) lr_255) := rfl

section
variable {W : Wd}

theorem leaf_loop (g : Gd W) {k₀ : Nat} (hk : 1 ≤ k₀) {σ₀ : St} {T : Str} {s : Nat} {ar : List Str} {x : Str} (hl : ar.length ≤ 9) {b : Loc → St → (Fl → Loc → St → Prop) → Prop} (hb : ∀ loc σ Q, wpS GV MV (Orc W clsX k₀) lb_255 loc σ Q (fun _ _ => False) → b loc σ Q) :
    ∀ (ys : List Str) (n : Nat) (zs : List Str) (i : Nat) (loc : Loc) (Q : Fl → Loc → St → Prop), ys.length = n → ar = ys ++ zs → x ∉ zs → loc 0 = some (.obj (σ₀.length + 1)) → loc 1 = some (.str x) →
    (0 ≤ lastIx x ar → ∀ loc', Q (.ret (enc (.var (ar.length - 1 - (lastIx x ar).toNat)))) loc' (rst σ₀ T s ar)) → (x ∉ ar → ∀ loc', loc' 0 = loc 0 → loc' 1 = loc 1 → Q .next loc' (rst σ₀ T s ar)) →
    forW b (fun loc _ d => upd loc 2 d) i ((List.range' zs.length n).map fun k => V.int (k : Nat)) loc (rst σ₀ T s ar) Q := by
  intro ys n
  walk_at "n"
  induction n generalizing ys with
  | zero =>
    intro zs i loc Q hn he hx h0 h1 _ q
    walk_at "n"
    rw [List.eq_nil_of_length_eq_zero hn, List.nil_append] at he
    exact q (by rw [he]; exact hx) loc rfl rfl
  | succ n ih =>
    intro zs i loc Q hn he hx h0 h1 q1 q2
    walk_at "n"
    rcases List.eq_nil_or_concat ys with rfl | ⟨us, z, rfl⟩
    · simp at hn
    rw [List.concat_eq_append] at hn he
    walk_at "n"
    have hlen : ar.length = us.length + 1 + zs.length := by rw [he]; simp; omega
    rw [List.length_append] at hn
    simp only [List.length_cons, List.length_nil] at hn
    rw [List.range'_succ, List.map_cons, forW_cons]
    walk_at "n"
    refine hb _ _ _ ?_
    walk_at "n"
    simp only [lb_255]
    walk_at "u"
    walk_at "n"
    refine ⟨_, h0, rd_around ⟨_, h0, rd_around ?_⟩⟩
    walk_at "n"
    refine ⟨_, rst2 .., by simp only [vstr, List.length_map, big]; omega, ?_⟩
    walk_at "n"
    try dsimp only
    walk_at "n"
    rw [bw_subi]
    walk_at "n"
    refine ⟨_, rfl, ?_⟩
    walk_at "n"
    have e : (((vstr ar).length : Nat) : Int) - 1 - ((zs.length : Nat) : Int) = ((us.length : Nat) : Int) := by simp only [vstr, List.length_map]; omega
    rw [bw_subi, e]
    walk_at "n"
    have hget : ar[us.length]? = some z := by rw [he, List.append_assoc, List.getElem?_append_right (Nat.le_refl _), Nat.sub_self]; rfl
    refine ⟨_, rst2 .., by omega, by simp only [big]; omega, .str z, ?_, ?_⟩
    walk_at "n"
    · rw [Int.toNat_natCast]
      walk_at "n"
      simp [vstr, hget]
    refine ⟨_, h1, ?_⟩
    walk_at "n"
    rw [cw_eqs, isB_b]
    walk_at "n"
    have hlast : lastIx x ar = lastIx x (us ++ [z]) := by rw [he]; exact lastIx_app x _ _ zs rfl hx
    rw [lastIx_snoc] at hlast
    by_cases h : z = x
    · rw [show decide (z = x) = true from decide_eq_true h]
      walk_at "n"
      rw [if_pos h] at hlast
      refine ⟨_, rfl, ?_⟩
      walk_at "n"
      refine (c_variable (n := 0) g (i := zs.length) (by omega) ?_).up hk
      walk_at "n"
      have := q1 (by rw [hlast]; omega)
      rw [hlast, Int.toNat_natCast, show ar.length - 1 - us.length = zs.length by omega] at this
      exact this _
    · rw [show decide (z = x) = false from decide_eq_false h]
      walk_at "n"
      refine ih us (z :: zs) (i + 1) _ Q (by omega) (by rw [he]; simp) ?_ h0 h1 q1 (fun hx loc' e0 e1 => q2 hx loc' ?_ ?_)
      walk_at "n"
      · intro e
        walk_at "n"
        rcases List.mem_cons.mp e with e | e
        · exact h e.symm
        · exact hx e
      · exact e0
      · exact e1

theorem range_eq (n : Nat) : ((List.range n).map fun k => V.int (k : Nat)) = ((List.range' 0 n).map fun k => V.int (k : Nat)) := by rw [List.range_eq_range']

theorem leaf_start (g : Gd W) {b : St} {T : Str} {ar : List Str} {s m k : Nat} {w : Str} {rest : List Nat} {Q : V → St → Prop} {E : Xc → St → Prop} (hn : 4 ≤ k) (hT : T.length ≤ 50000) (hl : ar.length ≤ 9) (h : Here T s (List.replicate m 32 ++ (w.cps.toList ++ rest))) (hw : nm w) (hr : Stop rest)
    (q1 : 0 ≤ lastIx w ar → Q (enc (.var (ar.length - 1 - (lastIx w ar).toNat))) (rst b T (s + m + w.length) ar))
    (q2 : w ∉ ar → ∀ loc : Loc, loc 0 = some (.obj (b.length + 1)) → loc 1 = some (.str w) → wpS GV MV (Orc W clsX k) lr_255 loc (rst b T (s + m + w.length) ar) (fun fl _ σ => match fl with | .ret d => Q d σ | .next => Q .none σ | .brk => False) E) :
    CallW W clsX (k + 1) (.ref 255) [.obj (b.length + 1)] (rst b T s ar) Q E := by
  refine call_of g (fk_255 _) (tbl_of (by kernel_rfl) (by kernel_rfl)) (fun L => s_255 g (by omega) (Nat.le_refl k) L) rfl ?_
  walk_at "n"
  simp only [b_255_eq]
  walk_at "u"
  walk_at "n"
  refine ⟨_, rfl, rd_meth rfl ?_⟩
  walk_at "n"
  refine c_name g (by omega) hT h hw hr ?_
  walk_at "n"
  refine ⟨_, rfl, rd_around ?_⟩
  walk_at "n"
  refine ⟨_, rst2 .., by simp only [vstr, List.length_map, big]; omega, ?_⟩
  walk_at "n"
  refine ⟨⟨by omega, by simp only [vstr, List.length_map, big]; omega⟩, ?_⟩
  walk_at "n"
  rw [Int.toNat_natCast, range_eq, show (vstr ar).length = ar.length by simp [vstr]]
  walk_at "n"
  refine leaf_loop g (k₀ := k) (by omega) hl (fun _ _ _ h => h) ar ar.length [] 0 _ _ rfl (by simp) (by simp) rfl rfl (fun h0 loc' => q1 h0) (fun hx loc' e0 e1 => ?_)
  walk_at "n"
  exact q2 hx loc' e0 e1

theorem c_leaf (g : Gd W) {b : St} {T : Str} {ar : List Str} {s m n : Nat} {w : Str} {rest : List Nat} {Q : V → St → Prop} {E : Xc → St → Prop} (hn : 5 ≤ n) (hT : T.length ≤ 50000) (hl : ar.length ≤ 8) (h : Here T s (List.replicate m 32 ++ (w.cps.toList ++ rest))) (hw : nm w) (hr : Stop rest) (hx : w ∈ ar ∨ w ∈ oths)
    (q : Q (enc (core (.name w) ar)) (rst b T (s + m + w.length) ar)) :
    CallW W clsX n (.ref 255) [.obj (b.length + 1)] (rst b T s ar) Q E := by
  obtain ⟨k, rfl⟩ : ∃ k, n = k + 1 := ⟨n - 1, by omega⟩
  refine leaf_start g (by omega) hT (by omega) h hw hr ?_ ?_
  walk_at "n"
  · intro h0
    walk_at "n"
    rw [core, if_pos h0] at q
    exact q
  · intro hna loc e0 e1
    walk_at "n"
    have hlt : ¬ 0 ≤ lastIx w ar := fun e => hna (lastIx_mem.mpr e)
    have ho : w ∈ oths := hx.resolve_left hna
    obtain ⟨hsh, hp, hnb, hd, hd'⟩ := oth_short ho
    simp only [lr_255]
    walk_at "u"
    walk_at "n"
    refine ⟨_, e1, ?_⟩
    walk_at "n"
    refine (c_number_behind (n := 0) (b := "var") g (by omega) (by decide) hp hd ?_).up (by omega)
    walk_at "n"
    rw [cw_ge, isB_b, hnb, show decide ((-1 : Int) ≥ 0) = false from rfl]
    walk_at "n"
    refine ⟨_, e1, ?_⟩
    walk_at "n"
    refine (c_number_behind (n := 0) (b := "y") g (by omega) (by decide) hp hd' ?_).up (by omega)
    walk_at "n"
    refine ⟨_, rfl, ?_⟩
    walk_at "n"
    rw [cw_lt, isB_b]
    walk_at "n"
    rw [core, if_neg hlt] at q
    rcases oth_nb ho with ⟨h1, h2⟩ | ⟨j, hj, h1, h2⟩
    · rw [h1, show decide ((-1 : Int) < 0) = true from rfl]
      walk_at "n"
      rw [h2] at q
      exact ⟨_, e1, q⟩
    · rw [h1, show decide (((j : Nat) : Int) < 0) = false from decide_eq_false (by omega)]
      walk_at "n"
      rw [h2] at q
      refine ⟨_, rfl, ?_⟩
      walk_at "n"
      refine ⟨_, e0, rd_around ?_⟩
      walk_at "n"
      refine ⟨_, rst2 .., by simp only [vstr, List.length_map, big]; omega, ?_⟩
      walk_at "n"
      try dsimp only
      walk_at "n"
      rw [bw_addi, show (vstr ar).length = ar.length by simp [vstr], show (j : Int) + ((ar.length : Nat) : Int) = ((j + ar.length : Nat) : Int) by omega]
      walk_at "n"
      exact (c_variable (n := 0) g (i := j + ar.length) (by omega) q).up (by omega)

theorem nm_var2 : nm "var2" := ⟨by decide, by decide +kernel⟩
theorem c_leaf_bad (g : Gd W) {b : St} {T : Str} {ar : List Str} {s m n : Nat} {rest : List Nat} {Q : V → St → Prop} {E : Xc → St → Prop} (hn : 5 ≤ n) (hT : T.length ≤ 50000) (hl : ar.length ≤ 8) (h : Here T s (List.replicate m 32 ++ (("var2" : Str).cps.toList ++ rest))) (hr : Stop rest) (hx : ("var2" : Str) ∉ ar)
    (q : ∀ σ', E (.text ((s + m : Nat) : Int)) (b ++ σ')) :
    CallW W clsX n (.ref 255) [.obj (b.length + 1)] (rst b T s ar) Q E := by
  obtain ⟨k, rfl⟩ : ∃ k, n = k + 1 := ⟨n - 1, by omega⟩
  refine leaf_start g (by omega) hT (by omega) h nm_var2 hr ?_ ?_
  walk_at "n"
  · intro h0
    walk_at "n"
    exact absurd (lastIx_mem.mpr h0) hx
  · intro hna loc e0 e1
    walk_at "n"
    simp only [lr_255]
    walk_at "u"
    walk_at "n"
    refine ⟨_, e1, ?_⟩
    walk_at "n"
    have hp : Plain "var2" := by
      intro c hc
      walk_at "n"
      have : c ∈ [118, 97, 114, 50] := hc
      simp only [List.mem_cons, List.not_mem_nil, or_false] at this
      rcases this with rfl | rfl | rfl | rfl <;> decide
    refine (c_number_behind (n := 0) g (by decide) (by decide) hp (fun _ => by decide) ?_).up (by omega)
    walk_at "n"
    rw [cw_ge, isB_b, show decide (nbV "var2" "var" ≥ (0 : Int)) = true from by decide]
    walk_at "n"
    refine ⟨_, e1, ?_⟩
    walk_at "n"
    refine ⟨by decide +kernel, ?_⟩
    walk_at "n"
    refine ⟨_, e0, rd_spot ⟨_, e1, ?_⟩⟩
    walk_at "n"
    refine ⟨by decide +kernel, ?_⟩
    walk_at "n"
    try dsimp only
    walk_at "n"
    rw [bw_subi, show ((s + m + ("var2" : Str).length : Nat) : Int) - ((("var2" : Str).length : Nat) : Int) = ((s + m : Nat) : Int) by omega]
    walk_at "n"
    exact q _
end


inductive Lay (R : List Nat → Nat → Prop) : List Str → List Nat → Nat → Prop
  | nil {l : List Nat} {k : Nat} : R l k → Lay R [] l k
  | cons {w : Str} {ws : List Str} {t : List Nat} {k : Nat} (m : Nat) : Lay R ws t k → (nm w → Stop t) → Lay R (w :: ws) (List.replicate m 32 ++ (w.cps.toList ++ t)) (m + w.length + k)
theorem Lay.inv {R : List Nat → Nat → Prop} {w : Str} {ws : List Str} {l : List Nat} {k : Nat} (h : Lay R (w :: ws) l k) : ∃ m t k', l = List.replicate m 32 ++ (w.cps.toList ++ t) ∧ k = m + w.length + k' ∧ Lay R ws t k' ∧ (nm w → Stop t) := by
  cases h with
  | cons m h hs => exact ⟨m, _, _, rfl, rfl, h, hs⟩
theorem Lay.one {R : List Nat → Nat → Prop} {l : List Nat} {k : Nat} (h : Lay R [] l k) : R l k := by cases h; assumption
theorem Lay.split {R : List Nat → Nat → Prop} {b : List Str} : ∀ {a : List Str} {l : List Nat} {k : Nat}, Lay R (a ++ b) l k → Lay (Lay R b) a l k
  | [], _, _, h => .nil h
  | w :: a, l, k, h => by
    obtain ⟨m, t, k', rfl, rfl, h, hs⟩ := Lay.inv h
    exact .cons m (Lay.split h) hs

noncomputable def hT : Tr → Nat
  | .lam _ t => hT t + 1
  | .app t u => max (hT t) (hT u) + 1
  | .name _ => 1
noncomputable def GoodT : List Str → Tr → Prop
  | ar, .lam x t => nm x ∧ GoodT (ar ++ [x]) t
  | ar, .app t u => GoodT ar t ∧ GoodT ar u
  | ar, .name x => nm x ∧ (x ∈ ar ∨ x ∈ oths) ∧ ar.length ≤ 8
inductive BadT : Nat → List Str → List Str → Prop
  | leaf {h : Nat} {ar : List Str} : ("var2" : Str) ∉ ar → ar.length ≤ 8 → BadT (h + 1) ar []
  | lam {h : Nat} {ar pre : List Str} {x : Str} : nm x → BadT h (ar ++ [x]) pre → BadT (h + 1) ar ("\\" :: x :: "." :: pre)
  | appl {h : Nat} {ar pre : List Str} : BadT h ar pre → BadT (h + 1) ar ("(" :: pre)
  | appr {h : Nat} {ar pre : List Str} {t : Tr} : GoodT ar t → hT t ≤ h → BadT h ar pre → BadT (h + 1) ar ("(" :: (words t ++ pre))
noncomputable def RBad (l : List Nat) (k : Nat) : Prop := ∃ m t, l = List.replicate m 32 ++ (("var2" : Str).cps.toList ++ t) ∧ k = m ∧ Stop t

theorem nm_head {w : Str} (h : nm w) : ∃ c cs, w.cps.toList = c :: cs ∧ isA c = true ∧ c ≠ 32 ∧ c ≠ 92 ∧ c ≠ 40 := by
  obtain ⟨c, cs, e⟩ := List.exists_cons_of_ne_nil h.1
  have hA := h.2 c (by rw [e]; exact .head _)
  refine ⟨c, cs, e, hA, ?_, ?_, ?_⟩ <;> rintro rfl
  walk_at "n"
  · rw [isA_blank] at hA; cases hA
    walk_at "n"
  · rw [isA_lam] at hA; cases hA
    walk_at "n"
  · rw [isA_open] at hA; cases hA
    walk_at "n"

theorem s_dot : ("." : Str) = ⟨#[46]⟩ := by decide
theorem s_open : ("(" : Str) = ⟨#[40]⟩ := by decide
theorem s_close : (")" : Str) = ⟨#[41]⟩ := by decide
theorem s_lam : ("\\" : Str) = ⟨#[92]⟩ := by decide

noncomputable def lm_262 : MS := (.seq (.expr (.meth1 (.loc 0) "want" (.loc 2))) (.seq (.expr (.append (.attr (.loc 0) "around") (.meth0 (.loc 0) "name"))) (.seq (.expr (.meth1 (.loc 0) "want" (.str "."))) (.seq (.asg 3 (.tup2 (.str "lam") (.meth1 (.loc 0) "term" (.bin .Sub (.loc 1) (.int 1))))) (.seq (.expr (.pop (.attr (.loc 0) "around"))) (.seq (.ret (.loc 3)) .nil))))))
noncomputable def ap_262 : MS := (.seq (.expr (.meth1 (.loc 0) "want" (.str "("))) (.seq (.asg 4 (.meth1 (.loc 0) "term" (.bin .Sub (.loc 1) (.int 1)))) (.seq (.asg 3 (.tup3 (.str "app") (.loc 4) (.meth1 (.loc 0) "term" (.bin .Sub (.loc 1) (.int 1))))) (.seq (.expr (.meth1 (.loc 0) "want" (.str ")"))) (.seq (.ret (.loc 3)) .nil)))))
theorem b_262_eq : b_262 = (.seq (.ite (.cmp .Eq (.loc 1) (.int 0)) .bad .nil) (.seq (.asg 2 (.meth0 (.loc 0) "sign")) (.seq (.ite (.cmp .Eq (.loc 2) (.str "\\")) lm_262 .nil) (.seq (.ite (.cmp .NotEq (.loc 2) (.str "(")) (.seq (.ret (.meth0 (.loc 0) "leaf")) .nil) .nil) ap_262)))) := rfl

section
variable {W : Wd}

theorem term_start (g : Gd W) {b : St} {T : Str} {ar : List Str} {s m k d c : Nat} {rest : List Nat} {Q : V → St → Prop} {E : Xc → St → Prop} (hn : 1 ≤ k) (hd : 0 < d) (hT : T.length ≤ 50000) (h : Here T s (List.replicate m 32 ++ c :: rest)) (hc : c ≠ 32)
    (q : ∀ (loc : Loc) (K : Fl → Loc → St → Prop), (∀ d l σ, Q d σ → K (.ret d) l σ) → loc 0 = some (.obj (b.length + 1)) → loc 1 = some (.int d) → loc 2 = some (.str ⟨#[c]⟩) →
      if c = 92 then wpS GV MV (Orc W clsX k) lm_262 loc (rst b T (s + m) ar) K E
      else if c = 40 then wpS GV MV (Orc W clsX k) ap_262 loc (rst b T (s + m) ar) K E
      else CallW W clsX k (.ref 255) [.obj (b.length + 1)] (rst b T (s + m) ar) Q E) :
    CallW W clsX (k + 1) (.ref 262) [.obj (b.length + 1), .int d] (rst b T s ar) Q E := by
  refine call_of g (fk_262 _) (tbl_of (by kernel_rfl) (by kernel_rfl)) (fun L => s_262 g.K g.C (Nat.le_refl k) L) rfl ?_
  walk_at "n"
  simp only [b_262_eq]
  walk_at "u"
  walk_at "n"
  refine ⟨_, rfl, ?_⟩
  walk_at "n"
  rw [cw_eqi, isB_b, show decide ((d : Int) = 0) = false from decide_eq_false (by omega)]
  walk_at "n"
  refine ⟨_, rfl, rd_meth rfl ?_⟩
  walk_at "n"
  refine c_sign g (by omega) hT h.at_ h.le (by simpa using hc) ?_
  walk_at "n"
  refine ⟨_, rfl, ?_⟩
  walk_at "n"
  rw [cw_eqs, isB_b, s_lam]
  walk_at "n"
  by_cases h1 : c = 92
  · subst h1
    rw [show decide (one (92 :: rest) = (⟨#[92]⟩ : Str)) = true from decide_eq_true rfl]
    walk_at "n"
    refine q _ _ ?_ rfl rfl rfl
    walk_at "n"
    exact fun _ _ _ h => h
  · rw [show decide (one (c :: rest) = (⟨#[92]⟩ : Str)) = false from decide_eq_false (by simpa [one] using h1)]
    walk_at "n"
    refine ⟨_, rfl, ?_⟩
    walk_at "n"
    rw [cw_nes, isB_b, s_open]
    walk_at "n"
    by_cases h2 : c = 40
    · subst h2
      rw [show (!decide (one (40 :: rest) = (⟨#[40]⟩ : Str))) = false from by rw [decide_eq_true (by rfl)]; rfl]
      walk_at "n"
      refine q _ _ ?_ rfl rfl rfl
      walk_at "n"
      exact fun _ _ _ h => h
    · rw [show (!decide (one (c :: rest) = (⟨#[40]⟩ : Str))) = true from by rw [decide_eq_false (by simpa [one] using h2)]; rfl]
      walk_at "n"
      refine ⟨_, rfl, rd_meth rfl ?_⟩
      walk_at "n"
      have q := q (upd (args0 [.obj (b.length + 1), .int d]) 2 (.str ⟨#[c]⟩)) (fun fl _ σ => match fl with | .ret d => Q d σ | _ => False) (fun _ _ _ h => h) rfl rfl rfl
      rw [if_neg h1, if_neg h2] at q
      exact q

theorem lam_open (g : Gd W) {R : List Nat → Nat → Prop} {b : St} {T : Str} {ar : List Str} {s k d kk : Nat} {x : Str} {ws : List Str} {l : List Nat} {Q : V → St → Prop} {E : Xc → St → Prop} (hn : 3 ≤ k) (hd : 0 < d) (hT : T.length ≤ 50000) (hx : nm x) (hl : ar.length ≤ 50000) (lay : Lay R ("\\" :: x :: "." :: ws) l kk) (h : Here T s l)
    (q : ∀ s' l' k', Lay R ws l' k' → Here T s' l' → s' + k' = s + kk →
      CallW W clsX k (.ref 262) [.obj (b.length + 1), .int ((d - 1 : Nat) : Int)] (rst b T s' (ar ++ [x])) (fun v σ => ∃ s'', σ = rst b T s'' (ar ++ [x]) ∧ Q (.tup [.str "lam", v]) (rst b T s'' ar)) E) :
    CallW W clsX (k + 1) (.ref 262) [.obj (b.length + 1), .int d] (rst b T s ar) Q E := by
  obtain ⟨m, t, k1, rfl, rfl, lay, _⟩ := lay.inv
  obtain ⟨m1, t1, k2, rfl, rfl, lay, st1⟩ := lay.inv
  obtain ⟨m2, t2, k3, rfl, rfl, lay, _⟩ := lay.inv
  refine term_start g (c := 92) (m := m) (by omega) hd hT h (by decide) fun loc K hK e0 e1 e2 => ?_
  walk_at "n"
  rw [if_pos rfl]
  walk_at "n"
  simp only [lm_262]
  walk_at "u"
  walk_at "n"
  have h1 := h.blanks
  refine ⟨_, e0, rd_meth rfl ⟨_, e2, ?_⟩⟩
  walk_at "n"
  refine c_want g (m := 0) (by omega) hT (c := 92) h1 (by decide) ?_
  walk_at "n"
  have h2 : Here T (s + m + 1) (List.replicate m1 32 ++ (x.cps.toList ++ (List.replicate m2 32 ++ (("." : Str).cps.toList ++ t2)))) := h1.next
  refine ⟨_, e0, rd_around ?_⟩
  walk_at "n"
  refine ⟨⟨_, _, rfl, rst2 ..⟩, ?_⟩
  walk_at "n"
  refine ⟨_, e0, rd_meth rfl ?_⟩
  walk_at "n"
  refine c_name g (by omega) hT h2 hx (st1 hx) ?_
  walk_at "n"
  refine ⟨_, rst2 .., by simp only [vstr, List.length_map, big]; omega, ?_⟩
  walk_at "n"
  rw [vstr_snoc, rst_ar]
  walk_at "n"
  have h3 : Here T (s + m + 1 + m1 + x.length) (List.replicate m2 32 ++ 46 :: t2) := by
    have := h2.blanks.skip
    rwa [show x.cps.toList.length = x.length by simp [PySem.Str.length]] at this
  refine ⟨_, e0, rd_meth rfl ?_⟩
  walk_at "n"
  rw [s_dot]
  walk_at "n"
  refine c_want g (by omega) hT h3 (by decide) ?_
  walk_at "n"
  have h4 := h3.blanks.next
  refine ⟨_, e0, rd_meth rfl ⟨_, e1, ?_⟩⟩
  walk_at "n"
  rw [bw_subi, show (d : Int) - 1 = ((d - 1 : Nat) : Int) by omega]
  walk_at "n"
  refine (q _ _ _ lay h4 ?_).mono ?_ fun _ _ h => h
  walk_at "n"
  · have a1 : ("\\" : Str).length = 1 := rfl
    have a2 : ("." : Str).length = 1 := rfl
    rw [a1, a2]; omega
    walk_at "n"
  · rintro v σ ⟨s'', rfl, q⟩
    walk_at "n"
    refine ⟨_, e0, rd_around ?_⟩
    walk_at "n"
    refine ⟨vstr ar, .str x, ?_, by simp only [vstr, List.length_map, big]; omega, ?_⟩
    walk_at "n"
    · rw [vstr_snoc]; exact rst2 ..
      walk_at "n"
    rw [rst_ar]
    walk_at "n"
    refine ⟨_, rfl, ?_⟩
    walk_at "n"
    exact hK _ _ _ q

theorem app_open (g : Gd W) {R : List Nat → Nat → Prop} {b : St} {T : Str} {ar : List Str} {s k d kk : Nat} {ws : List Str} {l : List Nat} {Q : V → St → Prop} {E : Xc → St → Prop} (hn : 3 ≤ k) (hd : 0 < d) (hT : T.length ≤ 50000) (lay : Lay R ("(" :: ws) l kk) (h : Here T s l)
    (q : ∀ s' l' k', Lay R ws l' k' → Here T s' l' → s' + k' = s + kk →
      CallW W clsX k (.ref 262) [.obj (b.length + 1), .int ((d - 1 : Nat) : Int)] (rst b T s' ar) (fun v σ => ∃ s1, σ = rst b T s1 ar ∧
        CallW W clsX k (.ref 262) [.obj (b.length + 1), .int ((d - 1 : Nat) : Int)] (rst b T s1 ar) (fun v' σ => ∃ s2 m t, Here T s2 (List.replicate m 32 ++ 41 :: t) ∧ σ = rst b T s2 ar ∧ Q (.tup [.str "app", v, v']) (rst b T (s2 + m + 1) ar)) E) E) :
    CallW W clsX (k + 1) (.ref 262) [.obj (b.length + 1), .int d] (rst b T s ar) Q E := by
  obtain ⟨m, t, k1, rfl, rfl, lay, _⟩ := lay.inv
  refine term_start g (c := 40) (m := m) (by omega) hd hT h (by decide) fun loc K hK e0 e1 e2 => ?_
  walk_at "n"
  rw [if_neg (by decide), if_pos rfl]
  walk_at "n"
  simp only [ap_262]
  walk_at "u"
  walk_at "n"
  have h1 : Here T (s + m) (List.replicate 0 32 ++ 40 :: t) := h.blanks
  refine ⟨_, e0, rd_meth rfl ?_⟩
  walk_at "n"
  rw [s_open]
  walk_at "n"
  refine c_want g (m := 0) (by omega) hT (c := 40) h1 (by decide) ?_
  walk_at "n"
  refine ⟨_, e0, rd_meth rfl ⟨_, e1, ?_⟩⟩
  walk_at "n"
  rw [bw_subi, show (d : Int) - 1 = ((d - 1 : Nat) : Int) by omega]
  walk_at "n"
  refine (q _ _ _ lay (h1.blanks.next) ?_).mono ?_ fun _ _ h => h
  walk_at "n"
  · have a1 : ("(" : Str).length = 1 := rfl
    rw [a1]; omega
    walk_at "n"
  · rintro v σ ⟨s1, rfl, q⟩
    walk_at "n"
    refine ⟨_, rfl, ?_⟩
    walk_at "n"
    refine ⟨_, e0, rd_meth rfl ?_⟩
    walk_at "n"
    refine ⟨_, e1, ?_⟩
    walk_at "n"
    rw [bw_subi, show (d : Int) - 1 = ((d - 1 : Nat) : Int) by omega]
    walk_at "n"
    refine q.mono ?_ fun _ _ h => h
    walk_at "n"
    rintro v' σ ⟨s2, m, t, h2, rfl, q⟩
    walk_at "n"
    refine ⟨_, e0, rd_meth rfl ?_⟩
    walk_at "n"
    rw [s_close]
    walk_at "n"
    refine c_want g (by omega) hT h2 (by decide) ?_
    walk_at "n"
    refine ⟨_, rfl, ?_⟩
    walk_at "n"
    exact hK _ _ _ q
end


theorem words_app (t u : Tr) : words (.app t u) = (("(" : Str) :: (words t ++ (words u ++ [(")" : Str)])) : List Str) := by simp [words]
theorem hT_pos (t : Tr) : 0 < hT t := by cases t <;> simp [hT]

section
variable {W : Wd}

theorem c_term (g : Gd W) {b : St} {T : Str} (hl : T.length ≤ 50000) {E : Xc → St → Prop} : ∀ (t : Tr) (ar : List Str) (d n : Nat) (R : List Nat → Nat → Prop) (s : Nat) (l : List Nat) (kk : Nat) (Q : V → St → Prop), hT t ≤ d → hT t + 5 ≤ n → GoodT ar t → ar.length + hT t ≤ 100 →
    Lay R (words t) l kk → Here T s l → (∀ s' l' k', R l' k' → Here T s' l' → s' + k' = s + kk → Q (enc (core t ar)) (rst b T s' ar)) → CallW W clsX n (.ref 262) [.obj (b.length + 1), .int d] (rst b T s ar) Q E
  | .lam x t, ar, d, n + 1, R, s, l, kk, Q, hd, hn, gd, ha, lay, h, q => by
    simp only [hT] at hd hn ha
    refine lam_open g (R := R) (by omega) (by omega) hl gd.1 (by omega) lay h fun s' l' k' lay' h' e => ?_
    walk_at "n"
    refine c_term g hl t (ar ++ [x]) (d - 1) n R s' l' k' _ (by omega) (by omega) gd.2 (by rw [List.length_append]; simp only [List.length_cons, List.length_nil]; omega) lay' h' fun s'' l'' k'' r h'' e' => ?_
    walk_at "n"
    exact ⟨s'', rfl, q s'' l'' k'' r h'' (by omega)⟩
  | .app t u, ar, d, n + 1, R, s, l, kk, Q, hd, hn, gd, ha, lay, h, q => by
    simp only [hT] at hd hn ha
    rw [words_app] at lay
    refine app_open g (R := R) (by omega) (by omega) hl lay h fun s' l' k' lay' h' e => ?_
    walk_at "n"
    refine c_term g hl t ar (d - 1) n _ s' l' k' _ (by omega) (by omega) gd.1 (by omega) lay'.split h' fun s1 l1 k1 r h1 e1 => ?_
    walk_at "n"
    refine ⟨s1, rfl, ?_⟩
    walk_at "n"
    refine c_term g hl u ar (d - 1) n _ s1 l1 k1 _ (by omega) (by omega) gd.2 (by omega) r.split h1 fun s2 l2 k2 r2 h2 e2 => ?_
    walk_at "n"
    obtain ⟨m, t', k3, rfl, rfl, lay2, _⟩ := r2.inv
    refine ⟨s2, m, t', h2, rfl, ?_⟩
    walk_at "n"
    have a1 : (")" : Str).length = 1 := rfl
    refine q _ t' k3 lay2.one ?_ (by rw [a1] at e2; omega)
    walk_at "n"
    have h3 : Here T s2 (List.replicate m 32 ++ 41 :: t') := h2
    exact h3.blanks.next
  | .name x, ar, d, n + 1, R, s, l, kk, Q, hd, hn, gd, ha, lay, h, q => by
    simp only [hT] at hd hn ha
    obtain ⟨m, t', k1, rfl, rfl, lay, st⟩ := lay.inv
    obtain ⟨c, cs, e, hA, hc1, hc2, hc3⟩ := nm_head gd.1
    have h' := h
    rw [e] at h'
    walk_at "n"
    refine term_start g (c := c) (m := m) (rest := cs ++ t') (by omega) (by omega) hl h' hc1 fun loc K hK e0 e1 e2 => ?_
    walk_at "n"
    rw [if_neg hc2, if_neg hc3]
    walk_at "n"
    have h2 : Here T (s + m) (List.replicate 0 32 ++ (x.cps.toList ++ t')) := h.blanks
    refine c_leaf g (m := 0) (by omega) hl gd.2.2 h2 gd.1 (st gd.1) gd.2.1 ?_
    walk_at "n"
    refine q _ t' k1 lay.one ?_ (by omega)
    walk_at "n"
    have h3 := h2.blanks.skip
    rwa [show x.cps.toList.length = x.length by simp [PySem.Str.length]] at h3

theorem c_term_bad (g : Gd W) {b : St} {T : Str} (hl : T.length ≤ 50000) {E : Xc → St → Prop} {p : Nat} (q : ∀ σ', E (.text (p : Int)) (b ++ σ')) {hh : Nat} {ar : List Str} {pre : List Str} (bad : BadT hh ar pre) : ∀ (d n s : Nat) (l : List Nat) (kk : Nat) (Q : V → St → Prop), hh ≤ d → hh + 5 ≤ n → ar.length + hh ≤ 100 →
    Lay RBad pre l kk → Here T s l → s + kk = p → CallW W clsX n (.ref 262) [.obj (b.length + 1), .int d] (rst b T s ar) Q E := by
  induction bad with
  | leaf hx ha =>
    intro d n s l kk Q hd hn _ lay h e
    walk_at "n"
    obtain ⟨n, rfl⟩ : ∃ k, n = k + 1 := ⟨n - 1, by omega⟩
    obtain ⟨m, t', rfl, rfl, st⟩ := lay.one
    obtain ⟨c, cs, ec, hA, hc1, hc2, hc3⟩ := nm_head nm_var2
    have h' := h
    rw [ec] at h'
    walk_at "n"
    refine term_start g (c := c) (m := kk) (rest := cs ++ t') (by omega) (by omega) hl h' hc1 fun loc K hK e0 e1 e2 => ?_
    walk_at "n"
    rw [if_neg hc2, if_neg hc3]
    walk_at "n"
    have h2 : Here T (s + kk) (List.replicate 0 32 ++ (("var2" : Str).cps.toList ++ t')) := h.blanks
    refine c_leaf_bad g (m := 0) (by omega) hl ha h2 st hx fun σ' => ?_
    walk_at "n"
    rw [Nat.add_zero, e]
    walk_at "n"
    exact q σ'
  | lam hx _ ih =>
    intro d n s l kk Q hd hn ha lay h e
    walk_at "n"
    obtain ⟨n, rfl⟩ : ∃ k, n = k + 1 := ⟨n - 1, by omega⟩
    refine lam_open g (R := RBad) (by omega) (by omega) hl hx (by omega) lay h fun s' l' k' lay' h' e' => ?_
    walk_at "n"
    exact ih (d - 1) n s' l' k' _ (by omega) (by omega) (by rw [List.length_append]; simp only [List.length_cons, List.length_nil]; omega) lay' h' (by omega)
  | appl _ ih =>
    intro d n s l kk Q hd hn ha lay h e
    walk_at "n"
    obtain ⟨n, rfl⟩ : ∃ k, n = k + 1 := ⟨n - 1, by omega⟩
    refine app_open g (R := RBad) (by omega) (by omega) hl lay h fun s' l' k' lay' h' e' => ?_
    walk_at "n"
    exact ih (d - 1) n s' l' k' _ (by omega) (by omega) (by omega) lay' h' (by omega)
  | appr gd hh _ ih =>
    intro d n s l kk Q hd hn ha lay h e
    walk_at "n"
    obtain ⟨n, rfl⟩ : ∃ k, n = k + 1 := ⟨n - 1, by omega⟩
    refine app_open g (R := RBad) (by omega) (by omega) hl lay h fun s' l' k' lay' h' e' => ?_
    walk_at "n"
    refine c_term g hl _ _ (d - 1) n _ s' l' k' _ (by omega) (by omega) gd (by omega) lay'.split h' fun s1 l1 k1 r h1 e1 => ?_
    walk_at "n"
    refine ⟨s1, rfl, ?_⟩
    walk_at "n"
    exact ih (d - 1) n s1 l1 k1 _ (by omega) (by omega) (by omega) r h1 (by omega)

theorem c_reader (g : Gd W) {n : Nat} {σ : St} {T : Str} {Q : V → St → Prop} {E : Xc → St → Prop} (hn : 2 ≤ n) (q : Q (.obj (σ.length + 1)) (rst σ T 0 [])) : CallW W clsX n (.ref 265) [.str T] σ Q E := by
  obtain ⟨k, rfl⟩ : ∃ k, n = k + 2 := ⟨n - 2, by omega⟩
  have hK := g.K
  have hC := g.C
  have e := callW_new (W := W) (cls := clsX) (m := k + 1) (fI := 227) (args := [.str T]) (σ := σ) (Q := Q) (E := E) (by rw [hC, hK]; kernel_rfl) (by rw [hC, hK]; kernel_rfl) (by rw [hK]; kernel_rfl)
  rw [hC] at e
  refine e ?_
  walk_at "n"
  refine codeW_ofF (gv := GV) (mv := MV) (n₀ := k) ((fk_227 W.w.params).fn g.K) (tbl_of (by kernel_rfl) (by kernel_rfl)) (fun L => (s_227 g.K g.C (Nat.le_refl k) L).stF) rfl ?_
  walk_at "n"
  have l0 : (σ ++ [MO.dict []] ++ [MO.inst σ.length])[σ.length]? = some (.dict []) := by
    rw [List.append_assoc, List.getElem?_append_right (Nat.le_refl _), Nat.sub_self]; rfl
    walk_at "n"
  have l1 : ∀ (x : MO), (σ ++ [x] ++ [MO.inst σ.length])[σ.length + 1]? = some (.inst σ.length) := fun x => by
    rw [List.append_assoc, List.getElem?_append_right (by omega), Nat.add_sub_cancel_left]; rfl
    walk_at "n"
  have st : ∀ (x y : MO) (r : St), (σ ++ x :: r).set σ.length y = σ ++ y :: r := fun x y r => by
    rw [List.set_append_right _ _ (Nat.le_refl _), Nat.sub_self]; rfl
    walk_at "n"
  have g0 : ∀ (x : MO) (r : St), (σ ++ x :: r)[σ.length]? = some x := fun x r => by
    rw [List.getElem?_append_right (Nat.le_refl _), Nat.sub_self]; rfl
    walk_at "n"
  have g1 : ∀ (x y : MO) (r : St), (σ ++ x :: y :: r)[σ.length + 1]? = some y := fun x y r => by
    rw [List.getElem?_append_right (by omega), Nat.add_sub_cancel_left]; rfl
    walk_at "n"
  rw [List.append_assoc]
  walk_at "n"
  simp only [b_227]
  walk_at "u"
  walk_at "n"
  refine ⟨_, rfl, _, rfl, ?_⟩
  walk_at "n"
  refine ⟨_, _, g1 _ _ _, g0 _ _, by decide, ?_⟩
  walk_at "n"
  have e1 : (σ ++ ([MO.dict []] ++ [MO.inst σ.length])).set σ.length (.dict (putV "text" (.str T) [])) = σ ++ MO.dict [("text", .str T)] :: [MO.inst σ.length] := st _ _ _
  rw [e1]
  walk_at "n"
  refine ⟨_, rfl, ?_⟩
  walk_at "n"
  refine ⟨_, _, g1 _ _ _, g0 _ _, by simp, ?_⟩
  walk_at "n"
  have e2 : (σ ++ MO.dict [("text", .str T)] :: [MO.inst σ.length]).set σ.length (.dict (putV "spot" (.int 0) [("text", .str T)])) = σ ++ MO.dict [("text", .str T), ("spot", .int 0)] :: [MO.inst σ.length] := st _ _ _
  rw [e2]
  walk_at "n"
  refine ⟨_, rfl, ?_⟩
  walk_at "n"
  rw [List.append_assoc]
  walk_at "n"
  refine ⟨_, _, g1 _ _ _, g0 _ _, by simp, ?_⟩
  walk_at "n"
  refine ⟨trivial, ?_⟩
  walk_at "n"
  have e3 : (σ ++ (MO.dict [("text", .str T), ("spot", .int 0)] :: [MO.inst σ.length] ++ [MO.list []])).set σ.length (.dict (putV "around" (.obj (σ ++ MO.dict [("text", .str T), ("spot", .int 0)] :: [MO.inst σ.length]).length) [("text", .str T), ("spot", .int 0)])) = rst σ T 0 [] := by
    refine (st _ _ _).trans ?_
    walk_at "n"
    have el : (σ ++ MO.dict [("text", .str T), ("spot", .int 0)] :: [MO.inst σ.length]).length = σ.length + 2 := by rw [List.length_append]; rfl
    rw [el]
    walk_at "n"
    rfl
  rw [e3]
  walk_at "n"
  exact q

theorem c_of_names (g : Gd W) {n : Nat} {σ : St} {T : Str} {t : Tr} {m₀ kk : Nat} {Q : V → St → Prop} {E : Xc → St → Prop} (hn : 30 ≤ n) (hl : T.length ≤ 50000) (ht : hT t ≤ 20) (gd : GoodT [] t) (lay : Lay (fun l _ => l = List.replicate m₀ 32) (words t) T.cps.toList kk) (q : Q (enc (core t [])) σ) : CallW W clsX n (.ref 276) [.str T] σ Q E := by
  refine callW_drop ?_
  walk_at "n"
  obtain ⟨k, rfl⟩ : ∃ k, n = k + 1 := ⟨n - 1, by omega⟩
  refine call_of g (fk_276 _) (tbl_of (by kernel_rfl) (by kernel_rfl)) (fun L => s_276 g.K g.C (Nat.le_refl k) L) rfl ?_
  walk_at "n"
  simp only [b_276]
  walk_at "u"
  walk_at "n"
  refine ⟨_, rfl, ?_⟩
  walk_at "n"
  refine c_reader g (by omega) ?_
  walk_at "n"
  refine ⟨_, rfl, rd_meth rfl ?_⟩
  walk_at "n"
  have h0 : Here T 0 T.cps.toList := ⟨rfl, Nat.zero_le _⟩
  refine c_term g hl t [] 40 k _ 0 _ kk _ (by omega) (by omega) gd (by simp; omega) lay h0 fun s' l' k' r h' e => ?_
  walk_at "n"
  subst r
  refine ⟨_, rfl, rd_meth rfl ?_⟩
  walk_at "n"
  have h2 : Here T s' (List.replicate m₀ 32 ++ []) := by rw [List.append_nil]; exact h'
  refine c_sign g (by omega) hl h2.at_ h2.le (by simp) ?_
  walk_at "n"
  rw [cw_nes, isB_b, show (!decide (one [] = ("" : Str))) = false from by decide]
  walk_at "n"
  exact ⟨_, rfl, bare_enc _, _, rfl, q⟩

theorem c_of_names_bad (g : Gd W) {n : Nat} {σ : St} {T : Str} {pre : List Str} {kk : Nat} {Q : V → St → Prop} {E : Xc → St → Prop} (hn : 30 ≤ n) (hl : T.length ≤ 50000) (bad : BadT 20 [] pre) (lay : Lay RBad pre T.cps.toList kk) (q : E (.text kk) σ) : CallW W clsX n (.ref 276) [.str T] σ Q E := by
  refine callW_drop ?_
  walk_at "n"
  obtain ⟨k, rfl⟩ : ∃ k, n = k + 1 := ⟨n - 1, by omega⟩
  refine call_of g (fk_276 _) (tbl_of (by kernel_rfl) (by kernel_rfl)) (fun L => s_276 g.K g.C (Nat.le_refl k) L) rfl ?_
  walk_at "n"
  simp only [b_276]
  walk_at "u"
  walk_at "n"
  refine ⟨_, rfl, ?_⟩
  walk_at "n"
  refine c_reader g (by omega) ?_
  walk_at "n"
  refine ⟨_, rfl, rd_meth rfl ?_⟩
  walk_at "n"
  have h0 : Here T 0 T.cps.toList := ⟨rfl, Nat.zero_le _⟩
  exact c_term_bad g hl (p := kk) (fun σ' => ⟨σ', rfl, q⟩) bad 40 k 0 _ kk _ (by omega) (by omega) (by simp) lay h0 (by omega)

theorem c_refused (g : Gd W) {n : Nat} {σ : St} {T : Str} {pre : List Str} {kk : Nat} {Q : V → St → Prop} {E : Xc → St → Prop} (hn : 31 ≤ n) (hl : T.length ≤ 50000) (bad : BadT 20 [] pre) (lay : Lay RBad pre T.cps.toList kk) (q : Q (.int kk) σ) : CallW W clsX n (.ref 348) [.str T] σ Q E := by
  obtain ⟨k, rfl⟩ : ∃ k, n = k + 1 := ⟨n - 1, by omega⟩
  refine call_ofF g (fk_348 _) (tbl_of (by kernel_rfl) (by kernel_rfl)) (fun L => s_348 g (Nat.le_refl k) L) rfl ?_
  walk_at "n"
  simp only [b_348]
  walk_at "u"
  walk_at "n"
  refine ⟨_, rfl, ?_⟩
  walk_at "n"
  exact c_of_names_bad g (by omega) hl bad lay q
end


theorem cps_append (x y : Str) : (x ++ y).cps.toList = x.cps.toList ++ y.cps.toList := by
  show (x.cps ++ y.cps).toList = _
  exact Array.toList_append
theorem cps_rep (m : Nat) : (repS " " m).cps.toList = List.replicate m 32 := by
  induction m with
  | zero => rfl
  | succ m ih =>
    rw [repS, cps_append, ih]; rfl
    walk_at "n"
theorem cps_len (x : Str) : x.cps.toList.length = x.length := by simp [PySem.Str.length]
theorem rep_len (m : Nat) : (repS " " m).length = m := by rw [← cps_len, cps_rep, List.length_replicate]

noncomputable def alc (c : Nat) : Bool := decide ((48 ≤ c ∧ c ≤ 57) ∨ (65 ≤ c ∧ c ≤ 90) ∨ (97 ≤ c ∧ c ≤ 122))
noncomputable def al (w : Str) : Bool := match w.cps.toList with | c :: _ => alc c | [] => false
noncomputable def okW (w : Str) : Prop := (∃ c cs, w.cps.toList = c :: cs ∧ c < 128) ∧ w.length ≤ 6
noncomputable def txt : List (Nat × Str) → List Nat
  | [] => []
  | p :: r => List.replicate p.1 32 ++ (p.2.cps.toList ++ txt r)
noncomputable def spt : Nat → List (Nat × Str) → List Nat
  | _, [] => []
  | o, p :: r => (o + p.1) :: spt (o + p.1 + p.2.length) r
noncomputable def SepF : Bool → List (Nat × Str) → Prop
  | _, [] => True
  | b, p :: r => (b = true → al p.2 = true → 1 ≤ p.1) ∧ SepF (al p.2) r

noncomputable def vint (l : List Nat) : List V := l.map fun k => V.int (k : Nat)
theorem vint_snoc (l : List Nat) (k : Nat) : vint l ++ [V.int (k : Nat)] = vint (l ++ [k]) := by simp [vint]

noncomputable abbrev stt (σ : St) (i : Nat) (cs : List Int) (a : Nat) (sp : List Nat) : St := σ.set i (hnd cs a) ++ [.list (vint sp)]
theorem stt_hand {σ : St} {i : Nat} {cs : List Int} {a : Nat} {sp : List Nat} (hi : i < σ.length) : (stt σ i cs a sp)[i]? = some (hnd cs a) := by
  rw [stt, List.getElem?_append_left (by rw [List.length_set]; exact hi), List.getElem?_set_self hi]
  walk_at "n"
theorem stt_set {σ : St} {i : Nat} {cs : List Int} {a a' : Nat} {sp : List Nat} (hi : i < σ.length) : (stt σ i cs a sp).set i (hnd cs a') = stt σ i cs a' sp := by
  rw [stt, List.set_append_left _ _ (by rw [List.length_set]; exact hi), List.set_set]
  walk_at "n"
theorem stt_spots {σ : St} {i : Nat} {cs : List Int} {a : Nat} {sp : List Nat} : (stt σ i cs a sp)[σ.length]? = some (.list (vint sp)) := by
  rw [stt, List.getElem?_append_right (by rw [List.length_set]; exact Nat.le_refl _), List.length_set, Nat.sub_self]; rfl
  walk_at "n"
theorem stt_add {σ : St} {i : Nat} {cs : List Int} {a : Nat} {sp : List Nat} {l : List V} : (stt σ i cs a sp).set σ.length (.list l) = σ.set i (hnd cs a) ++ [.list l] := by
  rw [stt, List.set_append_right _ _ (by rw [List.length_set]; exact Nat.le_refl _), List.length_set, Nat.sub_self]; rfl
  walk_at "n"

noncomputable def lb_327 : MS := (.seq (.asg 6 (.call2 (.glob 20) (.loc 0) (.int 3))) (.seq (.ite (.and (.cmp .Gt (.loc 4) (.int 0)) (.and (.cmp .Eq (.loc 6) (.int 0)) (.and (.isalnum (.idx (.loc 5) (.int 0))) (.isalnum (.idx (.idx (.loc 1) (.bin .Sub (.loc 4) (.int 1))) (.int 0)))))) (.seq (.asg 6 (.int 1)) .nil) .nil) (.seq (.expr (.append (.loc 3) (.bin .Add (.len (.loc 2)) (.loc 6)))) (.seq (.asg 2 (.bin .Add (.bin .Add (.loc 2) (.bin .Mult (.str " ") (.loc 6))) (.loc 5))) .nil))))
noncomputable def lr_327 : MS := (.seq (.ret (.tup2 (.bin .Add (.loc 2) (.bin .Mult (.str " ") (.call2 (.glob 20) (.loc 0) (.int 2)))) (.loc 3))) .nil)
theorem b_327_eq : b_327 = .seq (.unp2 2 3 (.tup2 (.str "") (.new0))) (.seq (.fore 4 5 (.loc 1) lb_327) lr_327) := rfl

section
variable {W : Wd} {cls : Xc → Addr}

theorem al_eq {w : Str} {c : Nat} {cs : List Nat} (e : w.cps.toList = c :: cs) : decide ((48 ≤ c ∧ c ≤ 57) ∨ (65 ≤ c ∧ c ≤ 90) ∨ (97 ≤ c ∧ c ≤ 122)) = al w := by
  have : al w = alc c := by unfold al; rw [e]
  rw [this]; rfl
  walk_at "n"

theorem bw_rep {m : Nat} {Q : V → Prop} (h : m ≤ 100) (q : Q (.str (repS " " m))) : binW .Mult (.str " ") (.int m) Q :=
  ⟨⟨by omega, by omega, by decide⟩, by rw [Int.toNat_natCast]; exact q⟩

theorem text_loop (g : Gd W) {n : Nat} (hn : 1 ≤ n) {σ : St} {i : Nat} (hi : i < σ.length) {cs : List Int} (hcs : cs.length ≤ 100) {ws : List Str} (hws : ∀ w ∈ ws, okW w) (hlen : ws.length ≤ 1000) {b : Loc → St → (Fl → Loc → St → Prop) → Prop} (hb : ∀ loc σ Q, wpS GV MV (Orc W cls n) lb_327 loc σ Q (fun _ _ => False) → b loc σ Q) :
    ∀ (rest : List Str) (k : Nat) (prev : Bool) (a : Nat) (T : Str) (sp : List Nat) (loc : Loc) (Q : Fl → Loc → St → Prop), ws.drop k = rest → (k = 0 → prev = false) → (0 < k → ∃ w, ws[k - 1]? = some w ∧ al w = prev) → a + rest.length ≤ 8500 → T.length + 10 * rest.length ≤ 20000 → sp.length = k →
    loc 0 = some (.obj i) → loc 1 = some (.list (vstr ws)) → loc 2 = some (.str T) → loc 3 = some (.obj σ.length) →
    (∀ (ps : List (Nat × Str)) (T' : Str) (loc' : Loc), ps.map (·.2) = rest → SepF prev ps → (∀ p ∈ ps, p.1 ≤ 2) → T'.cps.toList = T.cps.toList ++ txt ps → T'.length ≤ T.length + 10 * rest.length → loc' 0 = loc 0 → loc' 2 = some (.str T') → loc' 3 = loc 3 → Q .next loc' (stt σ i cs (a + rest.length) (sp ++ spt T.length ps))) →
    forW b (fun loc k d => upd (upd loc 4 (.int (k : Nat))) 5 d) k (vstr rest) loc (stt σ i cs a sp) Q := by
  intro rest
  walk_at "n"
  induction rest with
  | nil =>
    intro k prev a T sp loc Q hk _ _ _ _ _ h0 h1 h2 h3 q
    walk_at "n"
    have := q [] T loc rfl trivial (by simp) (by simp [txt]) (by simp) rfl h2 rfl
    rw [spt, List.append_nil, List.length_nil, Nat.add_zero] at this
    exact this
  | cons w rest ih =>
    intro k prev a T sp loc Q hk hp0 hp ha hT hsp h0 h1 h2 h3 q
    walk_at "n"
    rw [List.length_cons] at ha hT
    walk_at "n"
    have hwm : w ∈ ws := List.mem_of_mem_drop (hk ▸ List.Mem.head _)
    have hw := hws w hwm
    have hklt : k < ws.length := by
      apply Decidable.byContradiction; intro h
      rw [List.drop_eq_nil_of_le (by omega)] at hk; cases hk
      walk_at "n"
    have hget : ws[k]? = some w := by
      have : (ws.drop k)[0]? = some w := by rw [hk]; rfl
      rwa [List.getElem?_drop, Nat.add_zero] at this
    have hdrop : ws.drop (k + 1) = rest := by
      rw [← List.drop_drop, hk]; rfl
      walk_at "n"
    show forW b _ k (.str w :: vstr rest) loc _ Q
    rw [forW_cons]
    walk_at "n"
    refine hb _ _ _ ?_
    walk_at "n"
    simp only [lb_327]
    walk_at "u"
    walk_at "n"
    refine ⟨_, h0, ?_⟩
    walk_at "n"
    refine c_digit g hn (stt_hand hi) (by omega) (by decide) hcs fun d hd => ?_
    walk_at "n"
    rw [stt_set hi]
    walk_at "n"
    -- what is left of the lap, once the blanks are known
    have tail : ∀ (m : Nat) (loc' : Loc), m ≤ 2 → (prev = true → al w = true → 1 ≤ m) → loc' 0 = some (.obj i) → loc' 1 = some (.list (vstr ws)) → loc' 2 = some (.str T) → loc' 3 = some (.obj σ.length) → loc' 5 = some (.str w) → loc' 6 = some (.int m) → loc' 0 = loc 0 → loc' 3 = loc 3 →
        wpS GV MV (Orc W cls n) (.seq (.expr (.append (.loc 3) (.bin .Add (.len (.loc 2)) (.loc 6)))) (.seq (.asg 2 (.bin .Add (.bin .Add (.loc 2) (.bin .Mult (.str " ") (.loc 6))) (.loc 5))) .nil)) loc' (stt σ i cs (a + 1) sp) (fun fl loc σ' => match fl with
          | .next => forW b (fun loc k d => upd (upd loc 4 (.int (k : Nat))) 5 d) (k + 1) (vstr rest) loc σ' Q
          | .brk => Q .next loc σ'
          | .ret d => Q (.ret d) loc σ') (fun _ _ => False) := by
      intro m loc' hm hsep e0 e1 e2 e3 e5 e6 f0 f3
      walk_at "n"
      walk_at "u"
      walk_at "n"
      refine ⟨_, e3, ⟨_, _, rfl, stt_spots⟩, _, e2, ?_⟩
      walk_at "n"
      refine ⟨by simp only [big]; omega, ?_⟩
      walk_at "n"
      try dsimp only
      walk_at "n"
      refine ⟨_, e6, ?_⟩
      walk_at "n"
      rw [bw_addi, show ((T.length : Nat) : Int) + (m : Int) = ((T.length + m : Nat) : Int) by omega]
      walk_at "n"
      refine ⟨_, stt_spots, by simp only [vint, List.length_map, big]; omega, ?_⟩
      walk_at "n"
      rw [vint_snoc, stt_add]
      walk_at "n"
      refine ⟨_, e2, _, e6, ?_⟩
      walk_at "n"
      refine bw_rep (by omega) ?_
      walk_at "n"
      rw [bw_adds]
      walk_at "n"
      refine ⟨by rw [rep_len]; simp only [big]; omega, _, e5, ?_⟩
      walk_at "n"
      rw [bw_adds]
      walk_at "n"
      have hwl : w.length ≤ 6 := hw.2
      refine ⟨by rw [Str.length_append, rep_len]; simp only [big]; omega, ?_⟩
      walk_at "n"
      have tl : ((T ++ repS " " m) ++ w).length = T.length + m + w.length := by rw [Str.length_append, Str.length_append, rep_len]
      refine ih (k + 1) (al w) (a + 1) ((T ++ repS " " m) ++ w) (sp ++ [T.length + m]) _ Q hdrop (by omega) (fun _ => ⟨w, by rw [Nat.add_sub_cancel]; exact hget, rfl⟩) (by omega) (by rw [tl]; omega) (by rw [List.length_append]; simp [hsp]) e0 e1 rfl e3 ?_
      walk_at "n"
      intro ps T' loc'' g1 g2 g3 g4 g5 g6 g7 g8
      walk_at "n"
      rw [tl] at g5
      have := q ((m, w) :: ps) T' loc'' (by simp [g1]) ⟨hsep, g2⟩ (fun p hp => by
        rcases List.mem_cons.mp hp with rfl | hp
        · exact hm
        · exact g3 p hp) (by rw [g4, cps_append, cps_append, cps_rep, txt]; simp) (by rw [List.length_cons]; omega) (g6.trans f0) g7 (g8.trans f3)
      rw [spt, List.length_cons] at this
      rw [tl, List.append_assoc, show a + 1 + rest.length = a + (rest.length + 1) by omega]
      walk_at "n"
      exact this
    simp only [e_loc, e_glob, e_int, e_str, e_bool, e_none, e_neg, e_tup0, e_tup1, e_tup2, e_tup3, e_lst0, e_lst1, e_lst3, e_new0, e_new1, e_bin, e_cmp, e_cmp2, e_and, e_or, e_not, e_ite, e_idx, e_slc, e_take, e_call0, e_call1, e_call2, e_call3, e_call4, e_len, e_intOf, e_strOf, e_tupOf, e_attr, e_meth0, e_meth1, e_isalnum, e_append, e_pop, e_extend, e_fmt, e_comp_range, e_comp_loc, e_comp_slc, e_comp_take, e_hand, f_nil, f_seq, f_asg, f_unp2, f_setIdx, f_setAttr, f_ret, f_ite, f_whl, f_forr_range, f_forr_loc, f_fore, f_expr, f_brk, f_raise_none, f_raise_some, f_tryNone, f_trySpot] at tail
    have h4 : (upd (upd (upd loc 4 (.int (k : Nat))) 5 (.str w)) 6 (.int d)) 4 = some (.int k) := rfl
    have no : (prev = true → al w = true → 1 ≤ d) → _ := fun h => tail d (upd (upd (upd loc 4 (.int (k : Nat))) 5 (.str w)) 6 (.int d)) (Nat.le_of_lt_succ hd) h h0 h1 h2 h3 rfl rfl rfl rfl
    refine ⟨_, rfl, ?_⟩
    walk_at "n"
    rw [cw_gt, isB_b]
    walk_at "n"
    by_cases hk0 : k = 0
    · rw [show decide ((k : Int) > 0) = false from decide_eq_false (by omega)]
      walk_at "n"
      exact no (fun h => by rw [hp0 hk0] at h; cases h)
    rw [show decide ((k : Int) > 0) = true from decide_eq_true (by omega)]
    walk_at "n"
    refine ⟨_, rfl, ?_⟩
    walk_at "n"
    rw [cw_eqi, isB_b]
    walk_at "n"
    by_cases hd0 : d = 0
    · subst hd0
      rw [show decide (((0 : Nat) : Int) = 0) = true from rfl]
      walk_at "n"
      refine ⟨_, rfl, ?_⟩
      walk_at "n"
      obtain ⟨⟨c, cs', ec, hc⟩, hl⟩ := hw
      refine ⟨Int.le_refl 0, by simp only [big]; omega, c, by rw [ec]; rfl, ?_⟩
      walk_at "n"
      try dsimp only
      walk_at "n"
      refine ⟨c, rfl, hc, ?_⟩
      walk_at "n"
      rw [isB_b, al_eq ec]
      walk_at "n"
      cases hal : al w with
      | false => exact no (fun _ h => by rw [hal] at h; cases h)
      | true =>
        obtain ⟨w', hg', hal'⟩ := hp (by omega)
        obtain ⟨⟨c2, cs2, ec2, hc2⟩, hl2⟩ := hws w' (List.mem_of_getElem? hg')
        refine ⟨_, h1, _, rfl, ?_⟩
        walk_at "n"
        rw [bw_subi]
        walk_at "n"
        refine ⟨by omega, by simp only [big]; omega, .str w', ?_, ?_⟩
        walk_at "n"
        · rw [show ((k : Int) - 1).toNat = k - 1 by omega]
          walk_at "n"
          simp [vstr, hg']
        refine ⟨Int.le_refl 0, by simp only [big]; omega, c2, by rw [ec2]; rfl, ?_⟩
        walk_at "n"
        try dsimp only
        walk_at "n"
        refine ⟨c2, rfl, hc2, ?_⟩
        walk_at "n"
        rw [isB_b, isB_b, isB_b, isB_b, al_eq ec2, hal']
        walk_at "n"
        cases hprev : prev with
        | false => exact no (fun h => by rw [hprev] at h; cases h)
        | true => exact tail 1 (upd (upd (upd (upd loc 4 (.int (k : Nat))) 5 (.str w)) 6 (.int (0 : Nat))) 6 (.int 1)) (by omega) (fun _ _ => Nat.le_refl 1) h0 h1 h2 h3 rfl rfl rfl rfl
    · rw [show decide ((d : Int) = 0) = false from decide_eq_false (by omega)]
      walk_at "n"
      exact no (fun _ _ => by omega)
end


theorem set_same {σ : St} {i : Nat} {x : MO} (h : σ[i]? = some x) : σ.set i x = σ := by
  obtain ⟨hi, e⟩ := List.getElem?_eq_some_iff.mp h
  rw [← e]
  walk_at "n"
  exact List.set_getElem_self hi

section
variable {W : Wd} {cls : Xc → Addr}

theorem c_text (g : Gd W) {i a n : Nat} {cs : List Int} {σ : St} {ws : List Str} {Q : V → St → Prop} {E : Xc → St → Prop} (hn : 2 ≤ n) (hi : σ[i]? = some (hnd cs a)) (ha : a + ws.length ≤ 8000) (hcs : cs.length ≤ 100) (hws : ∀ w ∈ ws, okW w) (hlen : ws.length ≤ 1000)
    (q : ∀ (ps : List (Nat × Str)) (k : Nat) (T : Str), ps.map (·.2) = ws → SepF false ps → k ≤ 1 → T.cps.toList = txt ps ++ List.replicate k 32 → T.length ≤ 10 * ws.length + 1 → Q (.tup [.str T, .obj σ.length]) (stt σ i cs (a + ws.length + 1) (spt 0 ps))) :
    CallW W cls n (.ref 327) [.obj i, .list (vstr ws)] σ Q E := by
  obtain ⟨k, rfl⟩ : ∃ k, n = k + 1 := ⟨n - 1, by omega⟩
  refine call_of g (fk_327 _) (tbl_of (by kernel_rfl) (by kernel_rfl)) (fun L => s_327 g.K g.C (Nat.le_refl k) L) rfl ?_
  walk_at "n"
  simp only [b_327_eq]
  walk_at "u"
  walk_at "n"
  refine ⟨_, rfl, ?_⟩
  walk_at "n"
  refine ⟨by simp only [vstr, List.length_map, big]; omega, ?_⟩
  walk_at "n"
  have hlt : i < σ.length := (List.getElem?_eq_some_iff.mp hi).1
  have e : σ ++ [MO.list []] = stt σ i cs a [] := by
    rw [stt, set_same hi]; rfl
    walk_at "n"
  rw [e]
  walk_at "n"
  refine text_loop g (W := W) (cls := cls) (n := k) (by omega) hlt hcs hws hlen (fun _ _ _ h => h) ws 0 false a "" [] _ _ rfl (fun _ => rfl) (by omega) (by omega) (by show 0 + 10 * ws.length ≤ 20000; omega) rfl rfl rfl rfl rfl ?_
  walk_at "n"
  intro ps T loc' e1 e2 e3 e4 e5 e6 e7 e8
  walk_at "n"
  have e5' : T.length ≤ 0 + 10 * ws.length := e5
  simp only [lr_327]
  walk_at "u"
  walk_at "n"
  refine ⟨_, e7, _, e6.trans rfl, ?_⟩
  walk_at "n"
  refine c_digit g (by omega) (stt_hand hlt) (by omega) (by decide) hcs fun d hd => ?_
  walk_at "n"
  have hd : d < 2 := hd
  rw [stt_set hlt]
  walk_at "n"
  refine bw_rep (by omega) ?_
  walk_at "n"
  rw [bw_adds]
  walk_at "n"
  refine ⟨by rw [rep_len]; simp only [big]; omega, _, e8.trans rfl, ?_⟩
  walk_at "n"
  refine q ps d (T ++ repS " " d) e1 e2 (by omega) ?_ ?_
  walk_at "n"
  · rw [cps_append, e4, cps_rep]; rfl
    walk_at "n"
  · rw [Str.length_append, rep_len]; omega
    walk_at "n"
end


/-! The plain law: trees, their terms, their texts -/

noncomputable def Dp (m : Nat) : List Str → Tr → Prop
  | ar, .lam x t => Dp m (ar ++ [x]) t
  | ar, .app t u => Dp m ar t ∧ Dp m ar u
  | ar, .name x => (x ∈ ar ∨ x ∈ oths) ∧ ar.length ≤ m
theorem Dp.wfc {m : Nat} (h : m ≤ 8) : ∀ {t : Tr} {ar : List Str}, Dp m ar t → WfC ar t := by
  intro t
  induction t with
  | lam x t ih => exact fun d => ih (show Dp m _ t from d)
  | app t u ih1 ih2 => exact fun d => ⟨ih1 d.1, ih2 d.2⟩
  | name x => exact fun d => ⟨d.1, Nat.le_trans d.2 h⟩
theorem Dp.mono {m m' : Nat} (h : m ≤ m') : ∀ {t : Tr} {ar : List Str}, Dp m ar t → Dp m' ar t := by
  intro t
  induction t with
  | lam x t ih => exact fun d => ih (show Dp m _ t from d)
  | app t u ih1 ih2 => exact fun d => ⟨ih1 d.1, ih2 d.2⟩
  | name x => exact fun d => ⟨d.1, Nat.le_trans d.2 h⟩
theorem Dp.cons {m : Nat} (z : Str) : ∀ {t : Tr} {ar : List Str}, Dp m ar t → Dp (m + 1) (z :: ar) t := by
  intro t
  induction t with
  | lam x t ih => exact fun {ar} d => ih (ar := ar ++ [x]) d
  | app t u ih1 ih2 => exact fun d => ⟨ih1 d.1, ih2 d.2⟩
  | name x => exact fun d => ⟨d.1.imp (fun h => List.mem_cons_of_mem _ h) id, Nat.succ_le_succ d.2⟩
theorem WfT.dp : ∀ {f : Nat} {hd : Bool} {ar : List Str} {t : Tr}, WfT f hd ar t → Dp (ar.length + f - 1) ar t
  | f + 1, hd, ar, .lam x t, w => by
    have := WfT.dp w.2.2
    rw [List.length_append] at this
    exact this.mono (by simp only [List.length_cons, List.length_nil]; omega)
  | f + 1, hd, ar, .app t u, w => ⟨(WfT.dp w.1).mono (by omega), (WfT.dp w.2).mono (by omega)⟩
  | f + 1, hd, ar, .name x, w => ⟨w, by omega⟩

theorem yn_lt {x : Str} {k : Nat} (h : yn x = some k) : k < 2 := by
  unfold yn at h
  split at h
  · cases h; decide
  · split at h
    · cases h; decide
    · cases h
theorem oth_leaf {x : Str} (h : x ∈ oths) (hy : yn x = none) : x ∈ leafs := by
  simp only [oths, List.mem_cons, List.not_mem_nil, or_false] at h
  rcases h with rfl | rfl | rfl | rfl
  · decide
  · exact absurd hy (by decide)
  · exact absurd hy (by decide)
  · decide
theorem Dp.wfm {m : Nat} : ∀ {t : Tr} {ar : List Str}, Dp m ar t → WfM (m + 2) (core t ar) := by
  intro t
  induction t with
  | lam x t ih => exact fun d => ih (show Dp m _ t from d)
  | app t u ih1 ih2 => exact fun d => ⟨ih1 d.1, ih2 d.2⟩
  | name x =>
    intro ar d
    have hl := d.2
    rw [core]
    split
    · rename_i h
      have := lastIx_lt x ar
      show _ < m + 2
      omega
    · rename_i h
      have hx : x ∈ oths := d.1.resolve_left fun e => h (lastIx_mem.mp e)
      cases hy : yn x with
      | some k =>
        have := yn_lt hy
        show k + ar.length < m + 2
        omega
      | none => exact oth_leaf hx hy

theorem size_core : ∀ (t : Tr) (ar : List Str), size (core t ar) = sizeT t
  | .lam x t, ar => by rw [core, size, size_core t, sizeT]
  | .app t u, ar => by rw [core, size, size_core t, size_core u, sizeT]
  | .name x, ar => by
    rw [core, sizeT]
    split
    · rfl
    · cases yn x <;> rfl
theorem ht_core : ∀ (t : Tr) (ar : List Str), ht (core t ar) = hT t
  | .lam x t, ar => by rw [core, ht, ht_core t, hT]
  | .app t u, ar => by rw [core, ht, ht_core t, ht_core u, hT]
  | .name x, ar => by
    rw [core, hT]
    split
    · rfl
    · cases yn x <;> rfl
theorem WfT.size : ∀ {f : Nat} {hd : Bool} {ar : List Str} {t : Tr}, WfT f hd ar t → sizeT t + 1 ≤ 2 ^ f
  | f + 1, hd, ar, .lam x t, w => by
    have := WfT.size w.2.2
    have h2 : 2 ^ (f + 1) = 2 ^ f + 2 ^ f := by rw [Nat.pow_succ]; omega
    have := sizeT_pos t
    rw [sizeT, h2]; omega
  | f + 1, hd, ar, .app t u, w => by
    have := WfT.size w.1
    have := WfT.size w.2
    have h2 : 2 ^ (f + 1) = 2 ^ f + 2 ^ f := by rw [Nat.pow_succ]; omega
    rw [sizeT, h2]; omega
  | f + 1, hd, ar, .name x, w => by
    have h2 : 2 ^ (f + 1) = 2 ^ f + 2 ^ f := by rw [Nat.pow_succ]; omega
    have := Nat.one_le_two_pow (n := f)
    rw [sizeT, h2]; omega
theorem WfT.ht : ∀ {f : Nat} {hd : Bool} {ar : List Str} {t : Tr}, WfT f hd ar t → hT t ≤ f
  | f + 1, hd, ar, .lam x t, w => by
    have := WfT.ht w.2.2
    rw [hT]; omega
  | f + 1, hd, ar, .app t u, w => by
    have := WfT.ht w.1
    have := WfT.ht w.2
    rw [hT]; omega
  | f + 1, hd, ar, .name x, w => by rw [hT]; omega

theorem core_name_nf (x : Str) (ar : List Str) : nf (core (.name x) ar) = true ∧ ∀ u, rdx (.app (core (.name x) ar) u) = false := by
  rw [core]
  split
  · exact ⟨rfl, fun _ => rfl⟩
  · cases yn x <;> exact ⟨rfl, fun _ => rfl⟩
theorem WfT.nf : ∀ {f : Nat} {hd : Bool} {ar : List Str} {t : Tr}, WfT f hd ar t → Mine.nf (core t ar) = true ∧ (hd = true → ∀ u, rdx (.app (core t ar) u) = false)
  | f + 1, hd, ar, .lam x t, w => by
    refine ⟨?_, fun h => ?_⟩
    · rw [core, Mine.nf]; exact (WfT.nf w.2.2).1
    · rw [w.1] at h; cases h
  | f + 1, hd, ar, .app t u, w => by
    have h1 := WfT.nf w.1
    have h2 := WfT.nf w.2
    refine ⟨?_, fun _ _ => rfl⟩
    rw [core, Mine.nf, h1.1, h2.1, h1.2 rfl]; rfl
  | f + 1, hd, ar, .name x, w => ⟨(core_name_nf x ar).1, fun _ => (core_name_nf x ar).2⟩

/-! what is written with names -/
theorem str_ext {x y : Str} (h : x.cps.toList = y.cps.toList) : x = y := (str_of_cps h).trans (str_of_cps rfl).symm

theorem nmd_core : ∀ (t : Tr) (ar : List Str), WfC ar t → nmd (core t ar) ar.length = shown t ar
  | .lam x t, ar, w => by
    have e : ar.length + 1 = (ar ++ [x]).length := by simp
    rw [core, nmd, shown, e, nmd_core t (ar ++ [x]) w]
    apply str_ext
    simp only [cps_append]
    rfl
  | .app t u, ar, w => by rw [core, nmd, shown, nmd_core t ar w.1, nmd_core u ar w.2]
  | .name x, ar, w => by
    rw [core, shown]
    by_cases h : 0 ≤ lastIx x ar
    · rw [if_pos h, if_pos h]
      have := lastIx_lt x ar
      rw [nmd, if_pos (by omega), show ar.length - 1 - (ar.length - 1 - (lastIx x ar).toNat) = (lastIx x ar).toNat by omega]
      apply str_ext
      simp only [cps_append]
      exact List.append_nil _
    · rw [if_neg h, if_neg h]
      have hx : x ∈ oths := w.1.resolve_left fun e => h (lastIx_mem.mp e)
      simp only [oths, List.mem_cons, List.not_mem_nil, or_false] at hx
      have e0 : ∀ k : Nat, ¬ (k + ar.length < ar.length) := fun k => by omega
      have e1 : ∀ k : Nat, k + ar.length - ar.length = k := fun k => by omega
      rcases hx with rfl | rfl | rfl | rfl
      · rfl
      · show nmd (.var (0 + ar.length)) ar.length = _
        rw [nmd, if_neg (e0 0), e1]; decide
      · show nmd (.var (1 + ar.length)) ar.length = _
        rw [nmd, if_neg (e0 1), e1]; decide
      · rfl

noncomputable def ren : Tr → List Str → Tr
  | .lam x t, ar => .lam ("x" ++ dgs ar.length) (ren t (ar ++ [x]))
  | .app t u, ar => .app (ren t ar) (ren u ar)
  | .name x, ar => if 0 ≤ lastIx x ar then .name ("x" ++ dgs (lastIx x ar).toNat) else .name x
noncomputable def xs (n : Nat) : List Str := (List.range n).map fun i => ("x" : Str) ++ dgs i
theorem xs_succ (n : Nat) : xs (n + 1) = xs n ++ [("x" : Str) ++ dgs n] := by
  rw [xs, List.range_succ, List.map_append]; rfl
theorem xs_len (n : Nat) : (xs n).length = n := by simp [xs]
theorem xd_inj {i j : Nat} (h : ("x" : Str) ++ dgs i = ("x" : Str) ++ dgs j) : i = j := by
  have := congrArg (fun s : Str => s.cps.toList) h
  simp only [cps_append] at this
  have h2 : dgs i = dgs j := str_ext (List.append_cancel_left this)
  have h3 : [48 + i] = [48 + j] := congrArg (fun s : Str => s.cps.toList) h2
  have : 48 + i = 48 + j := by injection h3
  omega
theorem last_xs {j : Nat} : ∀ {n : Nat}, j < n → lastIx ("x" ++ dgs j) (xs n) = j
  | n + 1, h => by
    rw [xs_succ, lastIx_snoc]
    by_cases hj : n = j
    · rw [if_pos (by rw [hj]), xs_len, hj]
    · rw [if_neg fun e => hj (xd_inj e)]
      exact last_xs (by omega)
theorem oth_xs {x : Str} (h : x ∈ oths) (n : Nat) : x ∉ xs n := by
  intro e
  obtain ⟨i, _, rfl⟩ := List.mem_map.mp e
  have : (("x" : Str) ++ dgs i).cps.toList.head? = some 120 := by rw [cps_append]; rfl
  simp only [oths, List.mem_cons, List.not_mem_nil, or_false] at h
  rcases h with h | h | h | h <;> rw [h] at this <;> revert this <;> decide

theorem core_ren : ∀ (t : Tr) (ar : List Str), WfC ar t → core (ren t ar) (xs ar.length) = core t ar
  | .lam x t, ar, w => by
    have e : xs ar.length ++ [("x" : Str) ++ dgs ar.length] = xs (ar ++ [x]).length := by rw [← xs_succ]; simp
    rw [ren, core, e, core_ren t (ar ++ [x]) w, core]
  | .app t u, ar, w => by rw [ren, core, core_ren t ar w.1, core_ren u ar w.2, core]
  | .name x, ar, w => by
    rw [ren]
    by_cases h : 0 ≤ lastIx x ar
    · have := lastIx_lt x ar
      rw [if_pos h, core, last_xs (by omega), if_pos (by omega), core, if_pos h, xs_len]; rfl
    · rw [if_neg h, core, core, if_neg h]
      have hx : x ∈ oths := w.1.resolve_left fun e => h (lastIx_mem.mp e)
      have h2 : ¬ 0 ≤ lastIx x (xs ar.length) := fun e => oth_xs hx _ (lastIx_mem.mpr e)
      rw [if_neg h2, xs_len]
theorem hT_ren : ∀ (t : Tr) (ar : List Str), hT (ren t ar) = hT t
  | .lam x t, ar => by rw [ren, hT, hT_ren t, hT]
  | .app t u, ar => by rw [ren, hT, hT_ren t, hT_ren u, hT]
  | .name x, ar => by
    rw [ren]
    split <;> rfl

theorem nm_x {i : Nat} (h : i < 10) : nm ("x" ++ dgs i) := by
  have key : ((List.range 10).all fun i => ((("x" : Str) ++ dgs i).cps.toList).all isA) = true := by decide +kernel
  refine ⟨by rw [cps_append]; exact List.cons_ne_nil 120 _, fun c hc => ?_⟩
  exact List.all_eq_true.mp (List.all_eq_true.mp key i (List.mem_range.mpr h)) c hc
theorem nm_plain {x : Str} (h : x ∈ plainNames) : nm x := by
  have key : (plainNames.all fun x => !x.cps.toList.isEmpty && x.cps.toList.all isA) = true := by decide +kernel
  have h2 := List.all_eq_true.mp key x h
  rw [Bool.and_eq_true] at h2
  refine ⟨fun e => ?_, fun c hc => List.all_eq_true.mp h2.2 c hc⟩
  rw [e] at h2; exact absurd h2.1 (by decide)
theorem good_ren : ∀ (t : Tr) (ar : List Str), WfC ar t → GoodT (xs ar.length) (ren t ar)
  | .lam x t, ar, w => by
    have hl := w.len
    have e : xs ar.length ++ [("x" : Str) ++ dgs ar.length] = xs (ar ++ [x]).length := by rw [← xs_succ]; simp
    rw [ren]
    refine ⟨nm_x (by omega), ?_⟩
    rw [e]
    exact good_ren t (ar ++ [x]) w
  | .app t u, ar, w => by
    rw [ren]
    exact ⟨good_ren t ar w.1, good_ren u ar w.2⟩
  | .name x, ar, w => by
    rw [ren]
    have hl := w.2
    by_cases h : 0 ≤ lastIx x ar
    · have := lastIx_lt x ar
      rw [if_pos h]
      refine ⟨nm_x (by omega), .inl ?_, by rw [xs_len]; exact w.2⟩
      exact List.mem_map.mpr ⟨(lastIx x ar).toNat, List.mem_range.mpr (by omega), rfl⟩
    · rw [if_neg h]
      have hx : x ∈ oths := w.1.resolve_left fun e => h (lastIx_mem.mp e)
      exact ⟨nm_plain (oth_plain hx), .inr hx, by rw [xs_len]; exact w.2⟩
theorem WfT.good : ∀ {f : Nat} {hd : Bool} {ar : List Str} {t : Tr}, WfT f hd ar t → (∀ x ∈ ar, x ∈ bnds) → ar.length + f ≤ 9 → GoodT ar t
  | f + 1, hd, ar, .lam x t, w, h, hl => by
    refine ⟨nm_plain (bnd_plain w.2.1), WfT.good w.2.2 (fun y hy => ?_) (by rw [List.length_append]; simp only [List.length_cons, List.length_nil]; omega)⟩
    rcases List.mem_append.mp hy with hy | hy
    · exact h y hy
    · rw [List.mem_singleton.mp hy]; exact w.2.1
  | f + 1, hd, ar, .app t u, w, h, hl => ⟨WfT.good w.1 h (by omega), WfT.good w.2 h (by omega)⟩
  | f + 1, hd, ar, .name x, w, h, hl => by
    refine ⟨?_, w, by omega⟩
    rcases w with w | w
    · exact nm_plain (bnd_plain (h x w))
    · exact nm_plain (oth_plain w)


theorem stop_cons {c : Nat} {l : List Nat} (h : isA c = false) : Stop (c :: l) := fun d e => by
  cases e; exact h
theorem stop_nil : Stop [] := fun d e => by cases e
theorem stop_blank {m : Nat} {l : List Nat} (h : 1 ≤ m) : Stop (List.replicate m 32 ++ l) := by
  obtain ⟨m, rfl⟩ : ∃ k, m = k + 1 := ⟨m - 1, by omega⟩
  exact stop_cons isA_blank
theorem not_nm {w : Str} {c : Nat} {cs : List Nat} (e : w.cps.toList = c :: cs) (h : isA c = false) : ¬ nm w := fun n => by
  have := n.2 c (by rw [e]; exact .head _)
  rw [h] at this; cases this
theorem nm_lamw : ¬ nm "\\" := not_nm (c := 92) (cs := []) rfl isA_lam
theorem nm_dot : ¬ nm "." := not_nm (c := 46) (cs := []) rfl isA_dot
theorem nm_openw : ¬ nm "(" := not_nm (c := 40) (cs := []) rfl isA_open
theorem nm_closew : ¬ nm ")" := not_nm (c := 41) (cs := []) rfl isA_close

theorem shown_lay {R : List Nat → Nat → Prop} : ∀ (t : Tr) (ar : List Str) (b : List Str) (m : Nat) (l : List Nat) (k : Nat), Lay R b l k → Stop l → ∃ k', Lay R (words (ren t ar) ++ b) (List.replicate m 32 ++ ((shown t ar).cps.toList ++ l)) k'
  | .lam x t, ar, b, m, l, k, h, st => by
    obtain ⟨k', ih⟩ := shown_lay t (ar ++ [x]) b 0 l k h st
    have h1 := Lay.cons (w := ".") 0 ih (fun h => absurd h nm_dot)
    have h2 := Lay.cons (w := ("x" : Str) ++ dgs ar.length) 0 h1 (fun _ => stop_cons isA_dot)
    have h3 := Lay.cons (w := "\\") m h2 (fun h => absurd h nm_lamw)
    have e : List.replicate m 32 ++ ((shown (.lam x t) ar).cps.toList ++ l) = List.replicate m 32 ++ (("\\" : Str).cps.toList ++ (List.replicate 0 32 ++ ((("x" : Str) ++ dgs ar.length).cps.toList ++ (List.replicate 0 32 ++ (("." : Str).cps.toList ++ (List.replicate 0 32 ++ ((shown t (ar ++ [x])).cps.toList ++ l))))))) := by
      rw [shown]
      simp only [cps_append, List.append_assoc]
      rfl
    rw [e]
    exact ⟨_, h3⟩
  | .app t u, ar, b, m, l, k, h, st => by
    have h1 := Lay.cons (w := ")") 0 h (fun h => absurd h nm_closew)
    obtain ⟨k2, h2⟩ := shown_lay u ar _ 1 _ _ h1 (stop_cons isA_close)
    obtain ⟨k3, h3⟩ := shown_lay t ar _ 0 _ _ h2 (stop_blank (Nat.le_refl 1))
    have h4 := Lay.cons (w := "(") m h3 (fun h => absurd h nm_openw)
    rw [ren, words_app, List.cons_append, List.append_assoc, List.append_assoc]
    have e : List.replicate m 32 ++ ((shown (.app t u) ar).cps.toList ++ l) = List.replicate m 32 ++ (("(" : Str).cps.toList ++ (List.replicate 0 32 ++ ((shown t ar).cps.toList ++ (List.replicate 1 32 ++ ((shown u ar).cps.toList ++ (List.replicate 0 32 ++ ((")" : Str).cps.toList ++ l))))))) := by
      rw [shown]
      simp only [cps_append, List.append_assoc]
      rfl
    rw [e]
    exact ⟨_, h4⟩
  | .name x, ar, b, m, l, k, h, st => by
    have e : words (ren (.name x) ar) = [shown (.name x) ar] := by
      rw [ren, shown]
      split <;> rfl
    rw [e]
    exact ⟨_, Lay.cons m h fun _ => st⟩

/-! what is written with blanks -/
theorem isA_alc {c : Nat} (h : isA c = true) : alc c = true := by
  have key : (alnumS.cps.toList.all alc) = true := by decide +kernel
  unfold isA at h
  rw [List.contains_iff_mem] at h
  exact List.all_eq_true.mp key c h
theorem nm_al {w : Str} (h : nm w) : al w = true := by
  obtain ⟨c, cs, e, hA, _⟩ := nm_head h
  unfold al; rw [e]; exact isA_alc hA
theorem stop_txt {rest : List (Nat × Str)} {e : List Nat} (s : SepF true rest) (hne : ∀ p ∈ rest, p.2.cps.toList ≠ []) (he : rest = [] → Stop e) : Stop (txt rest ++ e) := by
  cases rest with
  | nil => exact he rfl
  | cons p r =>
    rw [txt, List.append_assoc]
    by_cases hm : 1 ≤ p.1
    · exact stop_blank hm
    · have h0 : p.1 = 0 := by omega
      have ha : al p.2 = false := by
        cases h : al p.2 with
        | false => rfl
        | true => exact absurd (s.1 rfl h) hm
      obtain ⟨c, cs, ec⟩ := List.exists_cons_of_ne_nil (hne p (.head _))
      rw [h0, ec]
      refine stop_cons ?_
      cases hA : isA c with
      | false => rfl
      | true =>
        unfold al at ha; rw [ec] at ha
        have := isA_alc hA
        simp only at ha
        rw [this] at ha; cases ha

noncomputable def la : Bool → List (Nat × Str) → Bool
  | b, [] => b
  | _, p :: r => la (al p.2) r
theorem SepF.split {c : List (Nat × Str)} : ∀ {a : List (Nat × Str)} {b : Bool}, SepF b (a ++ c) → SepF b a ∧ SepF (la b a) c
  | [], _, h => ⟨trivial, h⟩
  | p :: a, b, h => by
    have := SepF.split (a := a) h.2
    exact ⟨⟨h.1, this.1⟩, this.2⟩
theorem txt_append (a c : List (Nat × Str)) : txt (a ++ c) = txt a ++ txt c := by
  induction a with
  | nil => rfl
  | cons p a ih => rw [List.cons_append, txt, txt, ih]; simp only [List.append_assoc]

theorem txt_lay {R : List Nat → Nat → Prop} {e : List Nat} {k : Nat} (r : R e k) : ∀ (ps : List (Nat × Str)) (b : Bool), SepF b ps → (∀ p ∈ ps, p.2.cps.toList ≠ []) → (la b ps = true → Stop e) → Lay R (ps.map (·.2)) (txt ps ++ e) ((txt ps).length + k)
  | [], b, _, _, _ => by
    have : Lay R [] e k := .nil r
    rw [txt, List.nil_append, List.length_nil, Nat.zero_add]
    exact this
  | p :: ps, b, s, hne, he => by
    have ih := txt_lay r ps (al p.2) s.2 (fun q hq => hne q (.tail _ hq)) he
    have h := Lay.cons (w := p.2) p.1 ih (fun hn => by
      have ha := nm_al hn
      refine stop_txt (by rw [← ha]; exact s.2) (fun q hq => hne q (.tail _ hq)) fun h0 => he ?_
      rw [h0, la]; exact ha)
    have e1 : txt (p :: ps) ++ e = List.replicate p.1 32 ++ (p.2.cps.toList ++ (txt ps ++ e)) := by rw [txt]; simp only [List.append_assoc]
    have e2 : (txt (p :: ps)).length + k = p.1 + p.2.length + ((txt ps).length + k) := by
      rw [txt, List.length_append, List.length_append, List.length_replicate, cps_len]; omega
    rw [e1, e2]
    exact h

theorem spt_at : ∀ (ps : List (Nat × Str)) (o j : Nat) (p : Nat × Str), ps[j]? = some p → (spt o ps)[j]? = some (o + (txt (ps.take j)).length + p.1)
  | q :: ps, o, 0, p, h => by
    have : q = p := by simpa using h
    subst this
    rw [spt]; simp [txt]
  | q :: ps, o, j + 1, p, h => by
    have h' : ps[j]? = some p := by simpa using h
    rw [spt, List.getElem?_cons_succ, spt_at ps _ j p h', List.take_succ_cons, txt, List.length_append, List.length_append, List.length_replicate, cps_len]
    congr 1; omega

theorem spt_len : ∀ (ps : List (Nat × Str)) (o : Nat), (spt o ps).length = ps.length
  | [], _ => rfl
  | p :: ps, o => by rw [spt, List.length_cons, spt_len ps, List.length_cons]

theorem bad_lay {ps : List (Nat × Str)} {j : Nat} {p : Nat × Str} (h : ps[j]? = some p) (s : SepF false ps) (hne : ∀ p ∈ ps, p.2.cps.toList ≠ []) (ha : al p.2 = true) {k : Nat} {T : Str} (hT : T.cps.toList = txt ps ++ List.replicate k 32) {o : Nat} (ho : o = (txt (ps.take j)).length + p.1) :
    Lay RBad ((ps.map (·.2)).take j) ((cutS T 0 o ++ "var2") ++ cutS T (o + p.2.length) T.length).cps.toList o := by
  obtain ⟨hj, hp⟩ := List.getElem?_eq_some_iff.mp h
  have hsp : ps = ps.take j ++ p :: ps.drop (j + 1) := by
    rw [← hp, List.getElem_cons_drop, List.take_append_drop]
  have s' := s
  rw [hsp] at s'
  obtain ⟨s1, s2⟩ := SepF.split s'
  have ht : T.cps.toList = (txt (ps.take j) ++ List.replicate p.1 32) ++ (p.2.cps.toList ++ (txt (ps.drop (j + 1)) ++ List.replicate k 32)) := by
    rw [hT, hsp, txt_append, txt]
    rw [← hsp]
    simp only [List.append_assoc]
  have hlen : (txt (ps.take j) ++ List.replicate p.1 32).length = o := by rw [List.length_append, List.length_replicate, ho]
  have c1 : (cutS T 0 o).cps.toList = txt (ps.take j) ++ List.replicate p.1 32 := by
    unfold cutS
    show (T.cps.toList.take o).drop 0 = _
    rw [List.drop_zero, ht, List.take_left' hlen]
  have c2 : (cutS T (o + p.2.length) T.length).cps.toList = txt (ps.drop (j + 1)) ++ List.replicate k 32 := by
    unfold cutS
    show (T.cps.toList.take T.length).drop _ = _
    rw [List.take_of_length_le (by rw [cps_len]; exact Nat.le_refl _), ht, ← List.drop_drop, List.drop_left' hlen, List.drop_left' (cps_len _)]
  have e : ((cutS T 0 o ++ "var2") ++ cutS T (o + p.2.length) T.length).cps.toList = txt (ps.take j) ++ (List.replicate p.1 32 ++ (("var2" : Str).cps.toList ++ (txt (ps.drop (j + 1)) ++ List.replicate k 32))) := by
    rw [cps_append, cps_append, c1, c2]
    simp only [List.append_assoc]
  rw [e, ho, List.map_take.symm]
  refine txt_lay (R := RBad) ⟨p.1, _, rfl, rfl, ?_⟩ (ps.take j) false s1 (fun q hq => hne q (List.mem_of_mem_take hq)) fun hl => ?_
  · refine stop_txt (by rw [← ha]; exact s2.2) (fun q hq => hne q (List.mem_of_mem_drop hq)) fun _ => ?_
    cases k with
    | zero => exact stop_nil
    | succ k => exact stop_cons isA_blank
  · exact stop_blank (s2.1 hl ha)


noncomputable def UseAt (ws : List Str) (k : Nat) : Prop := (∃ w, ws[k]? = some w ∧ al w = true) ∧ (k = 0 ∨ ws[k - 1]? ≠ some ("\\" : Str))

theorem al_lamw : al "\\" = false := by decide
theorem al_dot : al "." = false := by decide
theorem al_open : al "(" = false := by decide
theorem al_close : al ")" = false := by decide
theorem al_plain {x : Str} (h : x ∈ plainNames) : al x = true := nm_al (nm_plain h)

theorem UseAt.tail {w : Str} {ws : List Str} {k : Nat} (h : UseAt (w :: ws) (k + 1)) : UseAt ws k := by
  refine ⟨by simpa using h.1, ?_⟩
  cases k with
  | zero => exact .inl rfl
  | succ k =>
    refine .inr ?_
    rcases h.2 with h | h
    · omega
    · simpa using h
theorem UseAt.cons {w : Str} {ws : List Str} {k : Nat} (hw : w ≠ "\\") (h : UseAt ws k) : UseAt (w :: ws) (k + 1) := by
  refine ⟨by simpa using h.1, .inr ?_⟩
  cases k with
  | zero => simpa using hw
  | succ k =>
    rcases h.2 with h | h
    · omega
    · simpa using h
theorem UseAt.cons' {w v : Str} {ws : List Str} {k : Nat} (h : UseAt (v :: ws) (k + 1)) : UseAt (w :: v :: ws) (k + 2) := by
  refine ⟨by simpa using h.1, .inr ?_⟩
  rcases h.2 with h | h
  · omega
  · simpa using h
theorem UseAt.left {a b : List Str} {k : Nat} (hk : k < a.length) (h : UseAt (a ++ b) k) : UseAt a k := by
  obtain ⟨⟨w, h1, h2⟩, h3⟩ := h
  rw [List.getElem?_append_left hk] at h1
  refine ⟨⟨w, h1, h2⟩, h3.imp id fun h => ?_⟩
  rwa [List.getElem?_append_left (by omega)] at h
theorem UseAt.right {a b : List Str} {k : Nat} (h : UseAt (a ++ b) (a.length + k)) : UseAt b k := by
  obtain ⟨⟨w, h1, h2⟩, h3⟩ := h
  rw [List.getElem?_append_right (by omega), Nat.add_sub_cancel_left] at h1
  refine ⟨⟨w, h1, h2⟩, ?_⟩
  cases k with
  | zero => exact .inl rfl
  | succ k =>
    refine .inr ?_
    rcases h3 with h | h
    · omega
    · rwa [List.getElem?_append_right (by omega), show a.length + (k + 1) - 1 - a.length = k + 1 - 1 by omega] at h
theorem UseAt.inl {a b : List Str} {k : Nat} (h : UseAt a k) : UseAt (a ++ b) k := by
  obtain ⟨⟨w, h1, h2⟩, h3⟩ := h
  have hk := (List.getElem?_eq_some_iff.mp h1).1
  refine ⟨⟨w, by rw [List.getElem?_append_left hk]; exact h1, h2⟩, h3.imp id fun h => ?_⟩
  rwa [List.getElem?_append_left (by omega)]

theorem use_some : ∀ {f : Nat} {hd : Bool} {ar : List Str} {t : Tr}, WfT f hd ar t → (∀ x ∈ ar, x ∈ bnds) → ∃ k, UseAt (words t) k
  | f + 1, hd, ar, .lam x t, w, h => by
    obtain ⟨k, hk⟩ := use_some w.2.2 (fun y hy => by
      rcases List.mem_append.mp hy with hy | hy
      · exact h y hy
      · rw [List.mem_singleton.mp hy]; exact w.2.1)
    refine ⟨k + 3, ?_⟩
    exact UseAt.cons' (UseAt.cons' (UseAt.cons (by decide) hk))
  | f + 1, hd, ar, .app t u, w, h => by
    obtain ⟨k, hk⟩ := use_some w.1 h
    refine ⟨k + 1, ?_⟩
    rw [words_app]
    exact UseAt.cons (by decide) hk.inl
  | f + 1, hd, ar, .name x, w, h => by
    refine ⟨0, ⟨x, rfl, ?_⟩, .inl rfl⟩
    rcases w with w | w
    · exact al_plain (bnd_plain (h x w))
    · exact al_plain (oth_plain w)

theorem bad_of : ∀ {f : Nat} {hd : Bool} {ar : List Str} {t : Tr} {k : Nat}, WfT f hd ar t → (∀ x ∈ ar, x ∈ bnds) → ar.length + f ≤ 9 → UseAt (words t) k → BadT f ar ((words t).take k)
  | f + 1, hd, ar, .lam x t, k, w, h, hl, u => by
    have h' : ∀ y ∈ ar ++ [x], y ∈ bnds := fun y hy => by
      rcases List.mem_append.mp hy with hy | hy
      · exact h y hy
      · rw [List.mem_singleton.mp hy]; exact w.2.1
    have u' : UseAt ("\\" :: x :: "." :: words t) k := u
    rcases k with _ | _ | _ | k
    · obtain ⟨⟨w, h1, h2⟩, _⟩ := u'
      have : ("\\" : Str) = w := by simpa using h1
      rw [← this, al_lamw] at h2; cases h2
    · rcases u'.2 with h | h
      · omega
      · exact absurd rfl h
    · obtain ⟨⟨w, h1, h2⟩, _⟩ := u'
      have : ("." : Str) = w := by simpa using h1
      rw [← this, al_dot] at h2; cases h2
    · have := bad_of w.2.2 h' (by rw [List.length_append]; simp only [List.length_cons, List.length_nil]; omega) u'.tail.tail.tail
      exact .lam (nm_plain (bnd_plain w.2.1)) this
  | f + 1, hd, ar, .app t u, k, w, h, hl, us => by
    rw [words_app] at us ⊢
    rcases k with _ | k
    · obtain ⟨⟨w, h1, h2⟩, _⟩ := us
      have : ("(" : Str) = w := by simpa using h1
      rw [← this, al_open] at h2; cases h2
    · have us := us.tail
      rw [List.take_succ_cons]
      by_cases hk : k < (words t).length
      · rw [List.take_append_of_le_length (by omega)]
        exact .appl (bad_of w.1 h (by omega) (us.left hk))
      · obtain ⟨j, rfl⟩ : ∃ j, k = (words t).length + j := ⟨k - (words t).length, by omega⟩
        have us := us.right
        rw [List.take_length_add_append]
        by_cases hj : j < (words u).length
        · rw [List.take_append_of_le_length (by omega)]
          exact .appr (w.1.good h (by omega)) w.1.ht (bad_of w.2 h (by omega) (us.left hj))
        · exfalso
          obtain ⟨⟨v, h1, h2⟩, _⟩ := us
          rw [List.getElem?_append_right (by omega)] at h1
          have hj0 : j - (words u).length = 0 := by
            have := (List.getElem?_eq_some_iff.mp h1).1
            simp only [List.length_cons, List.length_nil] at this; omega
          rw [hj0] at h1
          have : (")" : Str) = v := by simpa using h1
          rw [← this, al_close] at h2; cases h2
  | f + 1, hd, ar, .name x, k, w, h, hl, u => by
    rcases k with _ | k
    · refine .leaf (fun e => ?_) (by omega)
      exact absurd (h _ e) (by decide)
    · obtain ⟨⟨v, h1, _⟩, _⟩ := u
      have : ([x] : List Str)[k + 1]? = some v := h1
      simp at this
theorem BadT.mono {h h' : Nat} {ar pre : List Str} (b : BadT h ar pre) : h ≤ h' → BadT h' ar pre := by
  induction b generalizing h' with
  | leaf hx ha => intro hh; obtain ⟨k, rfl⟩ : ∃ k, h' = k + 1 := ⟨h' - 1, by omega⟩; exact .leaf hx ha
  | lam hx _ ih => intro hh; obtain ⟨k, rfl⟩ : ∃ k, h' = k + 1 := ⟨h' - 1, by omega⟩; exact .lam hx (ih (by omega))
  | appl _ ih => intro hh; obtain ⟨k, rfl⟩ : ∃ k, h' = k + 1 := ⟨h' - 1, by omega⟩; exact .appl (ih (by omega))
  | appr g hg _ ih => intro hh; obtain ⟨k, rfl⟩ : ∃ k, h' = k + 1 := ⟨h' - 1, by omega⟩; exact .appr g (by omega) (ih (by omega))

theorem plain_okW {x : Str} (h : x ∈ plainNames) : okW x := by
  obtain ⟨c, cs, e, _⟩ := nm_head (nm_plain h)
  refine ⟨⟨c, cs, e, plain_names x h c (by rw [e]; exact .head _)⟩, ?_⟩
  have key : (plainNames.all fun x => decide (x.length ≤ 6)) = true := by decide
  exact of_decide_eq_true (List.all_eq_true.mp key x h)
theorem okW_sign {w : Str} (h : w ∈ (["\\", ".", "(", ")"] : List Str)) : okW w := by
  simp only [List.mem_cons, List.not_mem_nil, or_false] at h
  rcases h with rfl | rfl | rfl | rfl
  · exact ⟨⟨92, [], rfl, by decide⟩, by decide⟩
  · exact ⟨⟨46, [], rfl, by decide⟩, by decide⟩
  · exact ⟨⟨40, [], rfl, by decide⟩, by decide⟩
  · exact ⟨⟨41, [], rfl, by decide⟩, by decide⟩
theorem WfT.okw : ∀ {f : Nat} {hd : Bool} {ar : List Str} {t : Tr}, WfT f hd ar t → (∀ x ∈ ar, x ∈ bnds) → ∀ w ∈ words t, okW w
  | f + 1, hd, ar, .lam x t, w, h, v, hv => by
    have h' : ∀ y ∈ ar ++ [x], y ∈ bnds := fun y hy => by
      rcases List.mem_append.mp hy with hy | hy
      · exact h y hy
      · rw [List.mem_singleton.mp hy]; exact w.2.1
    have hv : v ∈ (("\\" : Str) :: x :: "." :: words t : List Str) := hv
    simp only [List.mem_cons] at hv
    rcases hv with rfl | rfl | rfl | hv
    · exact okW_sign (by simp)
    · exact plain_okW (bnd_plain w.2.1)
    · exact okW_sign (by simp)
    · exact WfT.okw w.2.2 h' v hv
  | f + 1, hd, ar, .app t u, w, h, v, hv => by
    rw [words_app] at hv
    simp only [List.mem_cons, List.mem_append, List.not_mem_nil, or_false] at hv
    rcases hv with rfl | hv | hv | rfl
    · exact okW_sign (by simp)
    · exact WfT.okw w.1 h v hv
    · exact WfT.okw w.2 h v hv
    · exact okW_sign (by simp)
  | f + 1, hd, ar, .name x, w, h, v, hv => by
    have : v = x := by simpa [words] using hv
    rw [this]
    rcases w with w | w
    · exact plain_okW (bnd_plain (h x w))
    · exact plain_okW (oth_plain w)

/-! steps at the root -/
theorem lastIx_cons (x z : Str) (ar : List Str) : lastIx x (z :: ar) = if x ∈ ar then lastIx x ar + 1 else if z = x then 0 else -1 := by
  suffices h : ∀ n (ar : List Str), ar.length = n → lastIx x (z :: ar) = if x ∈ ar then lastIx x ar + 1 else if z = x then 0 else -1 from h _ ar rfl
  intro n
  induction n with
  | zero =>
    intro ar h
    rw [List.eq_nil_of_length_eq_zero h]
    have := lastIx_snoc x z []
    rw [List.nil_append] at this
    rw [this]; simp [lastIx, lastFrom]
  | succ n ih =>
    intro ar h
    rcases List.eq_nil_or_concat ar with rfl | ⟨ys, y, rfl⟩
    · simp at h
    · rw [List.concat_eq_append] at h ⊢
      rw [← List.cons_append, lastIx_snoc, lastIx_snoc]
      rw [List.length_append] at h
      simp only [List.length_cons, List.length_nil] at h
      rw [ih ys (by omega)]
      by_cases hy : y = x
      · rw [if_pos hy, if_pos (by simp [hy]), if_pos hy, List.length_cons]; omega
      · rw [if_neg hy, if_neg hy]
        have : x ∈ ys ++ [y] ↔ x ∈ ys := by simp [Ne.symm hy]
        simp only [this]

noncomputable def NoZ : List Str → Tr → Prop
  | ar, .lam x t => NoZ (ar ++ [x]) t
  | ar, .app t u => NoZ ar t ∧ NoZ ar u
  | ar, .name x => x ∈ ar ∨ x ≠ "z"
theorem NoZ.weak : ∀ {t : Tr} {ar ar' : List Str}, (∀ x ∈ ar, x ∈ ar') → NoZ ar t → NoZ ar' t := by
  intro t
  induction t with
  | lam x t ih =>
    refine fun h n => ih (ar := _ ++ [x]) (fun y hy => ?_) n
    rcases List.mem_append.mp hy with hy | hy
    · exact List.mem_append_left _ (h y hy)
    · exact List.mem_append_right _ hy
  | app t u ih1 ih2 => exact fun h n => ⟨ih1 h n.1, ih2 h n.2⟩
  | name x => exact fun h n => n.imp (h x) id
theorem WfT.noz : ∀ {f : Nat} {hd : Bool} {ar : List Str} {t : Tr}, WfT f hd ar t → NoZ ar t
  | f + 1, hd, ar, .lam x t, w => show NoZ (ar ++ [x]) t from WfT.noz w.2.2
  | f + 1, hd, ar, .app t u, w => ⟨WfT.noz w.1, WfT.noz w.2⟩
  | f + 1, hd, ar, .name x, w => w.imp id fun h e => by
    rw [e] at h
    exact absurd h (by decide)

theorem put_core (u : Tm) : ∀ (t : Tr) (ar : List Str), NoZ ar t → put u ar.length (core t ("z" :: ar)) = core t ar
  | .lam x t, ar, n => by
    have := put_core u t (ar ++ [x]) n
    rw [List.length_append] at this
    rw [core, core, put, List.cons_append]
    rw [show ar.length + [x].length = ar.length + 1 from rfl] at this
    rw [this]
  | .app t v, ar, n => by rw [core, core, put, put_core u t ar n.1, put_core u v ar n.2]
  | .name x, ar, n => by
    rw [core, core, lastIx_cons]
    by_cases h : x ∈ ar
    · have h0 := lastIx_mem.mp h
      have h1 := lastIx_lt x ar
      rw [if_pos h, if_pos h0, if_pos (by omega), List.length_cons]
      have e : (lastIx x ar + 1).toNat = (lastIx x ar).toNat + 1 := by omega
      rw [e, put, if_neg (by omega), if_neg (by omega)]
      congr 1; omega
    · have h0 : ¬ 0 ≤ lastIx x ar := fun e => h (lastIx_mem.mpr e)
      have hz : ("z" : Str) ≠ x := fun e => n.elim h fun hn => hn e.symm
      rw [if_neg h, if_neg h0, if_neg hz, if_neg (by decide)]
      cases yn x with
      | some k =>
        show put u ar.length (.var (k + (ar.length + 1))) = _
        rw [put, if_neg (by omega), if_pos (by omega)]
        show Tm.var _ = Tm.var _
        congr 1
      | none => rfl

structure WOk (v : Tm) (k : Nat) (t : Tr) : Prop where
  red : Red v k (core t [])
  dp : Dp (3 + k) [] t
  size : sizeT t ≤ 15 + 11 * k
  ht : hT t ≤ 4 + 5 * k
  noz : NoZ [] t
theorem WOk.tm {v : Tm} {k : Nat} {t : Tr} (h : WOk v k t) (hk : k ≤ 2) : TmOk (core t []) :=
  ⟨h.dp.wfm.mono (by omega), by rw [size_core]; have := h.size; omega, by rw [ht_core]; have := h.ht; omega⟩
theorem tmOk_of {m : Nat} {t : Tr} (d : Dp m [] t) (hm : m ≤ 7) (hs : sizeT t ≤ 100) (hh : hT t ≤ 30) : TmOk (core t []) :=
  ⟨d.wfm.mono (by omega), by rw [size_core]; exact hs, by rw [ht_core]; exact hh⟩
theorem WOk.base {t : Tr} {hd : Bool} (w : WfT 4 hd [] t) : WOk (core t []) 0 t := by
  have hs := w.size
  have hh := w.ht
  have d : Dp 3 [] t := w.dp
  refine ⟨.done w.nf.1 (tmOk_of d (by decide) (by omega) (by omega)), d, by omega, by omega, w.noz⟩
theorem WOk.wrap {v : Tm} {k : Nat} {t t' : Tr} (h : WOk v k t) (hk : k < 2) (w : Wrap t t') : WOk v (k + 1) t' := by
  have hs := h.size
  have hh := h.ht
  have dz : Dp (3 + (k + 1)) ["z"] t := h.dp.cons "z"
  cases w with
  | same =>
    have d : Dp (3 + (k + 1)) [] (.app (.lam "z" (.name "z")) t) := ⟨⟨.inl (by simp), show 1 ≤ 3 + (k + 1) by omega⟩, h.dp.mono (by omega)⟩
    have s : sizeT (.app (.lam "z" (.name "z")) t) ≤ 15 + 11 * (k + 1) := by simp only [sizeT]; omega
    have hx : hT (.app (.lam "z" (.name "z")) t) ≤ 4 + 5 * (k + 1) := by simp only [hT]; omega
    refine ⟨?_, d, s, hx, ⟨.inl (by simp), h.noz⟩⟩
    refine Red.step (b := .var 0) (.inr ⟨0, rfl⟩) (tmOk_of d (by omega) (by omega) (by omega)) ?_
    rw [put, if_pos rfl]
    exact h.red
  | om =>
    have d : Dp (3 + (k + 1)) [] (.app (.lam "z" t) (.app (.lam "p" (.app (.name "p") (.name "p"))) (.lam "p" (.app (.name "p") (.name "p"))))) :=
      ⟨dz, ⟨⟨.inl (by simp), show 1 ≤ 3 + (k + 1) by omega⟩, ⟨.inl (by simp), show 1 ≤ 3 + (k + 1) by omega⟩⟩, ⟨⟨.inl (by simp), show 1 ≤ 3 + (k + 1) by omega⟩, ⟨.inl (by simp), show 1 ≤ 3 + (k + 1) by omega⟩⟩⟩
    have s : sizeT (.app (.lam "z" t) (.app (.lam "p" (.app (.name "p") (.name "p"))) (.lam "p" (.app (.name "p") (.name "p"))))) ≤ 15 + 11 * (k + 1) := by simp only [sizeT]; omega
    have hx : hT (.app (.lam "z" t) (.app (.lam "p" (.app (.name "p") (.name "p"))) (.lam "p" (.app (.name "p") (.name "p"))))) ≤ 4 + 5 * (k + 1) := by simp only [hT]; omega
    refine ⟨?_, d, s, hx, ⟨h.noz.weak (ar' := ["z"]) (by simp), ⟨⟨.inl (by simp), .inl (by simp)⟩, ⟨.inl (by simp), .inl (by simp)⟩⟩⟩⟩
    refine Red.step (b := core t ["z"]) (.inl rfl) (tmOk_of d (by omega) (by omega) (by omega)) ?_
    have := put_core (core (.app (.lam "p" (.app (.name "p") (.name "p"))) (.lam "p" (.app (.name "p") (.name "p")))) []) t [] h.noz
    rw [List.length_nil] at this
    rw [this]
    exact h.red
  | drop =>
    have d : Dp (3 + (k + 1)) [] (.app (.lam "z" t) (.name "k")) := ⟨dz, .inr (by decide), by simp⟩
    have s : sizeT (.app (.lam "z" t) (.name "k")) ≤ 15 + 11 * (k + 1) := by simp only [sizeT]; omega
    have hx : hT (.app (.lam "z" t) (.name "k")) ≤ 4 + 5 * (k + 1) := by simp only [hT]; omega
    refine ⟨?_, d, s, hx, ⟨h.noz.weak (ar' := ["z"]) (by simp), .inr (by decide)⟩⟩
    refine Red.step (b := core t ["z"]) (.inl rfl) (tmOk_of d (by omega) (by omega) (by omega)) ?_
    have := put_core (core (.name "k") []) t [] h.noz
    rw [List.length_nil] at this
    rw [this]
    exact h.red


noncomputable def r12 : MS := (.seq (.asg 14 (.call2 (.glob 23) (.call4 (.glob 21) (.loc 1) (.lst0) (.int 3) (.bool false)) (.lst0))) (.seq (.ite (.or (.cmp .IsNot (.call3 (.glob 28) (.call2 (.glob 23) (.loc 12) (.lst0)) (.loc 3) (.loc 11)) (.bool true)) (.cmp .NotEq (.call3 (.glob 28) (.loc 3) (.loc 14) (.int 0)) (.cmp .Eq (.loc 3) (.loc 14)))) (.seq (.ret (.bool false)) .nil) .nil) (.seq (.ret (.or (.cmp .Eq (.loc 11) (.int 0)) (.cmp .Is (.call3 (.glob 28) (.loc 3) (.call2 (.glob 23) (.loc 12) (.lst0)) (.bin .Sub (.loc 11) (.int 1))) .none))) .nil)))
noncomputable def lp12 : MS := (.seq (.asg 12 (.call2 (.glob 27) (.loc 1) (.loc 12))) .nil)
noncomputable def r10 : MS := (.seq (.unp2 11 12 (.tup2 (.call2 (.glob 20) (.loc 1) (.int 3)) (.loc 2))) (.seq (.forr 13 (.range (.loc 11)) lp12) r12))
noncomputable def r6 : MS := (.seq (.asg 8 (.comp 16 [4] (.loc 16) (.range (.len (.loc 4))) (.and (.isalnum (.idx (.idx (.loc 4) (.loc 16)) (.int 0))) (.or (.cmp .Eq (.loc 16) (.int 0)) (.cmp .NotEq (.idx (.loc 4) (.bin .Sub (.loc 16) (.int 1))) (.str "\\")))))) (.seq (.asg 9 (.idx (.loc 8) (.call2 (.glob 20) (.loc 1) (.len (.loc 8))))) (.seq (.asg 10 (.bin .Add (.idx (.loc 6) (.loc 9)) (.len (.idx (.loc 4) (.loc 9))))) (.seq (.ite (.cmp .NotEq (.call1 (.glob 29) (.bin .Add (.bin .Add (.slc (.loc 5) .none (.idx (.loc 6) (.loc 9))) (.str "var2")) (.slc (.loc 5) (.loc 10) .none))) (.idx (.loc 6) (.loc 9))) (.seq (.ret (.bool false)) .nil) .nil) r10))))
theorem b_353_eq : b_353 = (.seq (.asg 1 (.hand (.comp 15 [] (.bin .Mod (.intOf (.loc 15)) (.int 5040)) (.take (.loc 0) 60) (.bool true)) (.int 0))) (.seq (.asg 2 (.call4 (.glob 21) (.loc 1) (.lst0) (.int 4) (.bool false))) (.seq (.unp2 3 4 (.tup2 (.call2 (.glob 23) (.loc 2) (.lst0)) (.call1 (.glob 25) (.loc 2)))) (.seq (.unp2 5 6 (.call2 (.glob 26) (.loc 1) (.loc 4))) (.seq (.asg 7 (.call2 (.glob 24) (.loc 2) (.lst0))) (.seq (.ite (.or (.cmp .NotEq (.call1 (.glob 19) (.loc 5)) (.loc 3)) (.or (.cmp .NotEq (.call1 (.glob 17) (.loc 3)) (.loc 7)) (.cmp .NotEq (.call1 (.glob 19) (.loc 7)) (.loc 3)))) (.seq (.ret (.bool false)) .nil) .nil) r6)))))) := rfl

theorem WOk.base' {t : Tr} {hd : Bool} {f : Nat} (hf : f ≤ 4) (w : WfT f hd [] t) : WOk (core t []) 0 t := by
  have hs := w.size
  have hh := w.ht
  have h2 : 2 ^ f ≤ 2 ^ 4 := Nat.pow_le_pow_right (by decide) hf
  have d : Dp 3 [] t := w.dp.mono (by simp; omega)
  refine ⟨.done w.nf.1 (tmOk_of d (by decide) (by omega) (by omega)), d, by omega, by omega, w.noz⟩

theorem cw_encn {σ : St} {t : Tm} {Q : Bool → Prop} (wt : TmOk t) (q : Q false) : cmpW σ .NotEq (enc t) (enc t) Q := by
  have k1 := kqd_enc t 40 wt.w10 (by have := wt.h; omega)
  obtain ⟨x, ex⟩ := enc_drop t
  rw [ex] at k1 ⊢
  exact cw_net (b := true) (by simp) ⟨k1, k1⟩ q
theorem cw_nebb {σ : St} {b : Bool} {Q : Bool → Prop} (q : Q false) : cmpW σ .NotEq (.bool b) (.bool b) Q := by
  show Q (b != b)
  rw [show (b != b) = false by cases b <;> rfl]
  walk_at "n"
  exact q

section
variable {W : Wd}

theorem part4 (g : Gd W) {n : Nat} (hn : 300 ≤ n) {σ : St} {i : Nat} (hi : i < σ.length) {cs : List Int} (hcs : cs.length ≤ 100) {sp : List Nat} {t wh : Tr} {laps a : Nat} (hl : laps ≤ 2) (ha : a ≤ 7000) (w : WfT 4 false [] t) (wk : WOk (core t []) laps wh) {loc : Loc}
    (h1 : loc 1 = some (.obj i)) (h3 : loc 3 = some (enc (core t []))) (h11 : loc 11 = some (.int laps)) (h12 : loc 12 = some (encT wh)) {K : Fl → Loc → St → Prop} {E : Xc → St → Prop} (hK : ∀ l σ, K (.ret (.bool true)) l σ) :
    wpS GV MV (Orc W clsX n) r12 loc (stt σ i cs a sp) K E := by
  simp only [r12]
  walk_at "u"
  walk_at "n"
  refine ⟨_, h1, ?_⟩
  walk_at "n"
  refine c_tree g hcs 3 false [] a n _ _ _ (by decide) (by decide) (by omega) (by simp) (by decide) (stt_hand hi) (by omega) fun t2 a2 w2 _ _ => ?_
  walk_at "n"
  rw [stt_set hi]
  walk_at "n"
  have b2 := WOk.base' (by decide) w2
  have b1 := WOk.base w
  have o1 := b1.tm (by decide)
  have o2 := b2.tm (by decide)
  have s2 := b2.size
  have sw := wk.size
  refine c_core g t2 [] n _ _ _ (by omega) (by simp; omega) (b2.dp.wfc (by decide)) ?_
  walk_at "n"
  refine ⟨_, h12, ?_⟩
  walk_at "n"
  refine c_core g wh [] n _ _ _ (by omega) (by simp; omega) (wk.dp.wfc (by omega)) ?_
  walk_at "n"
  refine ⟨_, h3, _, h11, ?_⟩
  walk_at "n"
  refine c_law_alike g (by omega) (b := true) (by simp) wk.red b1.red o1 o1 (fun _ _ => ?_) (fun h => by omega)
  walk_at "n"
  rw [cw_isnotbt, isB_b]
  walk_at "n"
  refine ⟨_, h3, _, rfl, ?_⟩
  walk_at "n"
  obtain ⟨b, hb⟩ : ∃ b : Bool, b = true ↔ enc (core t []) = enc (core t2 []) := by
    by_cases h : enc (core t []) = enc (core t2 [])
    · exact ⟨true, by simp [h]⟩
    · exact ⟨false, by simp [h]⟩
  refine c_law_alike (most := 0) g (by omega) hb b1.red b2.red o1 o2 (fun _ _ => ?_) (fun h => by omega)
  walk_at "n"
  refine ⟨_, h3, _, rfl, ?_⟩
  walk_at "n"
  refine cw_enc hb o1 o2 ?_
  walk_at "n"
  refine cw_nebb ?_
  walk_at "n"
  try rw [isB_b, isB_b]
  walk_at "n"
  refine ⟨_, h11, ?_⟩
  walk_at "n"
  rw [cw_eqi, isB_b]
  walk_at "n"
  by_cases h0 : laps = 0
  · rw [show decide ((laps : Int) = 0) = true from decide_eq_true (by omega)]
    walk_at "n"
    exact hK _ _
  · rw [show decide ((laps : Int) = 0) = false from decide_eq_false (by omega)]
    walk_at "n"
    refine ⟨_, h3, _, h12, ?_⟩
    walk_at "n"
    refine c_core g wh [] n _ _ _ (by omega) (by simp; omega) (wk.dp.wfc (by omega)) ?_
    walk_at "n"
    refine ⟨_, h11, ?_⟩
    walk_at "n"
    rw [bw_subi, show (laps : Int) - 1 = ((laps - 1 : Nat) : Int) by omega]
    walk_at "n"
    refine c_law_alike g (by omega) (b := true) (by simp) b1.red wk.red o1 o1 (fun _ h => by omega) (fun h => ?_)
    walk_at "n"
    rw [cw_isnn, isB_b]
    walk_at "n"
    exact hK _ _

theorem wrap_loop (g : Gd W) {n : Nat} (hn : 300 ≤ n) {σ : St} {i : Nat} (hi : i < σ.length) {cs : List Int} (hcs : cs.length ≤ 100) {sp : List Nat} {v : Tm} {b : Loc → St → (Fl → Loc → St → Prop) → Prop} (hb : ∀ loc σ Q, wpS GV MV (Orc W clsX n) lp12 loc σ Q (fun _ _ => False) → b loc σ Q) :
    ∀ (l : List V) (k j a : Nat) (wh : Tr) (loc : Loc) (Q : Fl → Loc → St → Prop), k + l.length ≤ 2 → a + l.length ≤ 6000 → WOk v k wh → loc 1 = some (.obj i) → loc 12 = some (encT wh) →
    (∀ wh' loc', WOk v (k + l.length) wh' → loc' 12 = some (encT wh') → (∀ x, x < 12 → loc' x = loc x) → Q .next loc' (stt σ i cs (a + l.length) sp)) →
    forW b (fun loc _ d => upd loc 13 d) j l loc (stt σ i cs a sp) Q
  | [], k, j, a, wh, loc, Q, hk, ha, wk, h1, h12, q => q wh loc wk h12 (fun _ _ => rfl)
  | d :: l, k, j, a, wh, loc, Q, hk, ha, wk, h1, h12, q => by
    rw [List.length_cons] at hk ha
    walk_at "n"
    rw [forW_cons]
    walk_at "n"
    refine hb _ _ _ ?_
    walk_at "n"
    simp only [lp12]
    walk_at "u"
    walk_at "n"
    refine ⟨_, h1, _, h12, ?_⟩
    walk_at "n"
    refine c_wrapped g (by omega) wh (stt_hand hi) (by omega) hcs fun wh' hw => ?_
    walk_at "n"
    rw [stt_set hi]
    walk_at "n"
    refine wrap_loop g hn hi hcs hb l (k + 1) (j + 1) (a + 1) wh' _ Q (by omega) (by omega) (wk.wrap (by omega) hw) h1 rfl ?_
    walk_at "n"
    intro wh2 loc' w2 e2 ex
    walk_at "n"
    have := q wh2 loc' (by rw [List.length_cons, show k + (l.length + 1) = k + 1 + l.length by omega]; exact w2) e2 (fun x hx => (ex x hx).trans ?_)
    · rw [List.length_cons] at this
      rw [show a + 1 + l.length = a + (l.length + 1) by omega]
      walk_at "n"
      exact this
    · have h12 : ¬ x = 12 := by omega
      have h13 : ¬ x = 13 := by omega
      show (if x = 12 then _ else if x = 13 then _ else loc x) = _
      rw [if_neg h12, if_neg h13]
      walk_at "n"

theorem part3 (g : Gd W) {n : Nat} (hn : 300 ≤ n) {σ : St} {i : Nat} (hi : i < σ.length) {cs : List Int} (hcs : cs.length ≤ 100) {sp : List Nat} {t : Tr} {a : Nat} (ha : a ≤ 5000) (w : WfT 4 false [] t) {loc : Loc}
    (h1 : loc 1 = some (.obj i)) (h2 : loc 2 = some (encT t)) (h3 : loc 3 = some (enc (core t []))) {K : Fl → Loc → St → Prop} {E : Xc → St → Prop} (hK : ∀ l σ, K (.ret (.bool true)) l σ) :
    wpS GV MV (Orc W clsX n) r10 loc (stt σ i cs a sp) K E := by
  simp only [r10]
  walk_at "u"
  walk_at "n"
  refine ⟨_, h1, ?_⟩
  walk_at "n"
  refine c_digit g (by omega) (stt_hand hi) (by omega) (by decide) hcs fun d hd => ?_
  walk_at "n"
  have hd : d < 3 := hd
  rw [stt_set hi]
  walk_at "n"
  refine ⟨_, h2, ?_⟩
  walk_at "n"
  refine ⟨_, rfl, ?_⟩
  walk_at "n"
  refine ⟨⟨by omega, by simp only [big]; omega⟩, ?_⟩
  walk_at "n"
  rw [Int.toNat_natCast]
  walk_at "n"
  have hll : ((List.range d).map fun k => V.int (k : Nat)).length = d := by simp
  refine wrap_loop g hn hi hcs (v := core t []) (fun _ _ _ h => h) _ 0 0 (a + 1) t _ _ (by rw [hll]; omega) (by rw [hll]; omega) (WOk.base w) h1 rfl ?_
  walk_at "n"
  intro wh loc' wk e12 ex
  walk_at "n"
  rw [hll] at wk ⊢
  rw [Nat.zero_add] at wk
  refine part4 g hn hi hcs (by omega) (by omega) w wk ((ex 1 (by omega)).trans h1) ((ex 3 (by omega)).trans h3) ((ex 11 (by omega)).trans rfl) e12 hK

noncomputable def usedB (ws : List Str) (j : Nat) : Bool := al (ws.getD j "") && (decide (j = 0) || !decide (ws.getD (j - 1) "" = "\\"))
theorem usedB_iff {ws : List Str} {j : Nat} (hj : j < ws.length) : usedB ws j = true ↔ UseAt ws j := by
  unfold usedB UseAt
  have e : ∀ k, k < ws.length → ws[k]? = some (ws.getD k "") := fun k hk => by
    rw [List.getD_eq_getElem?_getD, List.getElem?_eq_getElem hk]; rfl
    walk_at "n"
  rw [e j hj, Bool.and_eq_true, Bool.or_eq_true, decide_eq_true_eq, Bool.not_eq_true', decide_eq_false_iff_not]
  walk_at "n"
  constructor
  · rintro ⟨h, h2⟩
    walk_at "n"
    refine ⟨⟨_, rfl, h⟩, ?_⟩
    walk_at "n"
    rcases h2 with h2 | h2
    · exact .inl h2
    · refine .inr fun e2 => h2 ?_
      walk_at "n"
      rw [e (j - 1) (by omega)] at e2
      exact Option.some.inj e2
  · rintro ⟨⟨w, ew, h⟩, h2⟩
    walk_at "n"
    refine ⟨by rw [Option.some.inj ew]; exact h, ?_⟩
    walk_at "n"
    rcases h2 with h2 | h2
    · exact .inl h2
    · refine .inr fun e2 => h2 ?_
      walk_at "n"
      rw [e (j - 1) (by omega), e2]
      walk_at "n"

theorem part2 (g : Gd W) {n : Nat} (hn : 300 ≤ n) {σ : St} {i : Nat} (hi : i < σ.length) {cs : List Int} (hcs : cs.length ≤ 100) {t : Tr} {a : Nat} (ha : a ≤ 4000) (w : WfT 4 false [] t) {loc : Loc} {ps : List (Nat × Str)} {T : Str} {k : Nat}
    (hps : ps.map (·.2) = words t) (sep : SepF false ps) (hT : T.cps.toList = txt ps ++ List.replicate k 32) (hl : T.length ≤ 1000)
    (h1 : loc 1 = some (.obj i)) (h2 : loc 2 = some (encT t)) (h3 : loc 3 = some (enc (core t []))) (h4 : loc 4 = some (.list (vstr (words t)))) (h5 : loc 5 = some (.str T)) (h6 : loc 6 = some (.obj σ.length)) {K : Fl → Loc → St → Prop} {E : Xc → St → Prop} (hK : ∀ l σ, K (.ret (.bool true)) l σ) :
    wpS GV MV (Orc W clsX n) r6 loc (stt σ i cs a (spt 0 ps)) K E := by
  have hs := w.size
  have hwl := words_len t
  have hokw := w.okw (by simp)
  simp only [r6]
  walk_at "u"
  walk_at "n"
  refine ⟨_, h4, by rw [vstr_len]; simp only [big]; omega, ?_⟩
  walk_at "n"
  refine ⟨⟨by omega, by rw [vstr_len]; simp only [big]; omega⟩, ?_⟩
  walk_at "n"
  have hnat : ∀ d ∈ (List.range ((vstr (words t)).length : Int).toNat).map (fun k => V.int (k : Nat)), ∃ j, j < (words t).length ∧ d = .int (j : Nat) := fun d hd => by
    obtain ⟨j, hj, rfl⟩ := List.mem_map.mp hd
    rw [Int.toNat_natCast, vstr_len, List.mem_range] at hj
    exact ⟨j, hj, rfl⟩
  have gd : ∀ j, j < (words t).length → (words t)[j]? = some ((words t).getD j "") := fun j hj => by
    rw [List.getD_eq_getElem?_getD, List.getElem?_eq_getElem hj]; rfl
    walk_at "n"
  refine compW_pure (fun d => match d with | .int j => usedB (words t) j.toNat | _ => false) (fun d => d) _ _ _ ?_ ?_ ?_ ?_
  walk_at "n"
  · intro d hd acc R r
    walk_at "n"
    obtain ⟨j, hj, rfl⟩ := hnat d hd
    have r : R (usedB (words t) j) := r
    obtain ⟨⟨c, cs', ec, hc⟩, _⟩ := hokw _ (List.mem_of_getElem? (gd j hj))
    refine ⟨_, h4, _, rfl, ?_⟩
    walk_at "n"
    refine ⟨by omega, by simp only [big]; omega, .str ((words t).getD j ""), ?_, ?_⟩
    walk_at "n"
    · rw [Int.toNat_natCast, vstr, List.getElem?_map, gd j hj]; rfl
      walk_at "n"
    refine ⟨Int.le_refl 0, by simp only [big]; omega, c, by rw [ec]; rfl, ?_⟩
    walk_at "n"
    try dsimp only
    walk_at "n"
    refine ⟨c, rfl, hc, ?_⟩
    walk_at "n"
    rw [isB_b, al_eq ec]
    walk_at "n"
    unfold usedB at r
    cases hal : al ((words t).getD j "") with
    | false =>
      rw [hal, Bool.false_and] at r
      exact ⟨trivial, r⟩
    | true =>
      rw [hal, Bool.true_and] at r
      refine ⟨_, rfl, ?_⟩
      walk_at "n"
      rw [cw_eqi, isB_b]
      walk_at "n"
      by_cases hj0 : j = 0
      · rw [show decide ((j : Int) = 0) = true from decide_eq_true (by omega)]
        walk_at "n"
        rw [decide_eq_true hj0, Bool.true_or] at r
        exact ⟨trivial, r⟩
      · rw [show decide ((j : Int) = 0) = false from decide_eq_false (by omega)]
        walk_at "n"
        rw [decide_eq_false hj0, Bool.false_or] at r
        refine ⟨_, h4, _, rfl, ?_⟩
        walk_at "n"
        rw [bw_subi, show (j : Int) - 1 = ((j - 1 : Nat) : Int) by omega]
        walk_at "n"
        refine ⟨by omega, by simp only [big]; omega, .str ((words t).getD (j - 1) ""), ?_, ?_⟩
        walk_at "n"
        · rw [Int.toNat_natCast, vstr, List.getElem?_map, gd (j - 1) (by omega)]; rfl
          walk_at "n"
        try dsimp only
        walk_at "n"
        rw [cw_nes, isB_b, isB_b, isB_b]
        walk_at "n"
        exact ⟨trivial, r⟩
  · intro d hd hp acc R r
    walk_at "n"
    exact ⟨_, rfl, trivial, r⟩
  · intro d hd hp
    walk_at "n"
    obtain ⟨j, hj, rfl⟩ := hnat d hd
    rfl
  · have hf : ([] ++ ((List.range ((vstr (words t)).length : Int).toNat).map (fun k => V.int (k : Nat)) |>.filter (fun d => match d with | .int j => usedB (words t) j.toNat | _ => false)).map (fun d => d)) = vint ((List.range (words t).length).filter (usedB (words t))) := by
      rw [List.nil_append, List.map_id', Int.toNat_natCast, vstr_len, List.filter_map]; rfl
      walk_at "n"
    rw [hf]
    walk_at "n"
    generalize hus : (List.range (words t).length).filter (usedB (words t)) = us
    have hpos : 0 < us.length := by
      obtain ⟨j, hj⟩ := use_some w (by simp)
      obtain ⟨⟨v, hv, _⟩, _⟩ := id hj
      have hjl := (List.getElem?_eq_some_iff.mp hv).1
      have : j ∈ us := by
        rw [← hus, List.mem_filter, List.mem_range]
        walk_at "n"
        exact ⟨hjl, (usedB_iff hjl).mpr hj⟩
      exact List.length_pos_of_mem this
    have husl : us.length ≤ 1000 := by
      rw [← hus]
      walk_at "n"
      have := List.length_filter_le (usedB (words t)) (List.range (words t).length)
      rw [List.length_range] at this
      omega
    have vl : (vint us).length = us.length := by simp [vint]
    refine ⟨_, rfl, _, h1, _, rfl, by rw [vl]; simp only [big]; omega, ?_⟩
    walk_at "n"
    try dsimp only
    walk_at "n"
    rw [vl]
    walk_at "n"
    refine c_digit g (by omega) (stt_hand hi) (by omega) hpos hcs fun d hd => ?_
    walk_at "n"
    rw [stt_set hi]
    walk_at "n"
    obtain ⟨place, hpl⟩ : ∃ place, us[d]? = some place := ⟨us[d], List.getElem?_eq_getElem hd⟩
    have hmem : place ∈ us := List.mem_of_getElem? hpl
    rw [← hus, List.mem_filter, List.mem_range] at hmem
    obtain ⟨hpw, hub⟩ := hmem
    have hua := (usedB_iff hpw).mp hub
    refine ⟨by omega, by simp only [big]; omega, .int (place : Nat), by rw [Int.toNat_natCast, vint, List.getElem?_map, hpl]; rfl, ?_⟩
    walk_at "n"
    have hpsl : ps.length = (words t).length := by rw [← hps, List.length_map]
    obtain ⟨p, hp⟩ : ∃ p, ps[place]? = some p := ⟨ps[place], List.getElem?_eq_getElem (by omega)⟩
    have hpword : (words t)[place]? = some p.2 := by rw [← hps, List.getElem?_map, hp]; rfl
    have hal : al p.2 = true := by
      obtain ⟨⟨v, hv, ha⟩, _⟩ := hua
      rw [hpword] at hv
      rw [Option.some.inj hv]; exact ha
      walk_at "n"
    have hspot := spt_at ps 0 place p hp
    rw [Nat.zero_add] at hspot
    generalize ho : (txt (ps.take place)).length + p.1 = o at hspot
    have hne : ∀ q ∈ ps, q.2.cps.toList ≠ [] := fun q hq => by
      have : q.2 ∈ words t := by rw [← hps]; exact List.mem_map_of_mem hq
      obtain ⟨⟨c, cs', ec, _⟩, _⟩ := hokw _ this
      rw [ec]; exact List.cons_ne_nil _ _
      walk_at "n"
    have hp2 : p.2.length ≤ 6 := (hokw _ (List.mem_of_getElem? hpword)).2
    have holen : o + p.2.length ≤ T.length := by
      obtain ⟨hjj, hpp⟩ := List.getElem?_eq_some_iff.mp hp
      have hsp : ps = ps.take place ++ p :: ps.drop (place + 1) := by rw [← hpp, List.getElem_cons_drop, List.take_append_drop]
      have := congrArg List.length hT
      rw [hsp, txt_append, txt, cps_len] at this
      simp only [List.length_append, List.length_replicate, cps_len] at this
      omega
    -- spots[place], and the word's end
    refine ⟨_, h6, _, rfl, _, stt_spots, by omega, by simp only [big]; omega, .int (o : Nat), by rw [Int.toNat_natCast, vint, List.getElem?_map, hspot]; rfl, ?_⟩
    walk_at "n"
    refine ⟨_, h4, _, rfl, by omega, by simp only [big]; omega, .str p.2, by rw [Int.toNat_natCast, vstr, List.getElem?_map, hpword]; rfl, ?_⟩
    walk_at "n"
    refine ⟨by simp only [big]; omega, ?_⟩
    walk_at "n"
    try dsimp only
    walk_at "n"
    rw [bw_addi, show (o : Int) + (p.2.length : Int) = ((o + p.2.length : Nat) : Int) by omega]
    walk_at "n"
    refine ⟨_, h5, _, h6, _, rfl, _, stt_spots, by omega, by simp only [big]; omega, .int (o : Nat), by rw [Int.toNat_natCast, vint, List.getElem?_map, hspot]; rfl, ?_⟩
    walk_at "n"
    refine ⟨by simp only [big]; omega, by omega, by simp only [big]; omega, ?_⟩
    walk_at "n"
    try dsimp only
    walk_at "n"
    rw [Int.toNat_natCast, bw_adds]
    walk_at "n"
    have cl : ∀ x y, (cutS T x y).length ≤ T.length := fun x y => by
      rw [← cps_len, ← cps_len]
      walk_at "n"
      show ((T.cps.toList.take y).drop x).length ≤ _
      rw [List.length_drop, List.length_take]; omega
      walk_at "n"
    have c0 := cl 0 o
    have c1 := cl (o + p.2.length) T.length
    have e40 : ("var2" : Str).length = 4 := rfl
    refine ⟨by rw [e40]; simp only [big]; omega, ?_⟩
    walk_at "n"
    refine ⟨_, h5, _, rfl, ?_⟩
    walk_at "n"
    refine ⟨by simp only [big]; omega, by omega, by simp only [big]; omega, ?_⟩
    walk_at "n"
    dsimp only [placeW]
    walk_at "n"
    rw [Int.toNat_natCast, bw_adds]
    walk_at "n"
    have e4 : ("var2" : Str).length = 4 := rfl
    refine ⟨by rw [Str.length_append, e4]; simp only [big]; omega, ?_⟩
    walk_at "n"
    have lay := bad_lay hp sep hne hal hT (o := o) ho.symm
    rw [hps] at lay
    have bad : BadT 20 [] ((words t).take place) := (bad_of w (by simp) (by simp) hua).mono (by decide)
    refine c_refused g (by omega) (by rw [Str.length_append, Str.length_append, e4]; omega) bad lay ?_
    walk_at "n"
    refine ⟨_, h6, _, rfl, _, stt_spots, by omega, by simp only [big]; omega, .int (o : Nat), by rw [Int.toNat_natCast, vint, List.getElem?_map, hspot]; rfl, ?_⟩
    walk_at "n"
    try dsimp only
    walk_at "n"
    rw [cw_nei, isB_b, show (!decide ((o : Int) = (o : Int))) = false from by simp]
    walk_at "n"
    refine part3 g hn hi hcs (a := a + 1) (by omega) w ?_ ?_ ?_ hK
    walk_at "n"
    · exact h1
    · exact h2
    · exact h3

theorem c_law (g : Gd W) {n : Nat} (hn : 301 ≤ n) {σ : St} (is : List Int) (hl : is.length ≤ 63) {Q : V → St → Prop} {E : Xc → St → Prop} (q : ∀ σ', Q (.bool true) σ') : CallW W clsX n (.ref 353) [.list (is.map .int)] σ Q E := by
  obtain ⟨k, rfl⟩ : ∃ k, n = k + 1 := ⟨n - 1, by omega⟩
  refine call_of g (fk_353 _) (tbl_of (by kernel_rfl) (by kernel_rfl)) (fun L => s_353 g.K g.C (Nat.le_refl k) L) rfl ?_
  walk_at "n"
  simp only [b_353_eq]
  walk_at "u"
  walk_at "n"
  refine ⟨_, rfl, ?_⟩
  walk_at "n"
  refine ⟨by rw [List.length_map]; simp only [big]; omega, ?_⟩
  walk_at "n"
  refine ⟨by rw [List.length_take]; simp only [big]; omega, ?_⟩
  walk_at "n"
  have hint : ∀ d ∈ List.take 60 (is.map V.int), ∃ j : Int, d = .int j := fun d hd => by
    obtain ⟨j, _, rfl⟩ := List.mem_map.mp (List.mem_of_mem_take hd)
    exact ⟨j, rfl⟩
  refine compW_pure (fun _ => true) (fun d => match d with | .int j => .int (j % 5040) | d => d) _ _ _ ?_ ?_ ?_ ?_
  walk_at "n"
  · intro d hd acc R r
    walk_at "n"
    exact ⟨trivial, r⟩
  · intro d hd _ acc R r
    walk_at "n"
    obtain ⟨j, rfl⟩ := hint d hd
    refine ⟨_, rfl, ?_⟩
    walk_at "n"
    try dsimp only
    walk_at "n"
    rw [bw_modi]
    walk_at "n"
    exact ⟨by omega, trivial, r⟩
  · intro d hd _
    walk_at "n"
    obtain ⟨j, rfl⟩ := hint d hd
    rfl
  generalize hcs0 : (is.take 60).map (fun j => j % 5040) = cs
  have hcells : ([] ++ ((List.take 60 (is.map V.int)).filter (fun _ => true)).map (fun d => match d with | .int j => V.int (j % 5040) | d => d)) = cs.map V.int := by
    have hfil : ∀ l : List V, l.filter (fun _ => true) = l := fun l => List.filter_eq_self.mpr fun _ _ => rfl
    rw [List.nil_append, hfil, ← hcs0, ← List.map_take, List.map_map, List.map_map]
    walk_at "n"
    rfl
  rw [hcells]
  walk_at "n"
  have hcs : cs.length ≤ 100 := by rw [← hcs0, List.length_map, List.length_take]; omega
  refine ⟨by rw [List.getElem?_append_right (Nat.le_refl _), Nat.sub_self]; rfl, ?_⟩
  walk_at "n"
  have est : (σ ++ [MO.dict []]).set σ.length (.dict [("cells", .list (cs.map .int)), ("at", .int 0)]) = σ ++ [hnd cs 0] := by
    rw [List.set_append_right _ _ (Nat.le_refl _), Nat.sub_self]; rfl
    walk_at "n"
  rw [est]
  walk_at "n"
  have hi0 : (σ ++ [hnd cs 0])[σ.length]? = some (hnd cs 0) := by
    rw [List.getElem?_append_right (Nat.le_refl _), Nat.sub_self]; rfl
    walk_at "n"
  have hlt : σ.length < (σ ++ [hnd cs 0]).length := by rw [List.length_append]; simp
  generalize σ ++ [hnd cs 0] = S at hi0 hlt
  generalize σ.length = i at hi0 hlt
  refine ⟨_, rfl, ?_⟩
  walk_at "n"
  refine c_tree g hcs 4 false [] 0 k _ _ _ (by decide) (by decide) (by omega) (by simp) (by decide) hi0 (by decide) fun t a w ha0 ha1 => ?_
  walk_at "n"
  have b1 := WOk.base w
  have ok := b1.tm (by decide)
  have hs := w.size
  have hh := w.ht
  have hwc : WfC [] t := b1.dp.wfc (by decide)
  have hwl := words_len t
  have hx : ∀ x ∈ ([] : List Str), x ∈ bnds := by simp
  refine ⟨_, rfl, ?_⟩
  walk_at "n"
  refine c_core g t [] k _ _ _ (by omega) (by simp; omega) hwc ?_
  walk_at "n"
  refine ⟨_, rfl, ?_⟩
  walk_at "n"
  refine c_words g t k _ _ _ (by omega) (by omega) ?_
  walk_at "n"
  refine ⟨_, rfl, _, rfl, ?_⟩
  walk_at "n"
  have hi1 : (S.set i (hnd cs a))[i]? = some (hnd cs a) := get_set hi0
  refine c_text g (by omega) hi1 (by omega) hcs (w.okw hx) (by omega) fun ps kb T hps sep hkb hT hTl => ?_
  walk_at "n"
  have est2 : stt (S.set i (hnd cs a)) i cs (a + (words t).length + 1) (spt 0 ps) = stt S i cs (a + (words t).length + 1) (spt 0 ps) := by
    rw [stt, List.set_set]
    walk_at "n"
  rw [est2]
  walk_at "n"
  have elen : (S.set i (hnd cs a)).length = S.length := List.length_set
  refine ⟨_, rfl, ?_⟩
  walk_at "n"
  refine c_shown g t [] k _ _ _ (by omega) (by simp; omega) hwc ?_
  walk_at "n"
  refine ⟨_, rfl, ?_⟩
  walk_at "n"
  have gd : GoodT [] t := w.good hx (by simp)
  have hne : ∀ p ∈ ps, p.2.cps.toList ≠ [] := fun p hp => by
    have : p.2 ∈ words t := by rw [← hps]; exact List.mem_map_of_mem hp
    obtain ⟨⟨c, cs', ec, _⟩, _⟩ := w.okw hx _ this
    rw [ec]; exact List.cons_ne_nil _ _
    walk_at "n"
  have stb : Stop (List.replicate kb 32) := by
    cases kb with
    | zero => exact stop_nil
    | succ m => exact stop_cons isA_blank
  have lay1 : Lay (fun l _ => l = List.replicate kb 32) (words t) T.cps.toList ((txt ps).length + 0) := by
    rw [hT, ← hps]
    walk_at "n"
    exact txt_lay (R := fun l _ => l = List.replicate kb 32) rfl ps false sep hne fun _ => stb
  refine c_of_names g (by omega) (by omega) (by omega) gd lay1 ?_
  walk_at "n"
  refine ⟨_, rfl, ?_⟩
  walk_at "n"
  refine cw_encn ok ?_
  walk_at "n"
  try rw [isB_b]
  walk_at "n"
  refine ⟨_, rfl, ?_⟩
  walk_at "n"
  have ok10 := ok.w10
  refine c_to_names g (by rw [size_core]; omega) ok10 (by rw [ht_core]; omega) (by rw [size_core]; omega) ?_
  walk_at "n"
  refine ⟨_, rfl, ?_⟩
  walk_at "n"
  have hn0 := nmd_core t [] hwc
  rw [List.length_nil] at hn0
  rw [hn0, cw_nes, isB_b, show (!decide (shown t [] = shown t [])) = false from by simp]
  walk_at "n"
  refine ⟨_, rfl, ?_⟩
  walk_at "n"
  have hsl := shown_len t [] hwc
  obtain ⟨kk, lay2⟩ := shown_lay (R := fun l _ => l = List.replicate 0 32) t [] [] 0 [] 0 (.nil rfl) stop_nil
  rw [List.append_nil, List.append_nil] at lay2
  have cr := core_ren t [] hwc
  have gr := good_ren t [] hwc
  have hx0 : xs ([] : List Str).length = [] := rfl
  rw [hx0] at cr gr
  walk_at "n"
  refine c_of_names (t := ren t []) g (by omega) (by omega) (by rw [hT_ren]; omega) gr lay2 ?_
  walk_at "n"
  rw [cr]
  walk_at "n"
  refine ⟨_, rfl, ?_⟩
  walk_at "n"
  refine cw_encn ok ?_
  walk_at "n"
  try rw [isB_b, isB_b, isB_b]
  walk_at "n"
  refine part2 g (by omega) hlt hcs (a := a + (words t).length + 1) (by omega) w hps sep hT (by omega) rfl rfl rfl rfl rfl (by rw [← elen]; rfl) fun l σ' => ?_
  walk_at "n"
  exact q σ'
end


theorem has_int {R : WRecords} {d : WData} (h : WShape.has R d .int = true) : ∃ i, d = .int i := by
  cases d with
  | int i => exact ⟨i, rfl⟩
  | _ => exact Bool.noConfusion (show false = true from h)
theorem has_ints {R : WRecords} : ∀ {xs : List WData}, WShape.hasItems R xs .int = true → ∃ is : List Int, xs = is.map .int
  | [], _ => ⟨[], rfl⟩
  | x :: xs, h => by
    have h : (WShape.has R x .int && WShape.hasItems R xs .int) = true := h
    rw [Bool.and_eq_true] at h
    obtain ⟨i, rfl⟩ := has_int h.1
    obtain ⟨is, rfl⟩ := has_ints h.2
    exact ⟨i :: is, rfl⟩
theorem has_list {R : WRecords} {d : WData} (h : WShape.has R d (.list .int) = true) : ∃ is : List Int, d = .list (is.map .int) := by
  cases d with
  | list xs =>
    have h' : (WShape.hasItems R xs .int || false) = true := h
    rw [Bool.or_false] at h'
    obtain ⟨is, rfl⟩ := has_ints (xs := xs) (R := R) h'
    exact ⟨is, rfl⟩
  | _ => exact Bool.noConfusion (show false = true from h)

theorem vrs_ints {P : Params} {h : Heap} : ∀ {is : List Int} {vs : List Value}, WellAll P h vs (is.map .int) → VRs h [] (is.map .int) vs
  | [], vs, w => by cases w; exact VRs.nil
  | i :: is, vs, w => by
    cases w with
    | cons a b =>
      refine VRs.cons ?_ (vrs_ints b)
      cases a
      exact ⟨_, rfl⟩
theorem vr_list {P : Params} {h : Heap} {is : List Int} {v : Value} (w : Well P h v (.list (is.map .int))) : VR h [] (.list (is.map .int)) v := by
  cases w with
  | list e ws =>
    rw [VR]
    exact ⟨_, _, 0, rfl, e, by simp, vrs_ints ws⟩

theorem fin {w : World} {s₁ : Shared} {mean : ExcName → Option Value} {mg mb : Str → Option Value} (X : (KP w.params).In s₁.heap) (T : Top view (looseW view []) mean mg mb s₁.heap) (hg : s₁.gens = #[]) {is : List Int} (hl : is.length ≤ 63) {vals : List Value} (hv : VRs s₁.heap [] [.list (is.map .int)] vals)
    {c : ClaimW} {cl : Str → Option Addr} {args : List WData} (hr : ∀ x, c.raises args x = false) (hp : c.post args (.bool true) args = true) :
    wpAny (model rowW.prog w) callerA (call (.ref 353) vals) (fun v s' => GoodWG c cl mean args s₁ (.ok (.ret v)) s') (fun e s' => GoodWG c cl mean args s₁ (.error e) s') s₁ := by
  have ok : ClsOk (KP w.params) 265 := ⟨by kernel_rfl, by kernel_rfl, by kernel_rfl, by kernel_rfl⟩
  let W : Wd := ⟨rowW.prog, w, KP w.params, s₁.heap, view, looseW view [], mean, mg, mb, X, T, 265, ok⟩
  have g : Gd W := ⟨rfl, rfl, by kernel_rfl, by kernel_rfl⟩
  have C := c_law (W := W) g (n := 301) (Nat.le_refl _) (σ := []) is hl (Q := fun d _ => d = .bool true) (E := fun _ _ => False) (fun _ => rfl)
  have base : W.hT.StaysIn s₁.heap := fun _ _ e => e
  have ff : FF W [] [] s₁.heap := ⟨trivial, fun _ h => by cases h⟩
  have sr : SR W [] [] s₁.heap := ⟨rfl, List.nodup_nil, fun i o e => by simp at e, fun a h => by cases h⟩
  have ak : AOK callerA [] 301 := ⟨rfl, rfl, by decide, by decide⟩
  refine wpAny_mono (C callerA [] s₁ [] vals ak base ff sr hv) (fun v s' q => ?_) fun e s' q => ?_
  · obtain ⟨h', tk, hid', d, σ', rfl, p, r, rfl⟩ := q
    have : v = .bool true := by rw [VR] at r; exact r
    subst this
    refine ⟨.inl ⟨_, .bool true, [], rfl, hr, .bool true, hp, fun _ => ⟨List.nodup_nil, fun _ h => by cases h⟩⟩, .of_keep p.base, rfl, ?_⟩
    exact AllBare.of_eq hg
  · obtain ⟨_, _, _, _, _, _, _, _, _, _, h⟩ := q
    exact h.elim

theorem said_post (args : List WData) : rowW.claim.post args (.bool true) args = true := by
  show (WShape.has [] (.bool true) .bool && WTm.holds [] (.eq .res (.lit (.bool true))) { args := args, res := some (.bool true), after := args }) = true
  with_unfolding_all rfl
theorem said_pre {is : List Int} (h : WTm.holds [] (.and (.not (.lt (.lit (.int ((63 : Nat) : Int))) (.len (.arg 0)))) (.lit (.bool true))) { args := [.list (is.map .int)] } = true) : is.length ≤ 63 := by
  apply Decidable.byContradiction
  intro hl
  simp [WTm.holds, WTm.value, PySem.W.less?, PySem.W.Num.less?] at h
  rw [show decide ((63 : Int) < (is.length : Int)) = true from decide_eq_true (by omega)] at h
  cases h

theorem holds : PySem.Challenge.rw_pq0049_01.Holds := by
  refine hd ?_
  intro w s₀ s₁ mg mb G Y a o pm cd doc dV kV ho hod hcr hdf hmg hg args vals as hpre hlay hrd hwell has
  have X : (KP w.params).In s₁.heap := kIn_of Y
  have e353 : mg ("law" : Str) = some (.ref 353) := mg_of X G.T.g (by kernel_rfl)
  have hmg' : mg ("law" : Str) = some (.ref a) := hmg
  have ha : a = 353 := by
    rw [e353] at hmg'
    injection hmg' with h
    injection h with h
    exact h.symm
  subst ha
  obtain ⟨p1, p2⟩ := pre_splitW hpre
  obtain ⟨d, r, rfl, hd1, hr1⟩ := hasAllW_cons p1
  have := hasAllW_nil hr1
  subst this
  obtain ⟨is, rfl⟩ := has_list hd1
  have hl : is.length ≤ 63 := said_pre p2
  have hv : VRs s₁.heap [] [.list (is.map .int)] vals := by
    cases hwell with
    | cons w1 w2 =>
      cases w2
      exact VRs.cons (vr_list w1) VRs.nil
  exact fin X G.T hg hl hv (fun _ => rfl) (said_post _)

end Mine
end
set_option Elab.async false
theorem PySem.Challenge.cw_pq0049_01_holds : PySem.Challenge.rw_pq0049_01.Holds := by
  exact Mine.holds
