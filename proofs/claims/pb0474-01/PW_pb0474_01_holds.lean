import PyProof.Rows.All
import Wide.All
import OpenK.AllK
import Wide.FinOn
import Lean
import PySem.Challenge.RW_pb0474_01
open PySem PySem.W PyProof.Rows
set_option Elab.async false
set_option maxRecDepth 100000
set_option linter.unusedVariables false
set_option linter.unusedSimpArgs false
set_option compiler.extract_closed false
set_option maxHeartbeats 8000000
namespace Mine
/-- the text's statements that the law can come to -/
def vw : Program := view PySem.Challenge.pw_pb0474_01 [0, 2, 4, 5, 6, 7, 8, 9, 10, 11, 12, 14, 15, 16, 18, 19, 20, 21, 22, 25, 26, 27, 28, 29, 30]
abbrev lo : List Str := [Str.ofString "PaperError", Str.ofString "words_of"]
abbrev xt (s : Shared) : Bool := xlAt vw [] s && recOk (RowW.records (OpenRow.toRowW (OpenLaw.row PySem.Challenge.rw_pb0474_01))) s
abbrev fin (w : World) : Option Shared := openEnds treeTable PySem.Challenge.pw_pb0474_01 w 3722
theorem said : PySem.Challenge.rw_pb0474_01.wellSaid = true := by rw [PySem.W.Fast.te9446332074065402090]; kernel_rfl
theorem oks : (chainsOk vw && opensWell (OpenLaw.row PySem.Challenge.rw_pb0474_01).toRowW.prog && (frees (OpenLaw.row PySem.Challenge.rw_pb0474_01).toRowW && (OpenLaw.row PySem.Challenge.rw_pb0474_01).toRowW.within.isEmpty)) = true := by decide +kernel
/-- the top's run over a tree of objects -/
noncomputable def runT (w : World) (n₀ : Nat) (ann : Option Value) : Nat → SharedT → Thread → Option SharedT
  | 0, _, _ => none
  | n + 1, s, t => match through t with
    | true => some s
    | false => match PySem.W.Fast.tw6613529449190102663 n₀ ann t with
      | false => none
      | true => match PySem.W.Fast.tw10156331382660048174 (PySem.W.Fast.tw11892475500146522536 PySem.W.Fast.tw14364793385576792824) PySem.Challenge.pw_pb0474_01 w s t with
        | some (s', t') => runT w n₀ ann n s' t'
        | none => none
theorem runT_of {w : World} {n₀ : Nat} {ann : Option Value} : ∀ (n : Nat) (s : SharedT) (t : Thread) (s' : SharedT), runT w n₀ ann n s t = some s' → topRun treeTable PySem.Challenge.pw_pb0474_01 w n₀ ann n s.abs t = some s'.abs
  | 0, _, _, _, h => by cases h
  | n + 1, s, t, s', h => by
    unfold runT at h
    rw [← PySem.W.Fast.te6613529449190102663, ← PySem.W.Fast.te10156331382660048174, ← PySem.W.Fast.te11892475500146522536, ← PySem.W.Fast.te14364793385576792824] at h
    unfold topRun
    split at h
    · rename_i q
      rw [q]; cases h; rfl
    · rename_i q
      rw [q]
      split at h
      · cases h
      · rename_i q2
        rw [q2]
        split at h
        · rename_i s1 t1 q3
          dsimp only
          rw [stepT_spec q3]
          exact runT_of n s1 t1 s' h
        · cases h
def toT (s : Shared) : SharedT := ⟨(s.heap.objs.toList.foldl (fun (a : BT × Nat) o => (a.1.ins a.2 o, a.2 + 1)) (.nil, 0)).1, s.heap.objs.size, s.heap.life, s.gens, s.drawn, s.toks, s.os⟩
noncomputable def finT (w : World) : Option SharedT := (fencedOpening treeTable PySem.Challenge.pw_pb0474_01 w 3722).bind fun s₀ => match s₀.heap.isNs mainGlobals && s₀.gens.size == 0 with
  | true => (runT w s₀.heap.objs.size (s₀.heap.nsMap mainGlobals "__annotations__") 3722 (toT s₀) (topStub PySem.Challenge.pw_pb0474_01)).bind fun s₁ =>
      match staticsOk (importedModules PySem.Challenge.pw_pb0474_01.main.body) s₀.heap s₁.abs.heap && namesBound PySem.Challenge.pw_pb0474_01 s₁.abs.heap && gensDone s₁.abs && laidKept s₀.heap s₁.abs.heap with
      | true => some s₁
      | false => none
  | false => none
theorem toT_abs (w : World) : (fencedOpening treeTable PySem.Challenge.pw_pb0474_01 w 3722).map (fun s => (toT s).abs) = fencedOpening treeTable PySem.Challenge.pw_pb0474_01 w 3722 := by
  unfold fencedOpening; rw [PySem.W.Fast.te10274390034422433532, PySem.W.Fast.te14289696077712309145, PySem.W.Fast.te1435165496053646825, PySem.W.Fast.te14364793385576792824]; kernel_rfl
theorem finT_of {w : World} {s : SharedT} (h : finT w = some s) : fin w = some s.abs := by
  have ht := toT_abs w
  unfold finT at h
  unfold fin openEnds
  cases e : fencedOpening treeTable PySem.Challenge.pw_pb0474_01 w 3722 with
  | none => rw [e] at h; cases h
  | some s₀ =>
    rw [e] at h ht
    have ht' : (toT s₀).abs = s₀ := by simpa using ht
    simp only [Option.bind_some] at h ⊢
    unfold topFrom
    split at h
    · rename_i q
      rw [q]
      dsimp only
      cases r : runT w s₀.heap.objs.size (s₀.heap.nsMap mainGlobals "__annotations__") 3722 (toT s₀) (topStub PySem.Challenge.pw_pb0474_01) with
      | none => rw [r] at h; cases h
      | some s₁ =>
        rw [r] at h
        have k := runT_of _ _ _ _ r
        rw [ht'] at k
        rw [k]
        simp only [Option.bind_some] at h ⊢
        split at h
        · rename_i q2
          rw [q2]; cases h; rfl
        · cases h
    · cases h
theorem by_tree {γ : Type} {w : World} {F : Shared → γ} {g : γ} (h : (finT w).map (fun s => F s.abs) = some g) : (fin w).map F = some g := by
  cases e : finT w with
  | none => rw [e] at h; cases h
  | some s => rw [finT_of e]; rw [e] at h; simpa using h
theorem hla (w : World) : (fin w).map (fun s => openSeen vw lo (importedModules PySem.Challenge.pw_pb0474_01.main.body) xt true s) = some (openGood vw lo) := by
  refine by_tree ?_
  unfold finT fencedOpening; rw [PySem.W.Fast.te10274390034422433532, PySem.W.Fast.te14289696077712309145, PySem.W.Fast.te4187177175401517315, PySem.W.Fast.te1435165496053646825, PySem.W.Fast.te14364793385576792824, PySem.W.Fast.te5923862056798008813]; kernel_rfl
section
local macro_rules | `(tactic| o_law) => `(tactic| (refine holds_law said fun _ => ?_))
local macro_rules | `(tactic| o_head $_:term) => `(tactic| (refine (fun (_ : True) (h : _) => h) ?hw ?hc))
local macro_rules | `(tactic| w_witness2) => `(tactic| trivial)
open_top hd for PySem.Challenge.rw_pb0474_01
end
def ads : List Addr := [2, 3, 15, 17, 18, 20, 21, 22, 29, 30, 32, 33, 35, 36, 37, 39, 40, 42, 43, 44, 45, 46, 47, 57, 59, 60, 62, 63, 64, 66, 67, 69, 70, 71, 73, 74, 76, 77, 78, 80, 81, 83, 84, 85, 87, 88, 90, 91, 92, 94, 95, 97, 98, 99, 101, 102, 104, 105, 106, 108, 109, 111, 112, 113, 115, 116, 118, 119, 120, 122, 123, 125, 126, 127, 129, 130, 132, 133, 134, 136, 137, 139, 140, 141, 142, 143, 144, 145, 148, 150, 151, 153, 154, 155, 157, 158, 160, 161, 162, 164, 165, 167, 168, 169, 171, 172, 174, 175, 176, 179, 180, 181, 183, 184, 186, 187, 188, 190, 191, 193, 194, 195, 197, 198, 200, 201, 209, 211, 212, 214, 215, 216, 218, 219, 221, 222, 223, 224, 225, 226, 227, 230, 232, 233, 235, 236, 237, 240, 241, 242, 245, 246, 247, 249, 250, 252, 253, 254, 257, 258, 259, 261, 262, 264, 265, 266, 267, 270, 271, 272, 273, 275, 276, 278, 279, 280, 282, 283, 285, 286, 287, 290, 291, 292, 295, 296, 297, 300, 301]
theorem ads_at (P : Params) : ads = (Mine.hd.heap_1 P).map (·.1) := by kernel_rfl
noncomputable abbrev hk : Hook := kmHook Mine.hd.heap_1 ads ads_at [238]
theorem hb1 (w : World) : (fin w).map (fun s => ((ads.take 95).map s.heap.get?, [238].map s.heap.get?)) = some (((Mine.hd.heap_1 w.params).map fun p => some p.2).take 95, [238].map fun _ => some (tabObj #[])) := by
  refine by_tree ?_
  unfold finT fencedOpening; rw [PySem.W.Fast.te10274390034422433532, PySem.W.Fast.te14289696077712309145, PySem.W.Fast.te1435165496053646825, PySem.W.Fast.te14364793385576792824, PySem.W.Fast.te5923862056798008813]; kernel_rfl
theorem hb2 (w : World) : (fin w).map (fun s => (ads.drop 95).map s.heap.get?) = some (((Mine.hd.heap_1 w.params).map fun p => some p.2).drop 95) := by
  refine by_tree ?_
  unfold finT fencedOpening; rw [PySem.W.Fast.te10274390034422433532, PySem.W.Fast.te14289696077712309145, PySem.W.Fast.te1435165496053646825, PySem.W.Fast.te14364793385576792824, PySem.W.Fast.te5923862056798008813]; kernel_rfl
theorem left_all {p q : Program} {loose : List Str} {Xt : Shared → Bool} {N : Nat} {K : Params → Frag} {as : List Addr} {e : ∀ P, as = (K P).map (·.1)} {ts : List Addr} (n : Nat)
    (a : ∀ w, (openEnds treeTable p w N).map (fun s => openSeen q loose (importedModules p.main.body) Xt true s) = some (openGood q loose))
    (b1 : ∀ w, (openEnds treeTable p w N).map (fun s => ((as.take n).map s.heap.get?, ts.map s.heap.get?)) = some (((K w.params).map fun p => some p.2).take n, ts.map fun _ => some (tabObj #[])))
    (b2 : ∀ w, (openEnds treeTable p w N).map (fun s => (as.drop n).map s.heap.get?) = some (((K w.params).map fun p => some p.2).drop n)) : LeftO p q loose Xt (Hook.obs (kmHook K as e ts)) (Hook.val (kmHook K as e ts)) N := fun w => by
  have ha := a w
  have h1 := b1 w
  have h2 := b2 w
  cases x : openEnds treeTable p w N with
  | none => rw [x] at ha; cases ha
  | some s =>
    rw [x] at ha h1 h2
    simp only [Option.map_some, Option.some.injEq] at ha h1 h2 ⊢
    obtain ⟨h1, h3⟩ := Prod.mk.inj h1
    have h12 : as.map s.heap.get? = (K w.params).map fun p => some p.2 := by
      rw [← List.take_append_drop n as, List.map_append, h1, h2, List.take_append_drop]
    rw [ha]
    refine congrArg (Prod.mk _) ?_
    show (as.map s.heap.get?, ts.map s.heap.get?) = _
    rw [h12, h3]; rfl
theorem left_ : LeftO PySem.Challenge.pw_pb0474_01 vw lo xt (Hook.obs hk) (Hook.val hk) 3722 := left_all 95 hla hb1 hb2
end Mine
open PySem PySem.W PySem.Calls PyProof.Rows PySem.Spec
set_option maxHeartbeats 4000000
namespace Mine

abbrev PM := Addr → Option Obj
def Le (f g : PM) : Prop := ∀ a o, f a = some o → g a = some o
theorem Le.refl (f : PM) : Le f f := fun _ _ h => h
theorem Le.trans {f g k : PM} (x : Le f g) (y : Le g k) : Le f k := fun a o h => y a o (x a o h)
def upd (σ : PM) (a : Addr) (o : Obj) : PM := fun b => if b = a then some o else σ b
theorem upd_same (σ : PM) (a : Addr) (o : Obj) : upd σ a o a = some o := if_pos rfl
theorem upd_le {σ : PM} {a : Addr} {o : Obj} (h : σ a = none) : Le σ (upd σ a o) := fun b o' e => by
  unfold upd; split
  · rename_i q; rw [q, h] at e; cases e
  · exact e
abbrev Zf : Value → Shared → Prop := fun _ _ => False

theorem zf {α : Type} {M : Model} {A : Around} {t : Sem α} {Q : α → Shared → Prop} {E : Value → Shared → Prop} {s : Shared} (h : wpAny M A t Q Zf s) : wpAny M A t Q E s :=
  wpAny_mono h (fun _ _ x => x) fun _ _ x => x.elim

def NsS (σ : PM) (a : Addr) (m : Str → Option Value) : Prop :=
  ∃ o es ep, σ a = some o ∧ o.data = .dict es ep ∧ StrKeys es ∧ ∀ name, nsFind es name = m name
theorem NsS.ns {σ : PM} {h : Heap} {a : Addr} {m : Str → Option Value} (x : NsS σ a m) (hf : Le σ h.get?) : h.Ns a m :=
  let ⟨o, es, ep, h1, h2⟩ := x; ⟨o, es, ep, hf _ _ h1, h2⟩
theorem NsS.of {h : Heap} {a : Addr} {m : Str → Option Value} (x : h.Ns a m) : NsS h.get? a m := x
theorem NsS.mono {σ σ' : PM} {a : Addr} {m : Str → Option Value} (x : NsS σ a m) (hf : Le σ σ') : NsS σ' a m :=
  let ⟨o, es, ep, h1, h2⟩ := x; ⟨o, es, ep, hf _ _ h1, h2⟩

structure BaseS (w : World) (σ : PM) : Prop where
  k : ∀ a o, (hd.heap_1 w.params).lookup a = some o → σ a = some o
  g : ∃ mg, NsS σ mainGlobals mg
  b : ∃ mb, NsS σ builtinsNs mb ∧ ∀ x : Str, x ≠ "__name__" → mb x = bootBuiltins x
  l : ∃ mc, NsS σ cStatics mc ∧ mc "sys.recursionlimit" = none
  m : ∃ mg bm ob, NsS σ mainGlobals mg ∧ mg "__builtins__" = some (.ref bm) ∧ bm ≠ builtinsNs ∧ σ bm = some ob ∧ ob.cls = .type "module" ∧ ob.dict = some builtinsNs ∧ ob.data = .plain
theorem BaseS.mono {w : World} {σ σ' : PM} (x : BaseS w σ) (hf : Le σ σ') : BaseS w σ' :=
  ⟨fun a o e => hf _ _ (x.k a o e), let ⟨m, h⟩ := x.g; ⟨m, h.mono hf⟩, let ⟨m, h, r⟩ := x.b; ⟨m, h.mono hf, r⟩, let ⟨m, h, r⟩ := x.l; ⟨m, h.mono hf, r⟩, let ⟨mg, bm, ob, h, h1, h2, h3, r⟩ := x.m; ⟨mg, bm, ob, h.mono hf, h1, h2, hf _ _ h3, r⟩⟩
theorem BaseS.inn {w : World} {σ : PM} {h : Heap} (x : BaseS w σ) (hf : Le σ h.get?) : (hd.heap_1 w.params).In h := fun a o e => hf _ _ (x.k a o e)
theorem BaseS.lim {w : World} {σ : PM} {h : Heap} (x : BaseS w σ) (hf : Le σ h.get?) : h.NoLimit := let ⟨m, h1, r⟩ := x.l; ⟨m, h1.ns hf, r⟩

structure Grow (h : Heap) (σ : PM) (h' : Heap) (σ' : PM) : Prop where
  keep : Le h.get? h'.get?
  sub : Le σ σ'
  fro : Le σ' h'.get?
  new : ∀ a o, σ' a = some o → σ a = some o ∨ h.get? a = none
theorem Grow.refl {h : Heap} {σ : PM} (hf : Le σ h.get?) : Grow h σ h σ := ⟨Le.refl _, Le.refl _, hf, fun _ _ e => .inl e⟩
theorem Grow.trans {h h' h'' : Heap} {σ σ' σ'' : PM} (x : Grow h σ h' σ') (y : Grow h' σ' h'' σ'') : Grow h σ h'' σ'' :=
  ⟨x.keep.trans y.keep, x.sub.trans y.sub, y.fro, fun a o e => (y.new a o e).elim (fun e => x.new a o e) fun e => .inr (by
    cases q : h.get? a with
    | none => rfl
    | some o' => rw [x.keep _ _ q] at e; cases e)⟩

structure St (w : World) (κ σ₀ σ : PM) (L : Addr) (m : Str → Option Value) (μ : List (Addr × Obj)) (h : Heap) : Prop where
  base : BaseS w σ
  kk : Le κ h.get?
  fro : Le σ h.get?
  ns : h.Ns L m
  kL : κ L = none
  sL : σ L = none
  mu : ∀ p ∈ μ, h.get? p.1 = some p.2 ∧ p.1 ≠ L ∧ κ p.1 = none ∧ σ p.1 = none
  nd : (μ.map Prod.fst).Nodup
  sub : Le σ₀ σ
  new : ∀ a o, σ a = some o → σ₀ a = some o ∨ κ a = none

theorem get_none_size {h : Heap} {a : Addr} (e : h.objs.size ≤ a) : h.get? a = none := by
  cases q : h.get? a with
  | none => rfl
  | some o => exact absurd (Heap.lt_size q) (Nat.not_lt.mpr e)
theorem Le.none_size {f : PM} {h : Heap} (x : Le f h.get?) {a : Addr} (e : h.objs.size ≤ a) : f a = none := by
  cases q : f a with
  | none => rfl
  | some o => exact absurd (Heap.lt_size (x _ _ q)) (Nat.not_lt.mpr e)
theorem ns_lt {h : Heap} {L : Addr} {m : Str → Option Value} (x : h.Ns L m) : L < h.objs.size := let ⟨_, _, _, e, _⟩ := x; Heap.lt_size e
theorem push_le (h : Heap) (o : Obj) : Le h.get? (h.push o).get? := fun _ _ e => Heap.get?_push_of_some _ e
theorem Le.ne {f : PM} {L a : Addr} {o : Obj} (hL : f L = none) (e : f a = some o) : a ≠ L := fun q => by rw [q, hL] at e; cases e

section
variable {w : World} {κ σ₀ σ σ' : PM} {L : Addr} {m m' : Str → Option Value} {μ : List (Addr × Obj)} {h h' : Heap} {o : Obj}

theorem St.inn (S : St w κ σ₀ σ L m μ h) : (hd.heap_1 w.params).In h := S.base.inn S.fro
theorem St.store (S : St w κ σ₀ σ L m μ h) (hn : h'.Ns L m') (hs : Heap.SameBut L h h') : St w κ σ₀ σ L m' μ h' :=
  { S with
    kk := fun a o e => (hs.2 a (Le.ne S.kL e)).trans (S.kk a o e)
    fro := fun a o e => (hs.2 a (Le.ne S.sL e)).trans (S.fro a o e)
    ns := hn
    mu := fun p hp => ⟨(hs.2 p.1 (S.mu p hp).2.1).trans (S.mu p hp).1, (S.mu p hp).2⟩ }
/-- all kept, nothing new is told -/
theorem St.keeps (S : St w κ σ₀ σ L m μ h) (k : Le h.get? h'.get?) : St w κ σ₀ σ L m μ h' :=
  { S with
    kk := S.kk.trans k
    fro := S.fro.trans k
    ns := S.ns.keeps k
    mu := fun p hp => ⟨k _ _ (S.mu p hp).1, (S.mu p hp).2⟩ }
theorem St.grow (S : St w κ σ₀ σ L m μ h) (G : Grow h σ h' σ') : St w κ σ₀ σ' L m μ h' :=
  have off : ∀ a, σ a = none → (h.get? a).isSome → σ' a = none := fun a e q => by
    cases r : σ' a with
    | none => rfl
    | some o' => rcases G.new _ _ r with r | r
                 · rw [e] at r; cases r
                 · rw [r] at q; cases q
  { base := S.base.mono G.sub
    kk := S.kk.trans G.keep
    fro := G.fro
    ns := S.ns.keeps G.keep
    kL := S.kL
    sL := off _ S.sL (by obtain ⟨_, _, _, e, _⟩ := S.ns; rw [e]; rfl)
    mu := fun p hp => ⟨G.keep _ _ (S.mu p hp).1, (S.mu p hp).2.1, (S.mu p hp).2.2.1, off _ (S.mu p hp).2.2.2 (by rw [(S.mu p hp).1]; rfl)⟩
    nd := S.nd
    sub := S.sub.trans G.sub
    new := fun a o e => (G.new a o e).elim (S.new a o) fun q => .inr (by
      cases r : κ a with
      | none => rfl
      | some o' => rw [S.kk _ _ r] at q; cases q) }
theorem St.pushF (S : St w κ σ₀ σ L m μ h) (hf : o.isFreed = false) : St w κ σ₀ (upd σ h.objs.size o) L m μ (h.push o) :=
  S.grow ⟨push_le h o, upd_le (S.fro.none_size (Nat.le_refl _)), fun a o' e => by
    unfold upd at e; split at e
    · rename_i q; cases e; rw [q]; exact Heap.get?_push_size _ hf
    · exact push_le h o _ _ (S.fro _ _ e), fun a o' e => by
    unfold upd at e; split at e
    · rename_i q; exact .inr (q ▸ get_none_size (Nat.le_refl _))
    · exact .inl e⟩
theorem St.pushM (S : St w κ σ₀ σ L m μ h) (hf : o.isFreed = false) : St w κ σ₀ σ L m ((h.objs.size, o) :: μ) (h.push o) :=
  { S.keeps (push_le h o) with
    mu := fun p hp => by
      rcases List.mem_cons.mp hp with rfl | hp
      · exact ⟨Heap.get?_push_size _ hf, Nat.ne_of_gt (ns_lt S.ns), S.kk.none_size (Nat.le_refl _), S.fro.none_size (Nat.le_refl _)⟩
      · exact (S.keeps (push_le h o)).mu p hp
    nd := by
      refine List.nodup_cons.mpr ⟨fun hm => ?_, S.nd⟩
      obtain ⟨p, hp, e⟩ := List.mem_map.mp hm
      exact absurd (Heap.lt_size (S.mu p hp).1) (by rw [e]; exact Nat.lt_irrefl _) }
theorem St.perm {μ' : List (Addr × Obj)} (S : St w κ σ₀ σ L m μ h) (p : μ'.Perm μ) : St w κ σ₀ σ L m μ' h :=
  { S with
    mu := fun q hq => S.mu q (p.mem_iff.mp hq)
    nd := (p.map Prod.fst).nodup_iff.mpr S.nd }
theorem St.drop {μ' : List (Addr × Obj)} (S : St w κ σ₀ σ L m (μ' ++ μ) h) : St w κ σ₀ σ L m μ h :=
  { S with
    mu := fun q hq => S.mu q (List.mem_append.mpr (.inr hq))
    nd := (List.nodup_append.mp (by rw [← List.map_append]; exact S.nd)).2.1 }
theorem St.freeze {a : Addr} (S : St w κ σ₀ σ L m ((a, o) :: μ) h) : St w κ σ₀ (upd σ a o) L m μ h :=
  have ha := S.mu _ (.head _)
  have hne : ∀ p ∈ μ, p.1 ≠ a := fun p hp e => (List.nodup_cons.mp S.nd).1 (List.mem_map.mpr ⟨p, hp, e⟩)
  { base := S.base.mono (upd_le ha.2.2.2)
    kk := S.kk
    fro := fun b o' e => by
      unfold upd at e; split at e
      · rename_i q; cases e; rw [q]; exact ha.1
      · exact S.fro _ _ e
    ns := S.ns
    kL := S.kL
    sL := by unfold upd; rw [if_neg (Ne.symm ha.2.1)]; exact S.sL
    mu := fun p hp => ⟨(S.mu p (.tail _ hp)).1, (S.mu p (.tail _ hp)).2.1, (S.mu p (.tail _ hp)).2.2.1, by unfold upd; rw [if_neg (hne p hp)]; exact (S.mu p (.tail _ hp)).2.2.2⟩
    nd := (List.nodup_cons.mp S.nd).2
    sub := S.sub.trans (upd_le ha.2.2.2)
    new := fun b o' e => by
      unfold upd at e; split at e
      · rename_i q; exact .inr (q ▸ ha.2.2.1)
      · exact S.new _ _ e }
/-- the first mutable object is changed -/
theorem St.upd0 {a : Addr} {o' : Obj} (S : St w κ σ₀ σ L m ((a, o) :: μ) h) (hs : Heap.SameBut a h h') (ho : h'.get? a = some o') : St w κ σ₀ σ L m ((a, o') :: μ) h' :=
  have ha := S.mu _ (.head _)
  have hne : ∀ p ∈ μ, p.1 ≠ a := fun p hp e => (List.nodup_cons.mp S.nd).1 (List.mem_map.mpr ⟨p, hp, e⟩)
  { S with
    kk := fun b q e => (hs.2 b (Le.ne ha.2.2.1 e)).trans (S.kk b q e)
    fro := fun b q e => (hs.2 b (Le.ne ha.2.2.2 e)).trans (S.fro b q e)
    ns := S.ns.sameBut hs (Ne.symm ha.2.1)
    mu := fun p hp => by
      rcases List.mem_cons.mp hp with rfl | hp
      · exact ⟨ho, ha.2⟩
      · exact ⟨(hs.2 p.1 (hne p hp)).trans (S.mu p (.tail _ hp)).1, (S.mu p (.tail _ hp)).2⟩
    nd := S.nd }
theorem St.leave {h₀ : Heap} (S : St w h₀.get? σ₀ σ L m μ h) : Grow h₀ σ₀ h σ := ⟨S.kk, S.sub, S.fro, fun a o e => S.new a o e⟩
end

/-- the frame's names -/
def setm (m : Str → Option Value) (x : Str) (v : Value) : Str → Option Value := fun y => if y = x then some v else m y
theorem setm_same {m : Str → Option Value} {x : Str} {v : Value} : setm m x v x = some v := if_pos rfl
theorem setm_ne {m : Str → Option Value} {x y : Str} {v : Value} {o : Option Value} (hne : y ≠ x) (h : m y = o) : setm m x v y = o := (if_neg hne).trans h
def m0 : Str → Option Value := fun _ => none
def bindm (binds : List (Str × Value)) : Str → Option Value := binds.foldl (fun m p => setm m p.1 p.2) m0
theorem lookup_rev (binds : List (Str × Value)) : (fun x => binds.reverse.lookup x) = bindm binds := by
  have gen : ∀ (l : List (Str × Value)) (m : Str → Option Value), (fun x => (l.reverse.lookup x).or (m x)) = l.foldl (fun m p => setm m p.1 p.2) m := by
    intro l
    induction l with
    | nil => intro m; rfl
    | cons p r ih =>
      intro m
      rw [List.foldl_cons, ← ih]
      funext x
      rw [List.reverse_cons, List.lookup_append]
      unfold setm
      cases q : r.reverse.lookup x with
      | some v => rfl
      | none =>
        obtain ⟨n, v⟩ := p
        by_cases e : x = n
        · subst e; simp [List.lookup]
        · have : (x == n) = false := by simpa using e
          simp [List.lookup, this, e]
  have := gen binds m0
  unfold bindm
  rw [← this]
  funext x
  unfold m0
  cases binds.reverse.lookup x <;> rfl

/-- a Decimal without places -/
def DecR (w : World) (σ : PM) (v : Value) (n : Int) : Prop :=
  ∃ a d k1 k2 t1 t2 z, v = .ref a ∧ σ a = some (instObj 143 d) ∧
    σ d = some (dictOf [⟨PyData.keyHash w.params "top", .str "top" k1, .int n t1⟩, ⟨PyData.keyHash w.params "places", .str "places" k2, .int 0 t2⟩] z)
theorem DecR.mono {w : World} {σ σ' : PM} {v : Value} {n : Int} (x : DecR w σ v n) (hf : Le σ σ') : DecR w σ' v n :=
  let ⟨a, d, k1, k2, t1, t2, z, e, h1, h2⟩ := x; ⟨a, d, k1, k2, t1, t2, z, e, hf _ _ h1, hf _ _ h2⟩

/-- a glyph's data -/
structure G where
  t : Str
  x : Int
  y : Int
  w : Int
  s : Int

def GlyR (w : World) (σ : PM) (v : Value) (g : G) : Prop :=
  ∃ a d k1 k2 k3 k4 k5 t0 vx vy vw vs z, v = .ref a ∧ σ a = some (instObj 225 d) ∧
    σ d = some (dictOf [⟨PyData.keyHash w.params "text", .str "text" k1, .str g.t t0⟩, ⟨PyData.keyHash w.params "x", .str "x" k2, vx⟩, ⟨PyData.keyHash w.params "y", .str "y" k3, vy⟩,
      ⟨PyData.keyHash w.params "width", .str "width" k4, vw⟩, ⟨PyData.keyHash w.params "size", .str "size" k5, vs⟩] z) ∧
    DecR w σ vx g.x ∧ DecR w σ vy g.y ∧ DecR w σ vw g.w ∧ DecR w σ vs g.s
theorem GlyR.mono {w : World} {σ σ' : PM} {v : Value} {g : G} (x : GlyR w σ v g) (hf : Le σ σ') : GlyR w σ' v g :=
  let ⟨a, d, k1, k2, k3, k4, k5, t0, vx, vy, vw, vs, z, e, h1, h2, h3, h4, h5, h6⟩ := x
  ⟨a, d, k1, k2, k3, k4, k5, t0, vx, vy, vw, vs, z, e, hf _ _ h1, hf _ _ h2, h3.mono hf, h4.mono hf, h5.mono hf, h6.mono hf⟩

theorem inst_of {σ : PM} {h : Heap} {a C d : Addr} {od : Obj} (hf : Le σ h.get?) (h1 : σ a = some (instObj C d)) (h2 : σ d = some od) : InstAt h a (instObj C d) C (some od) :=
  ⟨hf _ _ h1, rfl, rfl, hf _ _ h2⟩
theorem DecR.handed {w : World} {σ : PM} {v : Value} {n : Int} (x : DecR w σ v n) : handedIn v = true := let ⟨_, _, _, _, _, _, _, e, _⟩ := x; e ▸ rfl

section
variable {w : World} {A : Around} {E : Value → Shared → Prop} {s : Shared} {κ σ₀ σ : PM} {L : Addr} {m : Str → Option Value} {μ : List (Addr × Obj)} {v : Value} {n : Int} {g : G} {expr : Bool} {pl : Sem Bool}

theorem a_top {Q : Value → Shared → Prop} (S : St w κ σ₀ σ L m μ s.heap) (D : DecR w σ v n) (h : ∀ t, Q (.int n t) { s with toks := s.toks + 1 }) :
    wpAny (model PySem.Challenge.rw_pb0474_01.row.prog w) A (getAttr v "top" expr) Q E s := by
  obtain ⟨a, d, k1, k2, t1, t2, z, rfl, h1, h2⟩ := D
  refine' get_value (K := hd.heap_1 w.params) (C := 143) S.inn (inst_of S.fro h1 h2) ?a (findObj_own ?b ?c ?d ?e) rfl (h t1)
  case a => rfl
  case b => rfl
  case c => rfl
  case d => rfl
  case e => rfl

theorem a_places {Q : Value → Shared → Prop} (S : St w κ σ₀ σ L m μ s.heap) (D : DecR w σ v n) (h : ∀ t, Q (.int 0 t) { s with toks := s.toks + 1 }) :
    wpAny (model PySem.Challenge.rw_pb0474_01.row.prog w) A (getAttr v "places" expr) Q E s := by
  obtain ⟨a, d, k1, k2, t1, t2, z, rfl, h1, h2⟩ := D
  refine' get_value (K := hd.heap_1 w.params) (C := 143) S.inn (inst_of S.fro h1 h2) ?a (findObj_own ?b ?c ?d ?e) rfl (h t2)
  case a => rfl
  case b => rfl
  case c => rfl
  case d => rfl
  case e => rfl
theorem d_meth {name : Str} {f : Addr} {Q : Value × List Value → Shared → Prop} (S : St w κ σ₀ σ L m μ s.heap) (D : DecR w σ v n)
    (hf : findIn (hd.heap_1 w.params) (.ref 143) name = some (some (.ref f))) (ht : typeIn (hd.heap_1 w.params) (.ref f) = some (.type "function"))
    (hs : name ≠ "top" ∧ name ≠ "places") (h : Q (.ref f, [v]) s) :
    wpAny (model PySem.Challenge.rw_pb0474_01.row.prog w) A (getMethod v name pl) Q E s := by
  obtain ⟨a, d, k1, k2, t1, t2, z, rfl, h1, h2⟩ := D
  refine' method_fn (K := hd.heap_1 w.params) (C := 143) S.inn (inst_of S.fro h1 h2) ?a ?b hf ht ?c h
  case a => rfl
  case b => rfl
  case c =>
    show (lookIn name (dictOf _ _)).map _ = _
    rw [lookIn_dict]
    have e1 : (name == ("top" : Str)) = false := by simpa using hs.1
    have e2 : (name == ("places" : Str)) = false := by simpa using hs.2
    have e1' : (("top" : Str) == name) = false := by simpa using Ne.symm hs.1
    have e2' : (("places" : Str) == name) = false := by simpa using Ne.symm hs.2
    simp only [getL, List.find?_cons, Value.isStr, List.find?_nil, List.any_cons, List.any_nil, e1', e2', DictEntry.refKey, Value.isRef]
    rfl
theorem g_text {Q : Value → Shared → Prop} (S : St w κ σ₀ σ L m μ s.heap) (D : GlyR w σ v g) (h : ∀ t, Q (.str g.t t) { s with toks := s.toks + 1 }) :
    wpAny (model PySem.Challenge.rw_pb0474_01.row.prog w) A (getAttr v "text" expr) Q E s := by
  obtain ⟨a, d, k1, k2, k3, k4, k5, t0, vx, vy, vw, vs, z, rfl, h1, h2, h3, h4, h5, h6⟩ := D
  refine' get_value (K := hd.heap_1 w.params) (C := 225) S.inn (inst_of S.fro h1 h2) ?a (findObj_own ?b ?c ?d ?e) rfl (h t0)
  case a => rfl
  case b => rfl
  case c => rfl
  case d => rfl
  case e => rfl
theorem g_x {Q : Value → Shared → Prop} (S : St w κ σ₀ σ L m μ s.heap) (D : GlyR w σ v g) (h : ∀ u, DecR w σ u g.x → Q u { s with toks := s.toks + 1 }) :
    wpAny (model PySem.Challenge.rw_pb0474_01.row.prog w) A (getAttr v "x" expr) Q E s := by
  obtain ⟨a, d, k1, k2, k3, k4, k5, t0, vx, vy, vw, vs, z, rfl, h1, h2, h3, h4, h5, h6⟩ := D
  refine' get_value (K := hd.heap_1 w.params) (C := 225) S.inn (inst_of S.fro h1 h2) ?a (findObj_own ?b ?c ?d ?e) h3.handed (h vx h3)
  case a => rfl
  case b => rfl
  case c => rfl
  case d => rfl
  case e => rfl
theorem g_y {Q : Value → Shared → Prop} (S : St w κ σ₀ σ L m μ s.heap) (D : GlyR w σ v g) (h : ∀ u, DecR w σ u g.y → Q u { s with toks := s.toks + 1 }) :
    wpAny (model PySem.Challenge.rw_pb0474_01.row.prog w) A (getAttr v "y" expr) Q E s := by
  obtain ⟨a, d, k1, k2, k3, k4, k5, t0, vx, vy, vw, vs, z, rfl, h1, h2, h3, h4, h5, h6⟩ := D
  refine' get_value (K := hd.heap_1 w.params) (C := 225) S.inn (inst_of S.fro h1 h2) ?a (findObj_own ?b ?c ?d ?e) h4.handed (h vy h4)
  case a => rfl
  case b => rfl
  case c => rfl
  case d => rfl
  case e => rfl
theorem g_w {Q : Value → Shared → Prop} (S : St w κ σ₀ σ L m μ s.heap) (D : GlyR w σ v g) (h : ∀ u, DecR w σ u g.w → Q u { s with toks := s.toks + 1 }) :
    wpAny (model PySem.Challenge.rw_pb0474_01.row.prog w) A (getAttr v "width" expr) Q E s := by
  obtain ⟨a, d, k1, k2, k3, k4, k5, t0, vx, vy, vw, vs, z, rfl, h1, h2, h3, h4, h5, h6⟩ := D
  refine' get_value (K := hd.heap_1 w.params) (C := 225) S.inn (inst_of S.fro h1 h2) ?a (findObj_own ?b ?c ?d ?e) h5.handed (h vw h5)
  case a => rfl
  case b => rfl
  case c => rfl
  case d => rfl
  case e => rfl
theorem g_s {Q : Value → Shared → Prop} (S : St w κ σ₀ σ L m μ s.heap) (D : GlyR w σ v g) (h : ∀ u, DecR w σ u g.s → Q u { s with toks := s.toks + 1 }) :
    wpAny (model PySem.Challenge.rw_pb0474_01.row.prog w) A (getAttr v "size" expr) Q E s := by
  obtain ⟨a, d, k1, k2, k3, k4, k5, t0, vx, vy, vw, vs, z, rfl, h1, h2, h3, h4, h5, h6⟩ := D
  refine' get_value (K := hd.heap_1 w.params) (C := 225) S.inn (inst_of S.fro h1 h2) ?a (findObj_own ?b ?c ?d ?e) h6.handed (h vs h6)
  case a => rfl
  case b => rfl
  case c => rfl
  case d => rfl
  case e => rfl
end

section
variable {w : World} {prog : Program} {A : Around} {E : Value → Shared → Prop} {s : Shared} {κ σ₀ σ : PM} {L : Addr} {m : Str → Option Value} {μ : List (Addr × Obj)} {env : Env}

theorem n_loc {M : Model} {x : Str} {pos : Pos} {v : Value} {Q : Value → Shared → Prop} (S : St w κ σ₀ σ L m μ s.heap) (hL : env.locals = L) (hv : m x = some v) (hk : env.scope.kind = .function) (hl : env.kindOf x = some .local)
    (hd : (x == ("__debug__" : Str)) = false) (h : Q v s) : wpAny M A (eval (.Name x pos) env) Q E s :=
  wpAny_Name (wpAny_loadName_local hk hl (hL ▸ S.ns) hv h) hd
theorem n_ld {M : Model} {x : Str} {v : Value} {Q : Value → Shared → Prop} (S : St w κ σ₀ σ L m μ s.heap) (hL : env.locals = L) (hv : m x = some v) (hk : env.scope.kind = .function) (hl : env.kindOf x = some .local)
    (h : Q v s) : wpAny M A (loadName env x) Q E s :=
  wpAny_loadName_local hk hl (hL ▸ S.ns) hv h
theorem n_glob {M : Model} {x : Str} {pos : Pos} {v : Value} {Q : Value → Shared → Prop} (S : St w κ σ₀ σ L m μ s.heap) (hk : env.scope.kind = .function) (hx : env.kindOf x = some .globalImplicit) (hg : env.globals = mainGlobals)
    (hd : (x == ("__debug__" : Str)) = false) (e : nsIn (Mine.hd.heap_1 w.params) mainGlobals x = some (some v)) (h : Q v s) : wpAny M A (eval (.Name x pos) env) Q E s := by
  obtain ⟨mg, G⟩ := S.base.g
  have G' := G.ns S.fro
  exact Name_function_global hk hx (loadGlobal_global (hg ▸ G') (mg_of S.inn G' e) h) hd
theorem n_blt {M : Model} {x : Str} {pos : Pos} {v : Value} {Q : Value → Shared → Prop} (S : St w κ σ₀ σ L m μ s.heap) (hk : env.scope.kind = .function) (hx : env.kindOf x = some .globalImplicit) (hg : env.globals = mainGlobals) (hb : env.builtins = builtinsNs)
    (hd : (x == ("__debug__" : Str)) = false) (e : nsIn (Mine.hd.heap_1 w.params) mainGlobals x = some none) (hv : bootBuiltins x = some v) (hn : x ≠ "__name__") (h : Q v s) : wpAny M A (eval (.Name x pos) env) Q E s := by
  obtain ⟨mg, G⟩ := S.base.g
  obtain ⟨mb, B, r⟩ := S.base.b
  have G' := G.ns S.fro
  exact Name_function_global hk hx (loadGlobal_builtin (hg ▸ G') (mg_none_of S.inn G' e) (hb ▸ B.ns S.fro) ((r x hn).trans hv) h) hd
theorem n_st {M : Model} {x : Str} {v : Value} {Q : Unit → Shared → Prop} (S : St w κ σ₀ σ L m μ s.heap) (hL : env.locals = L) (hl : env.kindOf x = some .local)
    (hp : (env.scope.kind == .class || (env.scope.kind == .module && env.locals != env.globals)) = false)
    (h : ∀ h', St w κ σ₀ σ L (setm m x v) μ h' → Q () { s with heap := h', toks := s.toks + 1 }) : wpAny M A (storeName env x v) Q E s :=
  wpAny_storeName_local hl (hL ▸ S.ns) (fun h' hn hs => h h' (S.store (hL ▸ hn) (hL ▸ hs))) hp
theorem n_callK {f : Addr} {pos : Pos} {first : List Value} {e : Expr} {rest : List Expr} {Q : Value → Shared → Prop} (S : St w κ σ₀ σ L m μ s.heap) (hk : keepIn (hd.heap_1 w.params) (.ref f) = true)
    (h : wpAny (model prog w) A (spliced (backTo pos (starEach (e :: rest) env))) (fun vs s₁ => (hd.heap_1 w.params).In s₁.heap ∧ wpAny (model prog w) A (call (.ref f) (first ++ vs)) Q E s₁) E s)
    (he : starEach (e :: rest) env = (false, eval e env) :: starEach rest env) (hplain : (backTo pos (starEach rest env)).any (·.1) = false) :
    wpAny (model prog w) A (callWith pos (.ref f) first (backTo pos (starEach (e :: rest) env)) []) Q E s :=
  callWith_K S.inn hk h he hplain
theorem n_callK0 {f : Addr} {pos : Pos} {first : List Value} {Q : Value → Shared → Prop} (S : St w κ σ₀ σ L m μ s.heap) (hk : keepIn (hd.heap_1 w.params) (.ref f) = true)
    (h : wpAny (model prog w) A (call (.ref f) (first ++ [])) Q E s) : wpAny (model prog w) A (callWith pos (.ref f) first (backTo pos (starEach [] env)) []) Q E s :=
  callWith_K0 S.inn hk h
theorem n_in {Q : Prop} {hh : Heap} (S : St w κ σ₀ σ L m μ hh) (h : Q) : (hd.heap_1 w.params).In hh ∧ Q := ⟨S.inn, h⟩
theorem n_tup {M : Model} {vs : List Value} {Q : Value → Shared → Prop} (S : St w κ σ₀ σ L m μ s.heap)
    (h : ∀ a h' σ', Le σ σ' → σ' a = some ({ cls := .type "tuple", data := .seq vs.toArray } : Obj) → Grow s.heap σ h' σ' → St w κ σ₀ σ' L m μ h' → Q (.ref a) { s with heap := h' }) (hsz : vs.length ≤ sizeLine) :
    wpAny M A (newTuple vs) Q E s := by
  have hn := S.fro.none_size (Nat.le_refl s.heap.objs.size)
  have G : Grow s.heap σ (s.heap.push { cls := .type "tuple", data := .seq vs.toArray }) (upd σ s.heap.objs.size { cls := .type "tuple", data := .seq vs.toArray }) :=
    ⟨push_le _ _, upd_le hn, (S.pushF rfl).fro, fun a o e => by
      unfold upd at e; split at e
      · rename_i q; exact .inr (q ▸ get_none_size (Nat.le_refl _))
      · exact .inl e⟩
  exact wpAny_newObj_type (h _ _ _ (upd_le hn) (upd_same _ _ _) G (S.pushF rfl)) (by show vs.toArray.size ≤ sizeLine; rw [List.size_toArray]; exact hsz)
theorem n_list {M : Model} {vs : List Value} {Q : Value → Shared → Prop} (S : St w κ σ₀ σ L m μ s.heap)
    (h : ∀ a h', St w κ σ₀ σ L m ((a, listOf vs.toArray 0) :: μ) h' → Le s.heap.get? h'.get? → Q (.ref a) { s with heap := h' }) (hsz : vs.length ≤ sizeLine) :
    wpAny M A (newList vs) Q E s :=
  wpAny_newObj_type (h _ _ (S.pushM rfl) (push_le _ _)) (by show vs.toArray.size ≤ sizeLine; rw [List.size_toArray]; exact hsz)

/-- a def of the text is entered -/
theorem enter {name qual : Str} {params : Arguments} {body : List Stmt} {scope : Scope} {dV kV doc pm cdv ct oc : Value} {an od : Option Addr} {osl : Array (Option Value)} {f : Addr} {args : Args} {binds : List (Str × Value)} {R : Result → Shared → Prop}
    (B : BaseS w σ) (hf : Le σ s.heap.get?) (ho : (hd.heap_1 w.params).lookup f = some ⟨oc, od, .func (fnOf name qual params body scope dV kV doc pm an cdv ct), osl⟩) (hcd : codeIn (hd.heap_1 w.params) cdv qual = true)
    (hroom : A.depth < recursionLimit) (hbind : BindsTo s (fnOf name qual params body scope dV kV doc pm an cdv ct) args binds) (hloc : ∀ y ∈ binds, scope.names.lookup y.1 = some .local) (hcell : ∀ x ∈ scope.names, x.2 ≠ .cell)
    (hco : scope.isCoroutine = false) (hgen : scope.isGenerator = false) (hk : scope.kind = .function)
    (h : ∀ L h₁, St w s.heap.get? σ σ L (bindm binds) [] h₁ → L = s.heap.objs.size →
      wpAny (model prog w) (A.deeper (envOf qual scope L f cdv)) (execs body (envOf qual scope L f cdv)) (fun fl s' => R (.ok (.ret (match fl with | .ret v => v | _ => .none))) s') Zf
        { s with heap := h₁, toks := s.toks + binds.length }) :
    codeAny (model prog w) A (.call (.ref f) args) R s := by
  refine codeAny_call_def (fd := fnOf name qual params body scope dV kV doc pm an cdv ct) (body := body) (binds := binds) hroom (hf _ _ (B.k _ _ ho)) rfl (B.lim hf) (codeRec_of (B.inn hf) hcd) rfl hbind hcell hloc (fun h₁ hns hk₁ => ?_) hco hgen hk
  refine zf (h s.heap.objs.size h₁ ?_ rfl)
  exact {
    base := B, kk := hk₁, fro := hf.trans hk₁, ns := by rw [← lookup_rev]; exact hns, kL := get_none_size (Nat.le_refl _), sL := hf.none_size (Nat.le_refl _)
    mu := fun p hp => (nomatch hp), nd := List.nodup_nil, sub := Le.refl _, new := fun a o e => .inl e }
end

/-- room for k calls within calls -/
structure Rm (A : Around) (k : Nat) : Prop where
  hd : A.handled = none
  dp : A.depth + 10 * k < 900
  un : A.units + 10 * k < 9000
theorem Rm.call {A : Around} {k j : Nat} {env : Env} (h : Rm A k) (hk : j + 1 ≤ k) : Rm (A.deeper env) j :=
  ⟨h.hd, by have := h.dp; show A.depth + 1 + 10 * j < 900; omega, by have := h.un; show A.units + 3 + 10 * j < 9000; omega⟩
theorem Rm.le {A : Around} {k j : Nat} (h : Rm A k) (hk : j ≤ k) : Rm A j := ⟨h.hd, by have := h.dp; omega, by have := h.un; omega⟩
theorem Rm.in1 {A : Around} {k j : Nat} (h : Rm A k) (hk : j + 1 ≤ k) : Rm A.in1 j :=
  ⟨h.hd, by have := h.dp; show A.depth + 10 * j < 900; omega, by have := h.un; show A.units + 1 + 10 * j < 9000; omega⟩
theorem Rm.room {A : Around} {k : Nat} (h : Rm A k) : A.depth < recursionLimit := by have := h.dp; show A.depth < 1000; omega
theorem Rm.make {A : Around} {k : Nat} {C : Addr} {rest : List Value} (h : Rm A k) : (A.under (.builtin "type.__call__" ⟨.ref C :: rest, []⟩)).depth < recursionLimit := by
  have := h.dp
  rw [depth_under_make]
  show A.depth + 1 < 1000
  omega
theorem Grow.add {h h' : Heap} {σ σ' : PM} {a : Addr} {o : Obj} (x : Grow h σ h' σ') (hσ : Le σ h.get?) (h0 : h.get? a = none) (h1 : h'.get? a = some o) : Grow h σ h' (upd σ' a o) where
  keep := x.keep
  sub := fun b o' e => by
    unfold upd; split
    · rename_i q; subst q; have := hσ _ _ e; rw [h0] at this; cases this
    · exact x.sub _ _ e
  fro := fun b o' e => by
    unfold upd at e; split at e
    · rename_i q; cases e; rw [q]; exact h1
    · exact x.fro _ _ e
  new := fun b o' e => by
    unfold upd at e; split at e
    · rename_i q; exact .inr (q ▸ h0)
    · exact x.new _ _ e
theorem Grow.of_keep {h h' : Heap} {σ : PM} (hσ : Le σ h.get?) (k : Le h.get? h'.get?) : Grow h σ h' σ := ⟨k, Le.refl _, hσ.trans k, fun _ _ e => .inl e⟩
theorem Rm.units {A : Around} {k : Nat} (h : Rm A k) : A.units < cLine := by have := h.un; show A.units < 9900; omega

section
variable {w : World} {prog : Program} {A : Around} {E : Value → Shared → Prop} {s : Shared} {κ σ₀ σ : PM} {L : Addr} {m : Str → Option Value} {μ : List (Addr × Obj)} {env : Env}
theorem at_St {α : Type} {M : Model} {t : Sem α} {Q : α → Shared → Prop} (S : St w κ σ₀ σ L m μ s.heap) (h : BaseS w σ → Le σ s.heap.get? → wpAny M A t Q E s) : wpAny M A t Q E s := h S.base S.fro
theorem isi_dec {v : Value} {n : Int} {Q : Value → Shared → Prop} (S : St w κ σ₀ σ L m μ s.heap) (D : DecR w σ v n) (h : Q (.bool true) s) : wpAny (model prog w) A (call (.builtin "isinstance") [v, .ref 143]) Q E s := by
  obtain ⟨a, d, k1, k2, t1, t2, z, rfl, h1, h2⟩ := D
  exact isi_call S.inn (fun M => InstAt.type (inst_of S.fro h1 h2)) rfl (by intro e; cases e) h
end

section
variable {w : World} {prog : Program} {A : Around} {E : Value → Shared → Prop} {s : Shared} {K : Frag} {C : Addr}
theorem cls_isType {M : Model} {h : Heap} {cd : ClassData} (X : K.In h) (hc : clsIn K C = some cd) : Looks M h (isType (.ref C)) true := by
  unfold clsIn at hc
  split at hc
  · rename_i c' d' cd' sl' ho
    intro A' Q' E' s' k q
    unfold isType loadHead
    exact wpAny_bind (wpAny_loadPart (k _ _ (X _ _ ho)) (wpAny_pure q))
  · cases hc
theorem isi_no_nested {n : Int} {u : Tok} {dep : Int} {tk : Tok} {Q : Fin → Shared → Prop} (X : K.In s.heap) (hc' : (clsIn K C).isSome = true) (hty : typeIn K (.ref C) = some (.type "type")) (hsub : subIn K (.type "int") (.ref C) = some false)
    (h : Q (.done (.ret (.bool false))) { s with toks := s.toks + 1 }) : wpAny (model prog w) A (Builtin.«isinstance.nested» ⟨[.int n u, .ref C, .int dep tk], []⟩) Q E s := by
  obtain ⟨cd, hc⟩ := Option.isSome_iff_exists.mp hc'
  obtain ⟨h0, g, d, tt, os⟩ := s
  have L0 : Looks (model prog w) h0 (typeOf (.int n u)) (.type "int") := Looks.of_pure rfl
  have LS := looks_subIn (M := model prog w) X hsub
  have LI : Looks (model prog w) h0 (isInstance (.int n u) (.ref C)) false := L0.andThen LS
  unfold Builtin.«isinstance.nested»
  refine wpAny_bind (L0.at ?_)
  rw [if_neg (fun q => by cases eq_of_beq q)]
  refine wpAny_bind ((looks_typeIn X hty).at ?_)
  rw [if_pos (by decide)]
  k_delta "plainIsInstance"
  refine wpAny_bind (wpAny_bind ((cls_isType X hc).at ?_))
  simp only [Bool.not_true, Bool.false_eq_true, if_false]
  refine wpAny_bind (LI.at ?_)
  simp only [Bool.false_eq_true, if_false]
  refine wpAny_bind (class_attr_int ?_)
  refine wpAny_bind (wpAny_pure ?_)
  simp only [Bool.not_true, Bool.false_eq_true, if_false]
  refine wpAny_bind (wpAny_rule ?_)
  refine LS.at ?_
  first
    | exact wpAny_pure h
    | exact wpAny_pure (wpAny_pure h)
    | exact wpAny_bind (wpAny_pure (wpAny_pure h))
end
section
variable {w : World} {prog : Program} {A : Around} {E : Value → Shared → Prop} {s : Shared} {κ σ₀ σ : PM} {L : Addr} {m : Str → Option Value} {μ : List (Addr × Obj)} {env : Env}
theorem isi_int_no {n : Int} {u : Tok} {Q : Value → Shared → Prop} (S : St w κ σ₀ σ L m μ s.heap) (h : Q (.bool false) { s with toks := s.toks + 1 }) : wpAny (model prog w) A (call (.builtin "isinstance") [.int n u, .ref 143]) Q E s := by
  refine call_isinstance (S := fun _ R s => (hd.heap_1 w.params).In s.heap ∧ R (.ok (.ret (.bool false))) { s with toks := s.toks + 1 }) (fun _ _ _ _ _ hs => isinstance_outer (isi_no_nested (K := hd.heap_1 w.params) hs.1 ?a ?b ?c hs.2) (by intro e; cases e)) ⟨S.inn, h⟩
  case a => rfl
  case b => rfl
  case c => rfl
end
theorem b_bool : bootBuiltins "bool" = some (.type "bool") := rfl
theorem b_int : bootBuiltins "int" = some (.type "int") := rfl
theorem b_len : bootBuiltins "len" = some (.builtin "len") := rfl
theorem b_list : bootBuiltins "list" = some (.type "list") := rfl
theorem b_range : bootBuiltins "range" = some (.type "range") := rfl
theorem b_sorted : bootBuiltins "sorted" = some (.builtin "sorted") := rfl
theorem b_max : bootBuiltins "max" = some (.builtin "max") := rfl
theorem b_min : bootBuiltins "min" = some (.builtin "min") := rfl
theorem b_tuple : bootBuiltins "tuple" = some (.type "tuple") := rfl
theorem b_isinstance : bootBuiltins "isinstance" = some (.builtin "isinstance") := rfl

theorem hd_deeper {A : Around} {env : Env} (h : A.handled = none) : (A.deeper env).handled = none := h
theorem ext_le {h h' : Heap} (x : Heap.ExtBut h.objs.size h h') : Le h.get? h'.get? := fun a o e => x a o (Nat.ne_of_lt (Heap.lt_size e)) e
section
variable {w : World} {prog : Program} {A : Around} {E : Value → Shared → Prop} {s : Shared} {κ σ₀ σ : PM} {L : Addr} {m : Str → Option Value} {μ : List (Addr × Obj)} {env : Env}
theorem n_max0 {t u : Tok} {Q : Value → Shared → Prop} (hh : A.handled = none) (S : St w κ σ₀ σ L m μ s.heap)
    (h : ∀ t' h' tk, St w κ σ₀ σ L m μ h' → Grow s.heap σ h' σ → Q (.int 0 t') { s with heap := h', toks := tk }) : wpAny (model prog w) A (call (.builtin "max") [.int 0 t, .int 0 u]) Q E s :=
  max_two_ints hh fun h' tk k => h t h' tk (S.keeps k) (.of_keep S.fro k)
theorem n_unpack {elts : List Expr} {x1} {pos : Pos} {a : Addr} {items : Array Value} {n : Nat} {Q : Unit → Shared → Prop} (S : St w κ σ₀ σ L m μ s.heap) (ht : σ a = some ({ cls := .type "tuple", data := .seq items n } : Obj)) (hh : A.handled = none)
    (hn : (assignEach elts env).length = items.size) (hstar : (assignEach elts env).findIdx? (·.1) = none)
    (h : ∀ h', St w κ σ₀ σ L m μ h' → wpAny (model prog w) A (assignInOrder ((assignEach elts env).map (·.2)) items.toList) Q E { s with heap := h' }) :
    wpAny (model prog w) A (assign (.Tuple elts x1 pos) env (.ref a)) Q E s :=
  assign_Tuple_tuple hh ⟨_, S.fro _ _ ht, rfl, n, rfl⟩ hn hstar fun h' he => h h' (S.keeps (ext_le he))
end

/-- what a walk writes is kept by the turn -/
def kx (κ : PM) (wr : List Addr) (h : Heap) : PM := fun a => if a ∈ wr then h.get? a else κ a
/-- the walk's own objects are nobody else's -/
structure Off (κ σ₀ σ : PM) (L : Addr) (μ : List (Addr × Obj)) (wr : List Addr) : Prop where
  k : ∀ b ∈ wr, κ b = none
  s0 : ∀ b ∈ wr, σ₀ b = none
  s : ∀ b ∈ wr, σ b = none
  l : ∀ b ∈ wr, b ≠ L
  m : ∀ b ∈ wr, ∀ p ∈ μ, p.1 ≠ b

section
variable {w : World} {κ σ₀ σ σ' : PM} {L : Addr} {m m' : Str → Option Value} {μ μ' : List (Addr × Obj)} {h h' : Heap} {o : Obj} {wr : List Addr}
theorem St.addW (S : St w κ σ₀ σ L m μ h) (O : Off κ σ₀ σ L μ wr) : St w (kx κ wr h) σ₀ σ L m μ h :=
  { S with
    kk := fun a o e => by
      unfold kx at e; split at e
      · exact e
      · exact S.kk _ _ e
    kL := by unfold kx; rw [if_neg (fun q => O.l _ q rfl)]; exact S.kL
    mu := fun p hp => ⟨(S.mu p hp).1, (S.mu p hp).2.1, by unfold kx; rw [if_neg (fun q => O.m _ q p hp rfl)]; exact (S.mu p hp).2.2.1, (S.mu p hp).2.2.2⟩
    new := fun a o e => (S.new a o e).imp id fun q => by unfold kx; rw [if_neg (fun r => by rw [O.s _ r] at e; cases e)]; exact q }
theorem St.offW (S : St w (kx κ wr h) σ₀ σ L m μ h') (hk : ∀ b ∈ wr, κ b = none) (h0 : ∀ b ∈ wr, σ₀ b = none) (ho : ∀ b ∈ wr, (h.get? b).isSome) : Off κ σ₀ σ L μ wr :=
  have some_ : ∀ b ∈ wr, kx κ wr h b ≠ none := fun b hb e => by
    unfold kx at e; rw [if_pos hb] at e
    have := ho b hb; rw [e] at this; cases this
  { k := hk
    s0 := h0
    s := fun b hb => by
      cases q : σ b with
      | none => rfl
      | some o => exact ((S.new _ _ q).elim (fun e => by rw [h0 b hb] at e; cases e) fun e => (some_ b hb e).elim)
    l := fun b hb e => some_ b hb (e ▸ S.kL)
    m := fun b hb p hp e => some_ b hb (e ▸ (S.mu p hp).2.2.1) }
theorem St.dropW (S : St w (kx κ wr h) σ₀ σ L m μ h') (hk : ∀ b ∈ wr, κ b = none) : St w κ σ₀ σ L m μ h' :=
  have out : ∀ a, kx κ wr h a = none → κ a = none := fun a e => by
    unfold kx at e; split at e
    · rename_i q; exact hk _ q
    · exact e
  { S with
    kk := fun a o e => S.kk a o (by unfold kx; rw [if_neg (fun q => by rw [hk _ q] at e; cases e)]; exact e)
    kL := out _ S.kL
    mu := fun p hp => ⟨(S.mu p hp).1, (S.mu p hp).2.1, out _ (S.mu p hp).2.2.1, (S.mu p hp).2.2.2⟩
    new := fun a o e => (S.new a o e).imp id (out a) }
theorem St.stepW (S : St w κ σ₀ σ L m μ h) (O : Off κ σ₀ σ L μ wr) (k : ∀ b o, b ∉ wr → h.get? b = some o → h'.get? b = some o) : St w κ σ₀ σ L m μ h' :=
  { S with
    kk := fun a o e => k a o (fun q => by rw [O.k _ q] at e; cases e) (S.kk _ _ e)
    fro := fun a o e => k a o (fun q => by rw [O.s _ q] at e; cases e) (S.fro _ _ e)
    ns := S.ns.at' fun o e => k L o (fun q => O.l _ q rfl) e
    mu := fun p hp => ⟨k _ _ (fun q => O.m _ q p hp rfl) (S.mu p hp).1, (S.mu p hp).2⟩ }
end

/-- a turn's end -/
def TEnd (w : World) (κ σ₀ σ : PM) (L : Addr) (s : Shared) (J : PM → (Str → Option Value) → List (Addr × Obj) → Prop) (s₂ : Shared) : Prop :=
  ∃ σ' m' μ' h tk, s₂ = { s with heap := h, toks := tk } ∧ Le σ σ' ∧ J σ' m' μ' ∧ St w κ σ₀ σ' L m' μ' h

def BEnd (f : Flow) (T : Prop) : Prop := f = .next ∧ T
section
variable {prog : Program} {w : World} {A : Around} {s : Shared} {R : Result → Shared → Prop} {κ σ₀ σ : PM} {L : Addr} {m : Str → Option Value} {μ : List (Addr × Obj)} {env : Env} {target : Expr} {body : List Stmt}
  {I : Addr} {fp wr : List Addr} {n : Nat} {P : Nat → Value → Prop} {Sx : Nat → Heap → Prop}
theorem loopW (W : Walks prog w A I fp wr n P Sx) (S : St w κ σ₀ σ L m μ s.heap) (hs : Sx 0 s.heap) (O : Off κ σ₀ σ L μ wr) (hfp : ∀ b ∈ fp, b ∈ wr ∨ (σ b).isSome)
    (hob : ∀ i h, Sx i h → ∀ b ∈ wr, (h.get? b).isSome)
    (hgo : ∀ i v (s' : Shared) (Q : Unit → Shared → Prop), Sx i s'.heap → Q () s' → wpAny (model prog w) A (letOwnedTupleGo target (.ref I) v) Q Zf s')
    (J : Nat → PM → (Str → Option Value) → List (Addr × Obj) → Prop) (h0 : J 0 σ m μ)
    (turn : ∀ i v σ' m' μ' κ' h tk, i < n → P i v → Le σ σ' → J i σ' m' μ' → St w κ' σ₀ σ' L m' μ' h →
      wpAny (model prog w) A (assign target env v) (fun _ s₁ => wpAny (model prog w) A (execs body env) (fun f s₂ => BEnd f (TEnd w κ' σ₀ σ' L s (J (i + 1)) s₂)) Zf s₁) Zf { s with heap := h, toks := tk })
    (done : ∀ σ' m' μ' h tk, Le σ σ' → J n σ' m' μ' → St w κ σ₀ σ' L m' μ' h → R (.ok .next) { s with heap := h, toks := tk }) :
    codeAny (model prog w) A (.forLoop target (.ref I) body [] env) R s := by
  refine codeAny_forLoop_any (fun k s' => ∃ i σ' m' μ' h tk, k = n - i ∧ i ≤ n ∧ s' = { s with heap := h, toks := tk } ∧ Sx i h ∧ Le σ σ' ∧ J i σ' m' μ' ∧ St w κ σ₀ σ' L m' μ' h ∧ Off κ σ₀ σ' L μ' wr) ?_ n
    ⟨0, σ, m, μ, s.heap, s.toks, by omega, by omega, rfl, hs, Le.refl _, h0, S, O⟩
  rintro k s' ⟨i, σ', m', μ', h, tk, rfl, hi, rfl, hx, hl, hj, S', O'⟩
  by_cases hlt : i < n
  · refine W.item i _ _ _ hlt hx fun v h₁ tk₁ hp hx₁ hk₁ => ?_
    dsimp only
    have S₁ := (S'.stepW O' hk₁).addW O'
    refine zf (hgo (i + 1) v { s with heap := h₁, toks := tk₁ } _ hx₁ ?_)
    refine wpAny_mono (turn i v σ' m' μ' _ h₁ tk₁ hlt hp hl hj S₁) (fun _ s₂ h₂ => ?_) fun _ _ x => x.elim
    refine wpAny_mono h₂ (fun f s₃ h₃ => ?_) fun _ _ x => x.elim
    obtain ⟨rfl, σ'', m'', μ'', h'', tk'', rfl, hl'', hj'', S''⟩ := h₃
    refine ⟨n - (i + 1), by omega, i + 1, σ'', m'', μ'', h'', tk'', rfl, hlt, rfl, ?_, hl.trans hl'', hj'', S''.dropW O'.k, S''.offW O'.k O'.s0 (hob _ _ hx₁)⟩
    refine W.frame _ _ _ hx₁ fun b hb o e => ?_
    by_cases q : b ∈ wr
    · exact S''.kk b o (by unfold kx; rw [if_pos q]; exact e)
    · rcases hfp b hb with q' | q'
      · exact absurd q' q
      · obtain ⟨o', e'⟩ := Option.isSome_iff_exists.mp q'
        have e1 := S₁.fro _ _ (hl _ _ e')
        rw [e1] at e; cases e
        exact S''.fro _ _ (hl'' _ _ (hl _ _ e'))
  · have : i = n := by omega
    subst this
    refine W.done _ _ _ hx fun h₁ tk₁ hk₁ => ?_
    exact wpAny_execs_nil (done σ' m' μ' h₁ tk₁ hl hj (S'.stepW O' hk₁))
end
theorem go_name {x : Str} {p : Pos} {prog : Program} {w : World} {A : Around} {it v : Value} {s : Shared} {Q : Unit → Shared → Prop} (h : Q () s) : wpAny (model prog w) A (letOwnedTupleGo (.Name x p) it v) Q Zf s := wpAny_pure h

section
variable {prog : Program} {w : World} {A : Around} {E : Value → Shared → Prop} {s : Shared} {env : Env} {target iter : Expr} {body : List Stmt} {pos : Pos}
theorem for_ {Q : Flow → Shared → Prop} (hs : ∀ x, foldedSetIterable iter env x = pure x)
    (h : wpAny (model prog w) A (eval iter env) (fun xv s₁ => wpAny (model prog w) A (pyIter xv) (fun it s₂ => codeAny (model prog w) A (.forLoop target it body [] env) (fun r s' => match r with | .ok f => Q f s' | .error _ => False) s₂) Zf s₁) Zf s) :
    wpAny (model prog w) A (exec (.For target iter body [] pos) env) Q E s := by
  refine zf ?_
  show wpAny _ _ (do standAt pos; let x ← foldedSetIterable iter env (← eval iter env); standAt iter.pos; runOwn (.forLoop target (← holding [x] (pyIter x)) body [] env) env) _ _ _
  refine wpAny_bind (wpAny_standAt (wpAny_bind (wpAny_mono h (fun xv s₁ h₁ => ?_) fun _ _ x => x)))
  rw [hs]
  refine wpAny_bind (wpAny_pure (wpAny_bind (wpAny_standAt (wpAny_bind (wpAny_holding (wpAny_mono h₁ (fun it s₂ h₂ => ?_) fun _ _ x => x))))))
  refine wpAny_runOwn (codeAny_mono h₂ fun r s' hr => ?_)
  cases r with
  | ok f => exact hr
  | error e => exact hr.elim
end


theorem go_any {target : Expr} {prog : Program} {w : World} {A : Around} {I : Addr} {v : Value} {s : Shared} {o : Obj} {n : String} {Q : Unit → Shared → Prop} (ho : s.heap.get? I = some o) (hc : o.cls = .type n)
    (hn : (["enumerate", "zip", "dict_itemiterator", "dict_reverseitemiterator", "odict_iterator", "itertools.zip_longest", "itertools.pairwise"] : List String).contains n = false) (h : Q () s) :
    wpAny (model prog w) A (letOwnedTupleGo target (.ref I) v) Q Zf s := by
  have core : wpAny (model prog w) A (letOwnedTupleGo (.Tuple [] 0 default) (.ref I) v) Q Zf s := by
    unfold letOwnedTupleGo
    dsimp only
    cases v <;> first | exact wpAny_pure h | skip
    dsimp only
    refine wpAny_bind (wpAny_load ho ?_)
    rw [hc]
    cases o.data <;> dsimp only <;> first | exact wpAny_pure h | skip
    rw [hn]
    simp only [Bool.false_and, Bool.false_eq_true, if_false]
    exact wpAny_pure h
  cases target <;> first | exact wpAny_pure h | exact core

/-- a thing to walk over: n items, P tells them -/
def Src (prog : Program) (w : World) (A : Around) (σ : PM) (xv : Value) (s : Shared) (n : Nat) (P : Nat → Value → Prop) : Prop :=
  ∀ (Q : Value → Shared → Prop), (∀ (o : Obj) (fp : List Addr) (Sx : Nat → Heap → Prop), o.isFreed = false → Walks prog w A s.heap.objs.size fp [s.heap.objs.size] n P Sx → Sx 0 (s.heap.push o) →
      (∀ b ∈ fp, b = s.heap.objs.size ∨ (σ b).isSome) → (∀ i h, Sx i h → (h.get? s.heap.objs.size).isSome) →
      (∀ target i v (s' : Shared) (Q : Unit → Shared → Prop), Sx i s'.heap → Q () s' → wpAny (model prog w) A (letOwnedTupleGo target (.ref s.heap.objs.size) v) Q Zf s') →
      Q (.ref s.heap.objs.size) { s with heap := s.heap.push o }) → wpAny (model prog w) A (pyIter xv) Q Zf s

section
variable {prog : Program} {w : World} {A : Around} {s : Shared} {κ σ₀ σ : PM} {L : Addr} {m : Str → Option Value} {μ : List (Addr × Obj)}
theorem src_list {l : Addr} {vs : List Value} {nn : Nat} (hh : A.handled = none) (S : St w κ σ₀ σ L m μ s.heap) (hl : σ l = some (listOf vs.toArray nn)) : Src prog w A σ (.ref l) s vs.length (fun i v => vs[i]? = some v) := by
  intro Q hQ
  have hls : s.heap.IsList l vs.toArray := ⟨_, S.fro _ _ hl, rfl, nn, rfl⟩
  have hlt : l < s.heap.objs.size := Heap.lt_size (S.fro _ _ hl)
  refine wpAny_pyIter_list hls (hQ _ [s.heap.objs.size, l] (fun i h => h.IsListIter s.heap.objs.size l i ∧ h.IsList l vs.toArray) rfl ?_ ?_ ?_ ?_ ?_)
  · have := Walks.list (prog := prog) (w := w) hh s.heap.objs.size l (Nat.ne_of_lt hlt) vs.toArray
    simpa using this
  · exact ⟨⟨_, Heap.get?_push_size _ rfl, rfl, rfl⟩, hls.at fun o e => Heap.get?_push_of_some _ e⟩
  · intro b hb
    rcases List.mem_cons.mp hb with rfl | hb
    · exact .inl rfl
    · rw [List.mem_singleton.mp hb, hl]; exact .inr rfl
  · rintro i h ⟨⟨o, ho, _⟩, _⟩; rw [ho]; rfl
  · rintro target i v s' Q ⟨⟨o, ho, hc, _⟩, _⟩ hq
    exact go_any ho hc (by decide) hq
theorem src_tuple {l : Addr} {vs : List Value} {nn : Nat} (hh : A.handled = none) (S : St w κ σ₀ σ L m μ s.heap) (hl : σ l = some ({ cls := .type "tuple", data := .seq vs.toArray nn } : Obj)) :
    Src prog w A σ (.ref l) s vs.length (fun i v => vs[i]? = some v) := by
  intro Q hQ
  have hls : s.heap.IsTuple l vs.toArray := ⟨_, S.fro _ _ hl, rfl, nn, rfl⟩
  have hlt : l < s.heap.objs.size := Heap.lt_size (S.fro _ _ hl)
  refine wpAny_pyIter_tuple hls (hQ _ [s.heap.objs.size, l] (fun i h => h.IsTupleIter s.heap.objs.size l i ∧ h.IsTuple l vs.toArray) rfl ?_ ?_ ?_ ?_ ?_)
  · have := Walks.tuple (prog := prog) (w := w) hh s.heap.objs.size l (Nat.ne_of_lt hlt) vs.toArray
    simpa using this
  · exact ⟨⟨_, Heap.get?_push_size _ rfl, rfl, rfl⟩, hls.at fun o e => Heap.get?_push_of_some _ e⟩
  · intro b hb
    rcases List.mem_cons.mp hb with rfl | hb
    · exact .inl rfl
    · rw [List.mem_singleton.mp hb, hl]; exact .inr rfl
  · rintro i h ⟨⟨o, ho, _⟩, _⟩; rw [ho]; rfl
  · rintro target i v s' Q ⟨⟨o, ho, hc, _⟩, _⟩ hq
    exact go_any ho hc (by decide) hq
theorem src_str {x : Str} {t : Tok} (hh : A.handled = none) : Src prog w A σ (.str x t) s x.cps.size (SignAt x) := by
  intro Q hQ
  cases ha : x.cps.all (· < 128)
  · refine wpAny_pyIter_wide ha (hQ _ [s.heap.objs.size] _ rfl (Walks.strWide hh _ x t) ⟨_, Heap.get?_push_size _ rfl, rfl, rfl⟩ (fun b hb => .inl (List.mem_singleton.mp hb)) ?_ ?_)
    · rintro i h ⟨o, ho, _⟩; rw [ho]; rfl
    · rintro target i v s' Q ⟨o, ho, hc, _⟩ hq
      exact go_any ho hc (by decide) hq
  · refine wpAny_pyIter_ascii ha (hQ _ [s.heap.objs.size] _ rfl (Walks.strAscii hh _ x t) ⟨_, Heap.get?_push_size _ rfl, rfl, rfl⟩ (fun b hb => .inl (List.mem_singleton.mp hb)) ?_ ?_)
    · rintro i h ⟨o, ho, _⟩; rw [ho]; rfl
    · rintro target i v s' Q ⟨o, ho, hc, _⟩ hq
      exact go_any ho hc (by decide) hq
theorem src_range {r : Addr} {a b : Int} {t u v : Tok} {n : Nat} (hh : A.handled = none) (hr : IsRange s.heap r a b 1 t u v) (hsmall : Builtin.Range.small a b 1 = true) (hsz : Builtin.Range.rangeSize a b 1 = (n : Int)) :
    Src prog w A σ (.ref r) s n (fun i v => ∃ t, v = .int (a + (i : Int)) t) := by
  intro Q hQ
  have W := Walks.range (prog := prog) (w := w) hh s.heap.objs.size a 1 n
  simp only [Int.mul_one] at W
  refine wpAny_pyIter_range hr hsmall (hQ _ [s.heap.objs.size] _ rfl W ?_ (fun b hb => .inl (List.mem_singleton.mp hb)) ?_ ?_)
  · rw [hsz]
    have := Heap.get?_push_size s.heap (o := { cls := .type "range_iterator", data := .fields #[rawInt a, rawInt (n : Int), rawInt 1] }) rfl
    simpa [IsRangeIter, rawInt] using this
  · rintro i h ho
    have ho' : h.get? s.heap.objs.size = _ := ho
    rw [ho']; rfl
  · rintro target i v s' Q ho hq
    exact go_any ho rfl (by decide) hq
/-- a for over a source -/
theorem loopS {R : Result → Shared → Prop} {env : Env} {target : Expr} {body : List Stmt} {xv : Value} {n : Nat} {P : Nat → Value → Prop} (X : Src prog w A σ xv s n P) (S : St w κ σ₀ σ L m μ s.heap)
    (J : Nat → PM → (Str → Option Value) → List (Addr × Obj) → Prop) (h0 : J 0 σ m μ)
    (turn : ∀ i v σ' m' μ' κ' h tk, i < n → P i v → Le σ σ' → J i σ' m' μ' → St w κ' σ₀ σ' L m' μ' h →
      wpAny (model prog w) A (assign target env v) (fun _ s₁ => wpAny (model prog w) A (execs body env) (fun f s₂ => BEnd f (TEnd w κ' σ₀ σ' L s (J (i + 1)) s₂)) Zf s₁) Zf { s with heap := h, toks := tk })
    (done : ∀ σ' m' μ' h tk, Le σ σ' → J n σ' m' μ' → St w κ σ₀ σ' L m' μ' h → R (.ok .next) { s with heap := h, toks := tk }) :
    wpAny (model prog w) A (pyIter xv) (fun it s₂ => codeAny (model prog w) A (.forLoop target it body [] env) R s₂) Zf s := by
  refine X _ fun o fp Sx hf W hs hfp hob hgo => ?_
  have hlt : ∀ b, b = s.heap.objs.size → s.heap.get? b = none := fun b e => e ▸ get_none_size (Nat.le_refl _)
  have none_of : ∀ {f : PM} {b : Addr}, Le f s.heap.get? → b = s.heap.objs.size → f b = none := fun k e => e ▸ k.none_size (Nat.le_refl _)
  have mem : ∀ {b : Addr}, b ∈ [s.heap.objs.size] → b = s.heap.objs.size := fun h => List.mem_singleton.mp h
  have O : Off κ σ₀ σ L μ [s.heap.objs.size] :=
    ⟨fun b hb => none_of S.kk (mem hb), fun b hb => none_of (S.sub.trans S.fro) (mem hb), fun b hb => none_of S.fro (mem hb), fun b hb e => absurd (ns_lt S.ns) (by rw [← e, mem hb]; exact Nat.lt_irrefl _),
      fun b hb p hp e => absurd (Heap.lt_size (S.mu p hp).1) (by rw [e, mem hb]; exact Nat.lt_irrefl _)⟩
  exact loopW (s := { s with heap := s.heap.push o }) W (S.keeps (push_le _ _)) hs O (fun b hb => (hfp b hb).imp (fun e => List.mem_singleton.mpr e) id) (fun i h hx b hb => (mem hb) ▸ hob i h hx) (hgo target) J h0 turn done
end

def tests (ifs : List Expr) (env : Env) : Sem Bool := forIn ifs true fun c r => if r = true then do let ok ← isTrue c env (eval c env); pure (ForInStep.yield ok) else pure (ForInStep.yield r)
def compTree (e : Expr) (depth : Nat) (target : Expr) (ifs : List Expr) (emit : Sem Unit) (p : Pos) (it acc : Value) (env : Env) : Sem Fin := do
  standAt p
  match ← pyNext it with
  | none => pure (.done .next)
  | some v =>
    letOwnedTupleGo target it v
    assign target env v
    let ok ← tests ifs env
    if ok then emit
    again (.compLoop e depth it acc env)

section
variable {prog : Program} {w : World} {A : Around} {s : Shared} {R : Result → Shared → Prop} {κ σ₀ σ : PM} {L : Addr} {m : Str → Option Value} {μ : List (Addr × Obj)} {env : Env} {target : Expr} {ifs : List Expr}
  {elt : Expr} {gens : List Comprehension} {scope : Scope} {pos p : Pos} {depth : Nat} {emit : Sem Unit} {acc : Value}
  {I : Addr} {fp wr : List Addr} {n : Nat} {P : Nat → Value → Prop} {Sx : Nat → Heap → Prop}

theorem compLoop_any (N : Nat → Shared → Prop) {it : Value} (ht : compTurn (.ListComp elt gens scope pos) depth it acc env = compTree (.ListComp elt gens scope pos) depth target ifs emit p it acc env)
    (turn : ∀ n s, N n s → wpAny (model prog w) A (pyNext it) (fun r s₁ => match r with
      | none => R (.ok .next) s₁
      | some v => wpAny (model prog w) A (letOwnedTupleGo target it v) (fun _ s₂ => wpAny (model prog w) A (assign target env v) (fun _ s₃ => wpAny (model prog w) A (tests ifs env) (fun ok s₄ =>
          if ok = true then wpAny (model prog w) A emit (fun _ s₅ => ∃ m, m < n ∧ N m s₅) Zf s₄ else ∃ m, m < n ∧ N m s₄) Zf s₃) Zf s₂) Zf s₁) Zf s)
    (n : Nat) (h : N n s) : codeAny (model prog w) A (.compLoop (.ListComp elt gens scope pos) depth it acc env) R s := by
  refine codeAny_loop rfl N (fun n s hI => ?_) n h
  show wpAny _ A ((compTurn (.ListComp elt gens scope pos) depth it acc env).onRaise (fun x => do noteFrame x env; theTreesLotGoes x)) _ _ s
  refine wpAny_noted ?_
  rw [ht]
  refine zf ?_
  unfold compTree
  refine wpAny_bind (wpAny_standAt (wpAny_bind (wpAny_mono (turn n s hI) (fun r s₁ h₁ => ?_) fun _ _ h' => h')))
  cases r with
  | none => exact wpAny_pure h₁
  | some v =>
    refine wpAny_bind (wpAny_mono h₁ (fun _ s₂ h₂ => wpAny_bind (wpAny_mono h₂ (fun _ s₃ h₃ => wpAny_bind (wpAny_mono h₃ (fun ok s₄ h₄ => ?_) fun _ _ x => x)) fun _ _ x => x)) fun _ _ x => x)
    cases ok with
    | false => exact wpAny_pure ⟨rfl, h₄⟩
    | true =>
      simp only [if_true]
      exact wpAny_bind (wpAny_mono h₄ (fun _ s₅ h₅ => wpAny_pure ⟨rfl, h₅⟩) fun _ _ x => x)

theorem compLoopW (ht : compTurn (.ListComp elt gens scope pos) depth (.ref I) acc env = compTree (.ListComp elt gens scope pos) depth target ifs emit p (.ref I) acc env)
    (W : Walks prog w A I fp wr n P Sx) (S : St w κ σ₀ σ L m μ s.heap) (hs : Sx 0 s.heap) (O : Off κ σ₀ σ L μ wr) (hfp : ∀ b ∈ fp, b ∈ wr ∨ (σ b).isSome)
    (hob : ∀ i h, Sx i h → ∀ b ∈ wr, (h.get? b).isSome)
    (hgo : ∀ i v (s' : Shared) (Q : Unit → Shared → Prop), Sx i s'.heap → Q () s' → wpAny (model prog w) A (letOwnedTupleGo target (.ref I) v) Q Zf s')
    (J : Nat → PM → (Str → Option Value) → List (Addr × Obj) → Prop) (h0 : J 0 σ m μ)
    (turn : ∀ i v σ' m' μ' κ' h tk, i < n → P i v → Le σ σ' → Le κ κ' → J i σ' m' μ' → St w κ' σ₀ σ' L m' μ' h →
      wpAny (model prog w) A (assign target env v) (fun _ s₁ => wpAny (model prog w) A (tests ifs env) (fun ok s₂ =>
          if ok = true then wpAny (model prog w) A emit (fun _ s₃ => TEnd w κ' σ₀ σ' L s (J (i + 1)) s₃) Zf s₂ else TEnd w κ' σ₀ σ' L s (J (i + 1)) s₂) Zf s₁) Zf { s with heap := h, toks := tk })
    (done : ∀ σ' m' μ' h tk, Le σ σ' → J n σ' m' μ' → St w κ σ₀ σ' L m' μ' h → R (.ok .next) { s with heap := h, toks := tk }) :
    codeAny (model prog w) A (.compLoop (.ListComp elt gens scope pos) depth (.ref I) acc env) R s := by
  refine compLoop_any (fun k s' => ∃ i σ' m' μ' h tk, k = n - i ∧ i ≤ n ∧ s' = { s with heap := h, toks := tk } ∧ Sx i h ∧ Le σ σ' ∧ J i σ' m' μ' ∧ St w κ σ₀ σ' L m' μ' h ∧ Off κ σ₀ σ' L μ' wr) ht ?_ n
    ⟨0, σ, m, μ, s.heap, s.toks, by omega, by omega, rfl, hs, Le.refl _, h0, S, O⟩
  rintro k s' ⟨i, σ', m', μ', h, tk, rfl, hi, rfl, hx, hl, hj, S', O'⟩
  by_cases hlt : i < n
  · refine W.item i _ _ _ hlt hx fun v h₁ tk₁ hp hx₁ hk₁ => ?_
    dsimp only
    have S₁ := (S'.stepW O' hk₁).addW O'
    refine zf (hgo (i + 1) v { s with heap := h₁, toks := tk₁ } _ hx₁ ?_)
    have kle : Le κ (kx κ wr h₁) := fun a o e => by unfold kx; rw [if_neg (fun q => by rw [O'.k _ q] at e; cases e)]; exact e
    refine wpAny_mono (turn i v σ' m' μ' _ h₁ tk₁ hlt hp hl kle hj S₁) (fun _ s₂ h₂ => ?_) fun _ _ x => x.elim
    refine wpAny_mono h₂ (fun ok s₃ h₃ => ?_) fun _ _ x => x.elim
    have fin : ∀ s₄, TEnd w (kx κ wr h₁) σ₀ σ' L s (J (i + 1)) s₄ → ∃ m, m < n - i ∧ ∃ i σ' m' μ' h tk, m = n - i ∧ i ≤ n ∧ s₄ = { s with heap := h, toks := tk } ∧ Sx i h ∧ Le σ σ' ∧ J i σ' m' μ' ∧ St w κ σ₀ σ' L m' μ' h ∧ Off κ σ₀ σ' L μ' wr := by
      rintro s₄ ⟨σ'', m'', μ'', h'', tk'', rfl, hl'', hj'', S''⟩
      refine ⟨n - (i + 1), by omega, i + 1, σ'', m'', μ'', h'', tk'', rfl, hlt, rfl, ?_, hl.trans hl'', hj'', S''.dropW O'.k, S''.offW O'.k O'.s0 (hob _ _ hx₁)⟩
      refine W.frame _ _ _ hx₁ fun b hb o e => ?_
      by_cases q : b ∈ wr
      · exact S''.kk b o (by unfold kx; rw [if_pos q]; exact e)
      · rcases hfp b hb with q' | q'
        · exact absurd q' q
        · obtain ⟨o', e'⟩ := Option.isSome_iff_exists.mp q'
          have e1 := S₁.fro _ _ (hl _ _ e')
          rw [e1] at e; cases e
          exact S''.fro _ _ (hl'' _ _ (hl _ _ e'))
    cases ok with
    | false => exact fin _ h₃
    | true => exact wpAny_mono h₃ (fun _ s₄ h₄ => fin _ h₄) fun _ _ x => x.elim
  · have : i = n := by omega
    subst this
    refine W.done _ _ _ hx fun h₁ tk₁ hk₁ => ?_
    exact done σ' m' μ' h₁ tk₁ hl hj (S'.stepW O' hk₁)
end

/-- a comprehension stands: its first iterable is at hand -/
def CompAt (prog : Program) (w : World) (A : Around) (e : Expr) (scope : Scope) (env : Env) (cl : List (Str × Addr)) (Q : Value → Shared → Prop) (xv : Value) (s : Shared) : Prop :=
  wpAny (model prog w) A (pyIter xv) (fun it s₂ => wpAny (model prog w) A (newList []) (fun acc s₃ =>
    wpAny (model prog w) A (newFunctionEnv scope env.globals cl [] env.qual none .none (some env)) (fun cenv s₄ =>
      codeAny (model prog w) A (.compStart e 0 it acc { cenv with scope := relabel scope env }) (compPost (model prog w) A Zf none Q acc cenv.locals) s₄) Zf s₃) Zf s₂) Zf s

section
variable {prog : Program} {w : World} {A : Around} {E : Value → Shared → Prop} {s : Shared} {env : Env} {elt target iter : Expr} {ifs : List Expr} {rest : List Comprehension} {scope : Scope} {pos : Pos} {cl : List (Str × Addr)}
theorem comp_ {Q : Value → Shared → Prop} (hclos : closureFor scope env = pure cl) (hkind : scope.kind = .function) (hnames : ∀ x ∈ scope.names, x.2 = .local → scope.names.lookup x.1 = some .local)
    (hs : ∀ x, foldedSetIterable iter env x = pure x)
    (h : wpAny (model prog w) A (eval iter env) (fun xv s₁ => CompAt prog w A (.ListComp elt (⟨target, iter, ifs, 0⟩ :: rest) scope pos) scope env cl Q xv s₁) Zf s) :
    wpAny (model prog w) A (eval (.ListComp elt (⟨target, iter, ifs, 0⟩ :: rest) scope pos) env) Q E s := by
  refine zf ?_
  rw [eval_ListComp]
  exact wpAny_comprehension_free (use := none) rfl hs hclos hkind hnames h
end

section
variable {prog : Program} {w : World} {A : Around} {s : Shared} {κ σ₀ σ : PM} {L : Addr} {m : Str → Option Value} {μ : List (Addr × Obj)} {env : Env} {elt target iter : Expr} {ifs : List Expr} {rest : List Comprehension} {scope : Scope} {pos p : Pos}
  {cl : List (Str × Addr)} {xv : Value} {n : Nat} {P : Nat → Value → Prop} {emit : Value → Addr → Sem Unit}
theorem compCore {RR : Value → Addr → Result → Shared → Prop} (X : Src prog w A σ xv s n P) (S : St w κ σ₀ σ L m μ s.heap) (hcell : ∀ y ∈ scope.names, y.2 ≠ .cell) (hkind : scope.kind = .function)
    (ht : ∀ it acc C, compTurn (.ListComp elt (⟨target, iter, ifs, 0⟩ :: rest) scope pos) 0 it acc (compEnvC scope cl C env) = compTree (.ListComp elt (⟨target, iter, ifs, 0⟩ :: rest) scope pos) 0 target ifs (emit acc C) p it acc (compEnvC scope cl C env))
    (J : Nat → PM → List Value → Prop) (h0 : J 0 σ [])
    (turn : ∀ C D i v σ' m' ys kk κ' h tk, i < n → P i v → Le σ σ' → Le s.heap.get? κ' → J i σ' ys → St w κ' σ σ' C m' [(D, listOf ys.toArray kk)] h →
      wpAny (model prog w) A (assign target (compEnvC scope cl C env) v) (fun _ s₁ => wpAny (model prog w) A (tests ifs (compEnvC scope cl C env)) (fun ok s₂ =>
          if ok = true then wpAny (model prog w) A (emit (.ref D) C) (fun _ s₃ => TEnd w κ' σ σ' C s (fun σ'' m'' μ'' => ∃ ys' kk', μ'' = [(D, listOf ys'.toArray kk')] ∧ J (i + 1) σ'' ys') s₃) Zf s₂
          else TEnd w κ' σ σ' C s (fun σ'' m'' μ'' => ∃ ys' kk', μ'' = [(D, listOf ys'.toArray kk')] ∧ J (i + 1) σ'' ys') s₂) Zf s₁) Zf { s with heap := h, toks := tk })
    (done : ∀ D C σ' m' ys kk h tk, s.heap.get? C = none → J n σ' ys → St w s.heap.get? σ σ' C m' [(D, listOf ys.toArray kk)] h → RR (.ref D) C (.ok .next) { s with heap := h, toks := tk }) :
    wpAny (model prog w) A (pyIter xv) (fun it s₂ => wpAny (model prog w) A (newList []) (fun acc s₃ =>
    wpAny (model prog w) A (newFunctionEnv scope env.globals cl [] env.qual none .none (some env)) (fun cenv s₄ =>
      codeAny (model prog w) A (.compStart (.ListComp elt (⟨target, iter, ifs, 0⟩ :: rest) scope pos) 0 it acc { cenv with scope := relabel scope env }) (RR acc cenv.locals) s₄) Zf s₃) Zf s₂) Zf s := by
  refine X _ fun o fp Sx hf W hs hfp hob hgo => ?_
  refine wpAny_newObj_type (wpAny_newFunctionEnv hcell (by intro y hy; simp at hy) (fun h₁ hns₁ hsb₁ => ?_) hkind)
  dsimp only at hns₁ hsb₁ ⊢
  generalize hH1 : s.heap.push o = H1 at hns₁ hsb₁ ⊢
  generalize hH2 : H1.push { cls := .type "list", dict := none, data := .seq ([] : List Value).toArray } = H2 at hns₁ hsb₁ ⊢
  have z1 : H1.objs.size = s.heap.objs.size + 1 := by rw [← hH1, Heap.size_push]
  have z2 : H2.objs.size = s.heap.objs.size + 2 := by rw [← hH2, Heap.size_push, z1]
  have up : Le H2.get? h₁.get? := fun b o e => hsb₁.extBut b o (Nat.ne_of_lt (Heap.lt_size e)) (push_le _ _ _ _ e)
  have eI : H2.get? s.heap.objs.size = some o := by rw [← hH2, ← hH1]; exact push_le _ _ _ _ (Heap.get?_push_size _ hf)
  have eD : H2.get? H1.objs.size = some (listOf #[] 0) := by rw [← hH2]; exact Heap.get?_push_size _ rfl
  have old : Le s.heap.get? H2.get? := by rw [← hH2, ← hH1]; exact (push_le _ _).trans (push_le _ _)
  have oldn : ∀ {a : Addr}, s.heap.objs.size ≤ a → s.heap.get? a = none := fun h => get_none_size h
  have sn : ∀ {a : Addr}, s.heap.objs.size ≤ a → σ a = none := fun h => S.fro.none_size h
  have S₁ : St w s.heap.get? σ σ H2.objs.size (bindm []) [(H1.objs.size, listOf ([] : List Value).toArray 0)] h₁ :=
    { base := S.base, kk := old.trans up, fro := S.fro.trans (old.trans up), ns := by rw [← lookup_rev]; exact hns₁, kL := oldn (by omega), sL := sn (by omega)
      mu := fun p hp => by
        rw [List.mem_singleton.mp hp]
        exact ⟨up _ _ eD, by show H1.objs.size ≠ H2.objs.size; omega, oldn (by show s.heap.objs.size ≤ H1.objs.size; omega), sn (by show s.heap.objs.size ≤ H1.objs.size; omega)⟩
      nd := by simp
      sub := Le.refl _, new := fun a o e => .inl e }
  have hx₁ : Sx 0 h₁ := by
    refine W.frame _ _ _ hs fun b hb o' e => ?_
    rw [hH1] at e
    refine up _ _ ?_
    rw [← hH2]; exact push_le _ _ _ _ e
  have mem : ∀ {b : Addr}, b ∈ [s.heap.objs.size] → b = s.heap.objs.size := fun h => List.mem_singleton.mp h
  have O : Off s.heap.get? σ σ H2.objs.size [(H1.objs.size, listOf ([] : List Value).toArray 0)] [s.heap.objs.size] :=
    ⟨fun b hb => oldn (by rw [mem hb]; exact Nat.le_refl _), fun b hb => sn (by rw [mem hb]; exact Nat.le_refl _), fun b hb => sn (by rw [mem hb]; exact Nat.le_refl _), fun b hb => by rw [mem hb]; exact Nat.ne_of_lt (by omega),
      fun b hb p hp => by rw [mem hb, List.mem_singleton.mp hp]; exact Nat.ne_of_gt (by show s.heap.objs.size < H1.objs.size; omega)⟩
  have loop : ∀ s₃ : Shared, s₃ = { s with heap := h₁, toks := s.toks + ([] : List (Str × Value)).length } →
      codeAny (model prog w) A (.compLoop (.ListComp elt (⟨target, iter, ifs, 0⟩ :: rest) scope pos) 0 (.ref s.heap.objs.size) (.ref H1.objs.size) (compEnvC scope cl H2.objs.size env))
        (RR (.ref H1.objs.size) H2.objs.size) s₃ := by
    rintro s₃ rfl
    refine compLoopW (s := { s with heap := h₁, toks := s.toks + ([] : List (Str × Value)).length }) (ht _ _ _) W S₁ hx₁ O (fun b hb => (hfp b hb).imp (fun e => List.mem_singleton.mpr e) id) (fun i h hx b hb => (mem hb) ▸ hob i h hx) (hgo target)
      (fun i σ' m' μ' => ∃ ys kk, μ' = [(H1.objs.size, listOf ys.toArray kk)] ∧ J i σ' ys) ⟨[], 0, rfl, h0⟩ ?_ ?_
    · rintro i v σ' m' μ' κ' h tk hi hp hl hk ⟨ys, kk, rfl, hj⟩ S'
      exact turn _ _ i v σ' m' ys kk κ' h tk hi hp hl hk hj S'
    · rintro σ' m' μ' h tk hl ⟨ys, kk, rfl, hj⟩ S'
      exact done _ _ σ' m' ys kk h tk (oldn (by omega)) hj S'
  exact codeAny_compStart_list (loop _ rfl) (W.self 0 _ _ _ hx₁ (loop _ rfl))

/-- the comprehension's list is frozen, its frame forgotten -/
theorem comp_out {σ' : PM} {C D : Addr} {m' : Str → Option Value} {ys : List Value} {kk : Nat} {h h' : Heap} (S' : St w s.heap.get? σ σ' C m' [(D, listOf ys.toArray kk)] h) (hC : s.heap.get? C = none) (hs' : Heap.SameBut C h h') :
    Grow s.heap σ h' (upd σ' D (listOf ys.toArray kk)) := by
  have S'' := S'.freeze
  have G' : Grow s.heap σ h (upd σ' D (listOf ys.toArray kk)) := S''.leave
  have hC' : (upd σ' D (listOf ys.toArray kk)) C = none := S''.sL
  exact ⟨fun a o e => (hs'.2 a (by rintro rfl; rw [hC] at e; cases e)).trans (G'.keep _ _ e), G'.sub, fun a o e => (hs'.2 a (by rintro rfl; rw [hC'] at e; cases e)).trans (G'.fro _ _ e), G'.new⟩
/-- a comprehension over a source; the list made is frozen -/
theorem compS {Q : Value → Shared → Prop} (X : Src prog w A σ xv s n P) (S : St w κ σ₀ σ L m μ s.heap) (hcell : ∀ y ∈ scope.names, y.2 ≠ .cell) (hkind : scope.kind = .function)
    (ht : ∀ it acc C, compTurn (.ListComp elt (⟨target, iter, ifs, 0⟩ :: rest) scope pos) 0 it acc (compEnvC scope cl C env) = compTree (.ListComp elt (⟨target, iter, ifs, 0⟩ :: rest) scope pos) 0 target ifs (emit acc C) p it acc (compEnvC scope cl C env))
    (J : Nat → PM → List Value → Prop) (h0 : J 0 σ [])
    (turn : ∀ C D i v σ' m' ys kk κ' h tk, i < n → P i v → Le σ σ' → Le s.heap.get? κ' → J i σ' ys → St w κ' σ σ' C m' [(D, listOf ys.toArray kk)] h →
      wpAny (model prog w) A (assign target (compEnvC scope cl C env) v) (fun _ s₁ => wpAny (model prog w) A (tests ifs (compEnvC scope cl C env)) (fun ok s₂ =>
          if ok = true then wpAny (model prog w) A (emit (.ref D) C) (fun _ s₃ => TEnd w κ' σ σ' C s (fun σ'' m'' μ'' => ∃ ys' kk', μ'' = [(D, listOf ys'.toArray kk')] ∧ J (i + 1) σ'' ys') s₃) Zf s₂
          else TEnd w κ' σ σ' C s (fun σ'' m'' μ'' => ∃ ys' kk', μ'' = [(D, listOf ys'.toArray kk')] ∧ J (i + 1) σ'' ys') s₂) Zf s₁) Zf { s with heap := h, toks := tk })
    (done : ∀ D σ' σ'' ys kk h tk, Le σ' σ'' → J n σ' ys → σ'' D = some (listOf ys.toArray kk) → Grow s.heap σ h σ'' → St w κ σ₀ σ'' L m μ h → Q (.ref D) { s with heap := h, toks := tk }) :
    CompAt prog w A (.ListComp elt (⟨target, iter, ifs, 0⟩ :: rest) scope pos) scope env cl Q xv s := by
  refine compCore (RR := fun acc C => compPost (model prog w) A Zf none Q acc C) X S hcell hkind ht J h0 turn ?_
  intro D C σ' m' ys kk h tk hC hj S'
  refine ⟨m', S'.ns, fun h' hs' => ?_⟩
  have G := comp_out S' hC hs'
  exact done _ σ' _ ys kk h' tk (upd_le (S'.mu _ (.head _)).2.2.2) hj (upd_same _ _ _) G (S.grow G)
/-- the same, the list being stored under a name -/
def CompAtU (prog : Program) (w : World) (A : Around) (e : Expr) (scope : Scope) (env : Env) (cl : List (Str × Addr)) (use : Value → Sem Unit) (Q : Value → Shared → Prop) (xv : Value) (s : Shared) : Prop :=
  wpAny (model prog w) A (pyIter xv) (fun it s₂ => wpAny (model prog w) A (newList []) (fun acc s₃ =>
    wpAny (model prog w) A (newFunctionEnv scope env.globals cl [] env.qual none .none (some env)) (fun cenv s₄ =>
      codeAny (model prog w) A (.compStart e 0 it acc { cenv with scope := relabel scope env }) (compPost (model prog w) A Zf (some use) Q acc cenv.locals) s₄) Zf s₃) Zf s₂) Zf s
theorem compSU {Q : Value → Shared → Prop} {y : Str} {py : Pos} (X : Src prog w A σ xv s n P) (S : St w κ σ₀ σ L m μ s.heap) (hcell : ∀ y ∈ scope.names, y.2 ≠ .cell) (hkind : scope.kind = .function)
    (hL : env.locals = L) (hy : env.kindOf y = some .local) (hp : (env.scope.kind == .class || (env.scope.kind == .module && env.locals != env.globals)) = false)
    (ht : ∀ it acc C, compTurn (.ListComp elt (⟨target, iter, ifs, 0⟩ :: rest) scope pos) 0 it acc (compEnvC scope cl C env) = compTree (.ListComp elt (⟨target, iter, ifs, 0⟩ :: rest) scope pos) 0 target ifs (emit acc C) p it acc (compEnvC scope cl C env))
    (J : Nat → PM → List Value → Prop) (h0 : J 0 σ [])
    (turn : ∀ C D i v σ' m' ys kk κ' h tk, i < n → P i v → Le σ σ' → Le s.heap.get? κ' → J i σ' ys → St w κ' σ σ' C m' [(D, listOf ys.toArray kk)] h →
      wpAny (model prog w) A (assign target (compEnvC scope cl C env) v) (fun _ s₁ => wpAny (model prog w) A (tests ifs (compEnvC scope cl C env)) (fun ok s₂ =>
          if ok = true then wpAny (model prog w) A (emit (.ref D) C) (fun _ s₃ => TEnd w κ' σ σ' C s (fun σ'' m'' μ'' => ∃ ys' kk', μ'' = [(D, listOf ys'.toArray kk')] ∧ J (i + 1) σ'' ys') s₃) Zf s₂
          else TEnd w κ' σ σ' C s (fun σ'' m'' μ'' => ∃ ys' kk', μ'' = [(D, listOf ys'.toArray kk')] ∧ J (i + 1) σ'' ys') s₂) Zf s₁) Zf { s with heap := h, toks := tk })
    (done : ∀ D σ' σ'' ys kk h tk, Le σ' σ'' → J n σ' ys → σ'' D = some (listOf ys.toArray kk) → Le σ σ'' → St w κ σ₀ σ'' L (setm m y (.ref D)) μ h → Q .none { s with heap := h, toks := tk }) :
    CompAtU prog w A (.ListComp elt (⟨target, iter, ifs, 0⟩ :: rest) scope pos) scope env cl (fun v => assignAll v [assign (.Name y py) env]) Q xv s := by
  refine compCore (RR := fun acc C => compPost (model prog w) A Zf (some (fun v => assignAll v [assign (.Name y py) env])) Q acc C) X S hcell hkind ht J h0 turn ?_
  intro D C σ' m' ys kk h tk hC hj S'
  have G := comp_out S' hC (Heap.SameBut.refl _ _)
  have S1 := S.grow G
  have hCL : C ≠ L := fun e => by
    obtain ⟨_, _, _, q, _⟩ := S.ns
    rw [← e, hC] at q; cases q
  show wpAny _ _ (assign (.Name y py) env (.ref D)) _ _ _
  refine assign_Name (wpAny_storeName_local hy (hL ▸ S1.ns) (fun h2 hn hs => ⟨m', ?_, fun h3 hs3 => ?_⟩) hp)
  · exact S'.ns.sameBut hs (by rw [hL]; exact hCL)
  · have S2 := S1.store (m' := setm m y (.ref D)) (hL ▸ hn) (hL ▸ hs)
    have hCn : ∀ {f : PM}, Le f s.heap.get? → f C = none := fun {f} k => by
      cases q : f C with
      | none => rfl
      | some o => rw [k _ _ q] at hC; cases hC
    refine done D σ' _ ys kk h3 _ (upd_le (S'.mu _ (.head _)).2.2.2) hj (upd_same _ _ _) G.sub ?_
    exact S2.stepW (wr := [C]) ⟨fun b hb => by rw [List.mem_singleton.mp hb]; exact hCn S.kk, fun b hb => by rw [List.mem_singleton.mp hb]; exact hCn (S.sub.trans S.fro), fun b hb => by rw [List.mem_singleton.mp hb]; exact S'.freeze.sL,
      fun b hb => by rw [List.mem_singleton.mp hb]; exact hCL, fun b hb p hp e => by
        rw [List.mem_singleton.mp hb] at e
        have := (S.mu p hp).1
        rw [e, hC] at this; cases this⟩ fun b o hb e => (hs3.2 b (fun q => hb (List.mem_singleton.mpr q))).trans e
end

section
variable {prog : Program} {w : World} {A : Around} {E : Value → Shared → Prop} {s : Shared} {env : Env} {elt target iter : Expr} {ifs : List Expr} {rest : List Comprehension} {scope : Scope} {pos spos py : Pos} {y : Str} {cl : List (Str × Addr)}
theorem assign_comp {Q : Flow → Shared → Prop} (hsw : swapsWith (.ListComp elt (⟨target, iter, ifs, 0⟩ :: rest) scope pos) (some (.Name y py)) spos.line env = pure true)
    (hclos : closureFor scope env = pure cl) (hkind : scope.kind = .function) (hnames : ∀ x ∈ scope.names, x.2 = .local → scope.names.lookup x.1 = some .local)
    (hs : ∀ x, foldedSetIterable iter env x = pure x)
    (h : wpAny (model prog w) A (eval iter env) (fun xv s₁ => CompAtU prog w A (.ListComp elt (⟨target, iter, ifs, 0⟩ :: rest) scope pos) scope env cl (fun v => assignAll v [assign (.Name y py) env]) (fun _ s' => Q .next s') xv s₁) Zf s) :
    wpAny (model prog w) A (exec (.Assign [.Name y py] (.ListComp elt (⟨target, iter, ifs, 0⟩ :: rest) scope pos) spos) env) Q E s := by
  refine zf ?_
  show wpAny _ _ (standAt spos >>= fun _ => swapsWith (.ListComp elt (⟨target, iter, ifs, 0⟩ :: rest) scope pos) (some (.Name y py)) spos.line env >>= fun b => if b = true then (evalThenUse (.ListComp elt (⟨target, iter, ifs, 0⟩ :: rest) scope pos) env (fun v => assignAll v [assign (.Name y py) env]) >>= fun _ => pure Flow.next) else _) _ _ _
  refine wpAny_bind (wpAny_standAt ?_)
  rw [hsw]
  refine wpAny_bind (wpAny_pure ?_)
  rw [if_pos rfl]
  refine wpAny_bind ?_
  show wpAny _ _ (comprehension (.ListComp elt (⟨target, iter, ifs, 0⟩ :: rest) scope pos) scope env (firstIterPos (⟨target, iter, ifs, 0⟩ :: rest) pos) (newList []) false (eval iter env) (some (fun v => assignAll v [assign (.Name y py) env])) >>= fun _ => pure ()) _ _ _
  refine wpAny_bind (wpAny_mono (wpAny_comprehension_free (use := some _) rfl hs hclos hkind hnames h) (fun _ s' h' => wpAny_pure (wpAny_pure h')) fun _ _ x => x)
end

section
variable {w : World} {prog : Program} {A : Around} {E : Value → Shared → Prop} {s : Shared} {κ σ₀ σ : PM} {L : Addr} {m : Str → Option Value} {μ : List (Addr × Obj)} {env : Env}
/-- a def with cells is entered -/
theorem enterC {name qual : Str} {params : Arguments} {body : List Stmt} {scope : Scope} {dV kV doc pm cdv ct oc : Value} {an od : Option Addr} {osl : Array (Option Value)} {f : Addr} {args : Args} {binds : List (Str × Value)} {R : Result → Shared → Prop}
    (cells : Addr → List (Str × Addr)) (m cm : Str → Option Value)
    (B : BaseS w σ) (hf : Le σ s.heap.get?) (ho : (hd.heap_1 w.params).lookup f = some ⟨oc, od, .func (fnOf name qual params body scope dV kV doc pm an cdv ct), osl⟩) (hcd : codeIn (hd.heap_1 w.params) cdv qual = true)
    (hroom : A.depth < recursionLimit) (hbind : BindsTo s (fnOf name qual params body scope dV kV doc pm an cdv ct) args binds)
    (hkind : (binds.all fun y => scope.names.lookup y.1 == some .local || scope.names.lookup y.1 == some .cell) = true)
    (hnd : ((cellsFrom 0 scope.names []).map (·.1)).Nodup)
    (hcl : ∀ L, cellsFrom (L + 1) scope.names [] = cells L)
    (hm : ∀ L, bindL (envOfC qual scope L f cdv).kindOf binds (fun _ => none) = m) (hcm : ∀ L, bindC (envOfC qual scope L f cdv).kindOf binds (fun _ => none) = cm)
    (hco : scope.isCoroutine = false) (hgen : scope.isGenerator = false) (hk : scope.kind = .function)
    (h : ∀ L h₁ tk (ob : Str → Obj), St w s.heap.get? σ σ L m ((cells L).map fun p => (p.2, ob p.1)) h₁ → L = s.heap.objs.size → (∀ p ∈ cells L, (ob p.1).data = .cell (cm p.1)) →
      wpAny (model prog w) (A.deeper (envOfC qual scope L f cdv)) (execs body (envOfC qual scope L f cdv)) (fun fl s' => R (.ok (.ret (match fl with | .ret v => v | _ => .none))) s') Zf
        { s with heap := h₁, toks := tk }) :
    codeAny (model prog w) A (.call (.ref f) args) R s := by
  refine codeAny_call_function hroom (hf _ _ (B.k _ _ ho)) rfl hco hgen rfl (codeRec_of (B.inn hf) hcd) (hbind _ _ _ _ ?_)
  refine wpAny_newFunctionEnv_cells hk (kindsX hkind _) fun env' he s' x => ?_
  subst he
  refine ⟨(B.lim hf).keeps x.toInCall.keep, codeAny_func ?_⟩
  obtain ⟨h₁, tk, rfl⟩ := x.toInCall.same
  have hk₁ : Le s.heap.get? h₁.get? := x.toInCall.keep
  have hx := x.cell
  have ha := x.apart
  have hb := x.above
  have hn := x.toInCall.ns
  have hnd' : ((cells s.heap.objs.size).map (·.1)).Nodup := by rw [← hcl]; exact cellsFrom_names scope.names 0 (s.heap.objs.size + 1) [] [] rfl ▸ hnd
  have e1 : (newEnv scope s.heap.objs.size mainGlobals (cellsFrom (s.heap.objs.size + 1) scope.names []) (qual ++ ".<locals>.") (some f) cdv none builtinsNs).cells = cells s.heap.objs.size := hcl _
  have hx' : ∀ n c, (cells s.heap.objs.size).lookup n = some c → ∃ o, h₁.get? c = some o ∧ o.data = .cell (cm n) := fun n c e => by
    obtain ⟨o, h1, h2⟩ := hx n c (by rw [show _ = cells s.heap.objs.size from e1]; exact e)
    exact ⟨o, h1, by rw [h2]; exact congrArg Data.cell (congrFun (hcm s.heap.objs.size) n)⟩
  have ha' : (cells s.heap.objs.size).Pairwise fun x y => x.2 ≠ y.2 := by rw [← e1]; exact ha
  have hb' : ∀ n c, (n, c) ∈ cells s.heap.objs.size → s.heap.objs.size < c := fun n c hm => hb n c (by rw [show _ = cells s.heap.objs.size from e1]; exact hm)
  have look : ∀ p ∈ cells s.heap.objs.size, ∃ o, h₁.get? p.2 = some o ∧ o.data = .cell (cm p.1) := fun p hp => hx' _ _ (lookup_of_mem_nodup hnd' hp)
  have pick : ∀ p ∈ cells s.heap.objs.size, h₁.get? p.2 = some ((h₁.get? (((cells s.heap.objs.size).lookup p.1).getD 0)).getD default) := fun p hp => by
    rw [lookup_of_mem_nodup hnd' hp]
    obtain ⟨o, e, _⟩ := look p hp
    show h₁.get? p.2 = some ((h₁.get? p.2).getD default)
    rw [e]; rfl
  refine zf (h s.heap.objs.size h₁ tk (fun n => (h₁.get? (((cells s.heap.objs.size).lookup n).getD 0)).getD default) ?_ rfl fun p hp => ?_)
  · exact {
      base := B, kk := hk₁, fro := hf.trans hk₁, ns := by rw [← hm s.heap.objs.size]; exact hn, kL := get_none_size (Nat.le_refl _), sL := hf.none_size (Nat.le_refl _)
      mu := fun q hq => by
        obtain ⟨p, hp, rfl⟩ := List.mem_map.mp hq
        exact ⟨pick p hp, Nat.ne_of_gt (hb' _ _ hp), get_none_size (Nat.le_of_lt (hb' _ _ hp)), hf.none_size (Nat.le_of_lt (hb' _ _ hp))⟩
      nd := by
        rw [List.map_map]
        exact List.pairwise_map.mpr ha'
      sub := Le.refl _, new := fun a o e => .inl e }
  · obtain ⟨o, e, d⟩ := look p hp
    have := pick p hp
    rw [e] at this
    rw [← Option.some.inj this]; exact d

theorem n_cell {M : Model} {x : Str} {pos : Pos} {c : Addr} {o : Obj} {v : Value} {Q : Value → Shared → Prop} (hk : env.scope.kind = .function) (hl : env.kindOf x = some .cell) (hc : env.cells.lookup x = some c)
    (hd : (x == ("__debug__" : Str)) = false) (ho : s.heap.get? c = some o) (hv : o.data = .cell (some v)) (h : Q v s) : wpAny M A (eval (.Name x pos) env) Q E s := by
  refine wpAny_Name ?_ hd
  exact wpAny_loadName_cell hk hl hc ⟨o, ho, hv⟩ h
theorem n_cst {M : Model} {x : Str} {c : Addr} {o : Obj} {v₀ : Option Value} {v : Value} {Q : Unit → Shared → Prop} (S : St w κ σ₀ σ L m ((c, o) :: μ) s.heap) (hk : env.scope.kind = .function) (hl : env.kindOf x = some .cell) (hc : env.cells.lookup x = some c)
    (hv : o.data = .cell v₀) (h : ∀ h' o', o'.data = .cell (some v) → St w κ σ₀ σ L m ((c, o') :: μ) h' → Q () { s with heap := h' }) : wpAny M A (storeName env x v) Q E s :=
  wpAny_storeName_cell hk hl hc ⟨o, (S.mu _ (.head _)).1, hv⟩ fun h' ⟨o', ho', hd'⟩ hs => h h' o' hd' (S.upd0 hs ho')
theorem n_cst1 {M : Model} {x : Str} {c : Addr} {p : Addr × Obj} {o : Obj} {v₀ : Option Value} {v : Value} {Q : Unit → Shared → Prop} (S : St w κ σ₀ σ L m (p :: (c, o) :: μ) s.heap) (hk : env.scope.kind = .function) (hl : env.kindOf x = some .cell) (hc : env.cells.lookup x = some c)
    (hv : o.data = .cell v₀) (h : ∀ h' o', o'.data = .cell (some v) → St w κ σ₀ σ L m (p :: (c, o') :: μ) h' → Q () { s with heap := h' }) : wpAny M A (storeName env x v) Q E s :=
  n_cst (S.perm (List.Perm.swap _ _ _)) hk hl hc hv fun h' o' hd S' => h h' o' hd (S'.perm (List.Perm.swap _ _ _))
end

section
variable {w : World} {κ σ₀ σ : PM} {L c : Addr} {m : Str → Option Value} {μ : List (Addr × Obj)} {h : Heap} {o : Obj}
theorem mu_get (S : St w κ σ₀ σ L m μ h) (hm : (c, o) ∈ μ) : h.get? c = some o := (S.mu _ hm).1
theorem kk_get (S : St w κ σ₀ σ L m μ h) (e : κ c = some o) : h.get? c = some o := S.kk _ _ e
theorem fro_get (S : St w κ σ₀ σ L m μ h) (e : σ c = some o) : h.get? c = some o := S.fro _ _ e
end
def IntV (v : Value) (n : Int) : Prop := ∃ t, v = .int n t
theorem pat {α β : Type} {F : α → β → Prop} : ∀ {vs : List α} {xs : List β}, Paired F vs xs → ∀ {i : Nat} {v : α}, vs[i]? = some v → ∃ x, xs[i]? = some x ∧ F v x
  | _, _, .nil, i, v, e => by simp at e
  | _, _, .cons h t, 0, v, e => by simp at e; subst e; exact ⟨_, rfl, h⟩
  | _, _, .cons h t, i + 1, v, e => by simpa using pat t (by simpa using e)
theorem pmono {α β : Type} {F F' : α → β → Prop} (k : ∀ a b, F a b → F' a b) : ∀ {vs : List α} {xs : List β}, Paired F vs xs → Paired F' vs xs
  | _, _, .nil => .nil
  | _, _, .cons h t => .cons (k _ _ h) (pmono k t)
theorem papp {α β : Type} {F : α → β → Prop} : ∀ {vs ws : List α} {xs ys : List β}, Paired F vs xs → Paired F ws ys → Paired F (vs ++ ws) (xs ++ ys)
  | _, _, _, _, .nil, k => k
  | _, _, _, _, .cons h t, k => .cons h (papp t k)
theorem take_snoc {α : Type} {xs : List α} {i : Nat} {x : α} (h : xs[i]? = some x) : xs.take (i + 1) = xs.take i ++ [x] := by
  rw [List.take_add_one, h]; rfl

/-- an element's end -/
def EEnd (w : World) (κ σ₀ σ : PM) (C D : Addr) (s : Shared) (ys : List Value) (kk : Nat) (J : PM → Prop) (s₃ : Shared) : Prop :=
  ∃ σ' m' h tk, s₃ = { s with heap := h, toks := tk } ∧ Le σ σ' ∧ J σ' ∧ St w κ σ₀ σ' C m' [(D, listOf ys.toArray kk)] h
section
variable {prog : Program} {w : World} {A : Around} {s : Shared} {κ σ₀ σ : PM} {L : Addr} {m : Str → Option Value} {μ : List (Addr × Obj)} {env : Env} {elt target iter : Expr} {ifs : List Expr} {scope : Scope} {pos : Pos}
  {cl : List (Str × Addr)} {xv : Value} {n : Nat} {P : Nat → Value → Prop}
theorem comp1S {Q : Value → Shared → Prop} (X : Src prog w A σ xv s n P) (S : St w κ σ₀ σ L m μ s.heap) (hcell : ∀ y ∈ scope.names, y.2 ≠ .cell) (hkind : scope.kind = .function) (hn : n ≤ 1000)
    (J : Nat → PM → List Value → Prop) (h0 : J 0 σ [])
    (turn : ∀ C D i v σ' m' ys kk κ' h tk, i < n → P i v → Le σ σ' → Le s.heap.get? κ' → J i σ' ys → St w κ' σ σ' C m' [(D, listOf ys.toArray kk)] h →
      wpAny (model prog w) A (assign target (compEnvC scope cl C env) v) (fun _ s₁ => wpAny (model prog w) A (tests ifs (compEnvC scope cl C env)) (fun ok s₂ =>
          if ok = true then wpAny (model prog w) A (eval elt (compEnvC scope cl C env)) (fun y s₃ => EEnd w κ' σ σ' C D s ys kk (fun σ'' => J (i + 1) σ'' (ys ++ [y])) s₃) Zf s₂
          else EEnd w κ' σ σ' C D s ys kk (fun σ'' => J (i + 1) σ'' ys) s₂) Zf s₁) Zf { s with heap := h, toks := tk })
    (done : ∀ D σ' σ'' ys kk h tk, Le σ' σ'' → J n σ' ys → σ'' D = some (listOf ys.toArray kk) → Grow s.heap σ h σ'' → St w κ σ₀ σ'' L m μ h → Q (.ref D) { s with heap := h, toks := tk }) :
    CompAt prog w A (.ListComp elt [⟨target, iter, ifs, 0⟩] scope pos) scope env cl Q xv s := by
  refine compS (emit := fun acc C => (do let _ ← call (.builtin "list.append") [acc, ← eval elt (compEnvC scope cl C env)])) (p := iter.pos) X S hcell hkind (fun it acc C => rfl) (fun i σ' ys => J i σ' ys ∧ ys.length ≤ i) ⟨h0, Nat.zero_le _⟩ ?_ ?_
  · rintro C D i v σ' m' ys kk κ' h tk hi hp hl hk ⟨hj, hy⟩ S'
    refine wpAny_mono (turn C D i v σ' m' ys kk κ' h tk hi hp hl hk hj S') (fun _ s₁ h₁ => wpAny_mono h₁ (fun ok s₂ h₂ => ?_) fun _ _ x => x) fun _ _ x => x
    cases ok with
    | false =>
      obtain ⟨σ'', m'', h'', tk'', rfl, l'', hj'', S''⟩ := h₂
      exact ⟨σ'', m'', _, h'', tk'', rfl, l'', ⟨ys, kk, rfl, hj'', by omega⟩, S''⟩
    | true =>
      simp only [if_true] at h₂ ⊢
      refine wpAny_bind (wpAny_mono h₂ (fun y s₃ h₃ => ?_) fun _ _ x => x)
      obtain ⟨σ'', m'', h'', tk'', rfl, l'', hj'', S''⟩ := h₃
      refine wpAny_bind (wpAny_list_append_plain (hsz := by show ys.toArray.size ≤ sizeLine; rw [List.size_toArray, sizeLine_eq]; omega) ⟨kk, (S''.mu _ (.head _)).1⟩ fun h₃ hpl hs₃ => ?_)
      obtain ⟨k₃, e₃⟩ := hpl
      refine wpAny_pure ⟨σ'', m'', _, h₃, tk'', rfl, l'', ⟨ys ++ [y], k₃, rfl, hj'', by simp; omega⟩, S''.upd0 hs₃ ?_⟩
      rw [e₃]; simp
  · rintro D σ' σ'' ys kk h tk hl ⟨hj, hy⟩ hD G S'
    exact done D σ' σ'' ys kk h tk hl hj hD G S'
theorem comp1SU {Q : Value → Shared → Prop} {y : Str} {py : Pos} (X : Src prog w A σ xv s n P) (S : St w κ σ₀ σ L m μ s.heap) (hcell : ∀ y ∈ scope.names, y.2 ≠ .cell) (hkind : scope.kind = .function) (hn : n ≤ 1000) (hL : env.locals = L) (hy : env.kindOf y = some .local) (hp : (env.scope.kind == .class || (env.scope.kind == .module && env.locals != env.globals)) = false)
    (J : Nat → PM → List Value → Prop) (h0 : J 0 σ [])
    (turn : ∀ C D i v σ' m' ys kk κ' h tk, i < n → P i v → Le σ σ' → Le s.heap.get? κ' → J i σ' ys → St w κ' σ σ' C m' [(D, listOf ys.toArray kk)] h →
      wpAny (model prog w) A (assign target (compEnvC scope cl C env) v) (fun _ s₁ => wpAny (model prog w) A (tests ifs (compEnvC scope cl C env)) (fun ok s₂ =>
          if ok = true then wpAny (model prog w) A (eval elt (compEnvC scope cl C env)) (fun y s₃ => EEnd w κ' σ σ' C D s ys kk (fun σ'' => J (i + 1) σ'' (ys ++ [y])) s₃) Zf s₂
          else EEnd w κ' σ σ' C D s ys kk (fun σ'' => J (i + 1) σ'' ys) s₂) Zf s₁) Zf { s with heap := h, toks := tk })
    (done : ∀ D σ' σ'' ys kk h tk, Le σ' σ'' → J n σ' ys → σ'' D = some (listOf ys.toArray kk) → Le σ σ'' → St w κ σ₀ σ'' L (setm m y (.ref D)) μ h → Q .none { s with heap := h, toks := tk }) :
    CompAtU prog w A (.ListComp elt [⟨target, iter, ifs, 0⟩] scope pos) scope env cl (fun v => assignAll v [assign (.Name y py) env]) Q xv s := by
  refine compSU (emit := fun acc C => (do let _ ← call (.builtin "list.append") [acc, ← eval elt (compEnvC scope cl C env)])) (p := iter.pos) X S hcell hkind hL hy hp (fun it acc C => rfl) (fun i σ' ys => J i σ' ys ∧ ys.length ≤ i) ⟨h0, Nat.zero_le _⟩ ?_ ?_
  · rintro C D i v σ' m' ys kk κ' h tk hi hp hl hk ⟨hj, hy⟩ S'
    refine wpAny_mono (turn C D i v σ' m' ys kk κ' h tk hi hp hl hk hj S') (fun _ s₁ h₁ => wpAny_mono h₁ (fun ok s₂ h₂ => ?_) fun _ _ x => x) fun _ _ x => x
    cases ok with
    | false =>
      obtain ⟨σ'', m'', h'', tk'', rfl, l'', hj'', S''⟩ := h₂
      exact ⟨σ'', m'', _, h'', tk'', rfl, l'', ⟨ys, kk, rfl, hj'', by omega⟩, S''⟩
    | true =>
      simp only [if_true] at h₂ ⊢
      refine wpAny_bind (wpAny_mono h₂ (fun y s₃ h₃ => ?_) fun _ _ x => x)
      obtain ⟨σ'', m'', h'', tk'', rfl, l'', hj'', S''⟩ := h₃
      refine wpAny_bind (wpAny_list_append_plain (hsz := by show ys.toArray.size ≤ sizeLine; rw [List.size_toArray, sizeLine_eq]; omega) ⟨kk, (S''.mu _ (.head _)).1⟩ fun h₃ hpl hs₃ => ?_)
      obtain ⟨k₃, e₃⟩ := hpl
      refine wpAny_pure ⟨σ'', m'', _, h₃, tk'', rfl, l'', ⟨ys ++ [y], k₃, rfl, hj'', by simp; omega⟩, S''.upd0 hs₃ ?_⟩
      rw [e₃]; simp
  · rintro D σ' σ'' ys kk h tk hl ⟨hj, hy⟩ hD G S'
    exact done D σ' σ'' ys kk h tk hl hj hD G S'
end

section
variable {w : World} {s : Shared} {κ σ₀ σ σ' : PM} {L D : Addr} {m' : Str → Option Value} {μ' : List (Addr × Obj)} {h : Heap} {tk : Nat} {ys : List Value} {kk : Nat}
theorem tend {J : PM → (Str → Option Value) → List (Addr × Obj) → Prop} (S : St w κ σ₀ σ' L m' μ' h) (l : Le σ σ') (j : J σ' m' μ') : BEnd .next (TEnd w κ σ₀ σ L s J { s with heap := h, toks := tk }) :=
  ⟨rfl, _, _, _, _, _, rfl, l, j, S⟩
theorem eend {J : PM → Prop} (S : St w κ σ₀ σ' L m' [(D, listOf ys.toArray kk)] h) (l : Le σ σ') (j : J σ') : EEnd w κ σ₀ σ L D s ys kk J { s with heap := h, toks := tk } :=
  ⟨_, _, _, _, rfl, l, j, S⟩
end
theorem take_all {α β : Type} {F : α → β → Prop} {vs : List α} {xs : List β} (x : Paired F vs xs) : xs.take vs.length = xs := by
  rw [x.length]; exact List.take_length
theorem intV_one {n : Int} {t : Tok} {k : Nat} (hk : k = 0) : IntV (.int (n * 10 ^ k) t) n := ⟨t, by subst hk; simp⟩

def SliceAt (Q : Value → Shared → Prop) (o vl vu : Value) (s₃ : Shared) : Prop :=
  ∃ l items lo hi, o = .ref l ∧ s₃.heap.IsList l items ∧ items.size ≤ sizeLine ∧ IsPart vl lo ∧ IsPart vu hi ∧
    Q (.ref (s₃.heap.objs.size + 1)) { s₃ with heap := (s₃.heap.push { cls := .type "slice", data := .fields #[vl, vu, .none] }).push { cls := .type "list", data := .seq (slicePick items lo hi none) } }
section
variable {prog : Program} {w : World} {A : Around} {E : Value → Shared → Prop} {s : Shared} {κ σ₀ σ : PM} {L : Addr} {m : Str → Option Value} {μ : List (Addr × Obj)} {env : Env} {value : Expr} {lower upper : Option Expr} {pos p : Pos}
theorem sub_slice {Q : Value → Shared → Prop} (h : wpAny (model prog w) A (eval value env) (fun o s₁ => wpAny (model prog w) A (evalPart lower env) (fun vl s₂ => wpAny (model prog w) A (evalPart upper env) (fun vu s₃ => SliceAt Q o vl vu s₃) E s₂) E s₁) E s)
    (ht : ∀ o r, letTemporaryGo value o r = pure ()) : wpAny (model prog w) A (eval (.Subscript value (.Slice lower upper none p) pos) env) Q E s := wpAny_Subscript_list_slice h ht
theorem slice_at {Q : Value → Shared → Prop} {l : Addr} {vs ws : List Value} {k : Nat} {vl vu : Value} {lo hi : Option Int} (S : St w κ σ₀ σ L m μ s.heap) (hl : s.heap.get? l = some (listOf vs.toArray k)) (hsz : vs.length ≤ 1000) (pl : IsPart vl lo) (pu : IsPart vu hi)
    (hs : slicePick vs.toArray lo hi none = ws.toArray)
    (h : ∀ D h' σ', Le σ σ' → σ' D = some (listOf ws.toArray 0) → Grow s.heap σ h' σ' → St w κ σ₀ σ' L m μ h' → Q (.ref D) { s with heap := h' }) : SliceAt Q (.ref l) vl vu s := by
  refine ⟨l, vs.toArray, lo, hi, rfl, ⟨_, hl, rfl, k, rfl⟩, by rw [List.size_toArray, sizeLine_eq]; omega, pl, pu, ?_⟩
  rw [hs]
  have S1 := S.keeps (push_le s.heap { cls := .type "slice", data := .fields #[vl, vu, .none] })
  have S2 := S1.pushF (o := listOf ws.toArray 0) rfl
  rw [Heap.size_push] at S2
  have hn : σ (s.heap.objs.size + 1) = none := S.fro.none_size (Nat.le_succ _)
  refine h _ _ _ (upd_le hn) (upd_same _ _ _) ⟨(push_le _ _).trans (push_le _ _), upd_le hn, S2.fro, fun a o e => ?_⟩ S2
  unfold upd at e; split at e
  · rename_i q; exact .inr (q ▸ get_none_size (Nat.le_succ _))
  · exact .inl e
theorem n_len {Q : Value → Shared → Prop} {l : Addr} {vs : List Value} {k : Nat} (hl : s.heap.get? l = some (listOf vs.toArray k)) (hsz : vs.length ≤ 1000) (h : ∀ t, Q (.int vs.length t) { s with toks := s.toks + 1 + 1 }) :
    wpAny (model prog w) A (call (.builtin "len") [.ref l]) Q E s :=
  call_len_list (items := vs.toArray) ⟨_, hl, rfl, k, rfl⟩ (by rw [List.size_toArray]; omega) (by rw [List.size_toArray]; exact h _)
theorem n_item {Q : Value → Shared → Prop} {slice : Expr} {l : Addr} {vs : List Value} {k : Nat} {i : Int} {u : Tok} {x : Value} (hl : s.heap.get? l = some (listOf vs.toArray k)) (h0 : 0 ≤ i) (hi : i < 2 ^ 63) (hx : vs[i.toNat]? = some x) (h : Q x s)
    (hs : subscripted slice false (.ref l) (.int i u) = operate [.ref l, .int i u] (getItem (.ref l) (.int i u))) (hg : ∀ r, letTemporaryGo value (.ref l) r = pure ()) :
    wpAny (model prog w) A (subscriptTail value slice (.ref l) (.int i u)) Q E s :=
  item_listL ⟨_, hl, rfl, k, rfl⟩ h0 hi hx h hs hg
theorem n_titem {Q : Value → Shared → Prop} {slice : Expr} {l : Addr} {vs : List Value} {k : Nat} {i : Int} {u : Tok} {j : Nat} {x : Value} (hl : s.heap.get? l = some ({ cls := .type "tuple", data := .seq vs.toArray k } : Obj)) (hlo : -(2 ^ 63) ≤ i) (hi : i < 2 ^ 63)
    (hj : seqIndex? i vs.length = some j) (hx : vs[j]? = some x) (h : Q x s)
    (hs : subscripted slice false (.ref l) (.int i u) = operate [.ref l, .int i u] (getItem (.ref l) (.int i u))) :
    wpAny (model prog w) A (subscriptTail value slice (.ref l) (.int i u)) Q E s :=
  item_tupleT ⟨_, hl, rfl, k, rfl⟩ hlo hi hj hx h hs
end
theorem Le.app {f g : PM} {a : Addr} {o : Obj} (l : Le f g) (e : f a = some o) : g a = some o := l _ _ e
section
variable {prog : Program} {w : World} {A : Around} {E : Value → Shared → Prop} {s : Shared} {κ σ₀ σ : PM} {L : Addr} {m : Str → Option Value} {μ : List (Addr × Obj)}
theorem n_addl {Q : Value → Shared → Prop} {l b : Addr} {vs ws : List Value} {k k' : Nat} (S : St w κ σ₀ σ L m μ s.heap) (hl : s.heap.get? l = some (listOf vs.toArray k)) (hb : s.heap.get? b = some (listOf ws.toArray k')) (hsz : vs.length + ws.length ≤ 2000)
    (h : ∀ D h' σ', Le σ σ' → σ' D = some (listOf (vs ++ ws).toArray 0) → Grow s.heap σ h' σ' → St w κ σ₀ σ' L m μ h' → Q (.ref D) { s with heap := h' }) : wpAny (model prog w) A (binaryOp .Add (.ref l) (.ref b)) Q E s := by
  have hn : σ s.heap.objs.size = none := S.fro.none_size (Nat.le_refl _)
  refine P.add_list hl hb ?_ (by rw [List.size_toArray, List.size_toArray, sizeLine_eq]; omega)
  rw [List.append_toArray]
  refine h _ _ (upd σ s.heap.objs.size (listOf (vs ++ ws).toArray 0)) (upd_le hn) (upd_same _ _ _) ⟨push_le _ _, upd_le hn, (S.pushF rfl).fro, fun a o e => ?_⟩ (S.pushF rfl)
  unfold upd at e; split at e
  · rename_i q; exact .inr (q ▸ get_none_size (Nat.le_refl _))
  · exact .inl e
end
theorem dmono {w : World} {σ σ' : PM} {vs : List Value} {ns : List Int} (l : Le σ σ') (p : Paired (DecR w σ) vs ns) : Paired (DecR w σ') vs ns := pmono (fun _ _ d => DecR.mono d l) p
theorem gmono {w : World} {σ σ' : PM} {vs : List Value} {ns : List G} (l : Le σ σ') (p : Paired (GlyR w σ) vs ns) : Paired (GlyR w σ') vs ns := pmono (fun _ _ d => GlyR.mono d l) p

section
variable {prog : Program} {w : World} {A : Around} {E : Value → Shared → Prop} {s : Shared} {κ σ₀ σ : PM} {L : Addr} {m : Str → Option Value} {μ : List (Addr × Obj)} {env : Env}
theorem n_range {n : Int} {t : Tok} {Q : Value → Shared → Prop} (S : St w κ σ₀ σ L m μ s.heap)
    (h : ∀ r h' tk t u v, IsRange h' r 0 n 1 t u v → St w κ σ₀ σ L m μ h' → Grow s.heap σ h' σ → Q (.ref r) { s with heap := h', toks := tk }) : wpAny (model prog w) A (call (.type "range") [.int n t]) Q E s :=
  call_range_1 (h _ _ _ _ _ _ (IsRange.new ..) (S.keeps (push_le _ _)) (.of_keep S.fro (push_le _ _)))
theorem src_range0 {r : Addr} {n : Nat} {t u v : Tok} (hh : A.handled = none) (hr : IsRange s.heap r 0 (n : Int) 1 t u v) (hn : n ≤ 1000) :
    Src prog w A σ (.ref r) s n (fun i v => ∃ t, v = .int (i : Int) t) := by
  have := src_range (σ := σ) (prog := prog) (w := w) hh hr (small_one (by decide) (by decide) (by omega) (by omega)) (n := n) (by rw [rangeSize_nat]; simp)
  simpa using this
theorem n_itemneg {Q : Value → Shared → Prop} {value slice : Expr} {l : Addr} {vs : List Value} {k : Nat} {i : Int} {u : Tok} {x : Value} (hl : s.heap.get? l = some (listOf vs.toArray k)) (h0 : i < 0) (h1 : -(vs.length : Int) ≤ i) (h2 : -(2 ^ 63) ≤ i) (hx : vs[(i + vs.length).toNat]? = some x) (h : Q x s)
    (hs : subscripted slice false (.ref l) (.int i u) = operate [.ref l, .int i u] (getItem (.ref l) (.int i u))) :
    wpAny (model prog w) A (subscriptTail value slice (.ref l) (.int i u)) Q E s := by
  have hls : s.heap.IsList l vs.toArray := ⟨_, hl, rfl, k, rfl⟩
  exact tail_any hls.typeIs slot_list_getitem.lookup (wpAny_getItem_list_neg hls h0 (by rw [List.size_toArray]; exact h1) h2 (by simpa using hx) h) hs
theorem n_append {Q : Value → Shared → Prop} {l : Addr} {vs : List Value} {k : Nat} {x : Value} (S : St w κ σ₀ σ L m ((l, listOf vs.toArray k) :: μ) s.heap) (hz : vs.length ≤ 2000)
    (h : ∀ h' k', St w κ σ₀ σ L m ((l, listOf (vs ++ [x]).toArray k') :: μ) h' → Q .none { s with heap := h' }) : wpAny (model prog w) A (call (.builtin "list.append") [.ref l, x]) Q E s := by
  refine wpAny_list_append_plain (hsz := by rw [List.size_toArray, sizeLine_eq]; omega) ⟨k, (S.mu _ (.head _)).1⟩ fun h₃ hpl hs₃ => ?_
  obtain ⟨k₃, e₃⟩ := hpl
  exact h _ k₃ (S.upd0 hs₃ (by rw [e₃]; simp))
theorem n_append1 {Q : Value → Shared → Prop} {p : Addr × Obj} {l : Addr} {vs : List Value} {k : Nat} {x : Value} (S : St w κ σ₀ σ L m (p :: (l, listOf vs.toArray k) :: μ) s.heap) (hz : vs.length ≤ 2000)
    (h : ∀ h' k', St w κ σ₀ σ L m (p :: (l, listOf (vs ++ [x]).toArray k') :: μ) h' → Q .none { s with heap := h' }) : wpAny (model prog w) A (call (.builtin "list.append") [.ref l, x]) Q E s :=
  n_append (S.perm (List.Perm.swap _ _ _)) hz fun h' k' S' => h h' k' (S'.perm (List.Perm.swap _ _ _))
theorem n_append2 {Q : Value → Shared → Prop} {p q : Addr × Obj} {l : Addr} {vs : List Value} {k : Nat} {x : Value} (S : St w κ σ₀ σ L m (p :: q :: (l, listOf vs.toArray k) :: μ) s.heap) (hz : vs.length ≤ 2000)
    (h : ∀ h' k', St w κ σ₀ σ L m (p :: q :: (l, listOf (vs ++ [x]).toArray k') :: μ) h' → Q .none { s with heap := h' }) : wpAny (model prog w) A (call (.builtin "list.append") [.ref l, x]) Q E s :=
  n_append (S.perm ((List.Perm.swap _ _ _).trans ((List.Perm.swap _ _ _).cons _))) hz fun h' k' S' => h h' k' (S'.perm (((List.Perm.swap _ _ _).cons _).trans (List.Perm.swap _ _ _)))
theorem St.drop1 {p q : Addr × Obj} {h : Heap} (S : St w κ σ₀ σ L m (p :: q :: μ) h) : St w κ σ₀ σ L m (p :: μ) h := St.drop (μ' := [q]) (S.perm (List.Perm.swap _ _ _))
theorem St.drop0 {q : Addr × Obj} {h : Heap} (S : St w κ σ₀ σ L m (q :: μ) h) : St w κ σ₀ σ L m μ h := St.drop (μ' := [q]) S
theorem n_extend {Q : Value → Shared → Prop} {l b : Addr} {vs ws : List Value} {k k' : Nat} (S : St w κ σ₀ σ L m ((l, listOf vs.toArray k) :: μ) s.heap) (hb : s.heap.get? b = some (listOf ws.toArray k')) (hz : vs.length + ws.length ≤ 2000)
    (h : ∀ h' k', St w κ σ₀ σ L m ((l, listOf (vs ++ ws).toArray k') :: μ) h' → Q .none { s with heap := h' }) : wpAny (model prog w) A (call (.builtin "list.extend") [.ref l, .ref b]) Q E s := by
  have e1 := (S.mu _ (.head _)).1
  refine call_meets F.slot_list_extend ⟨_, e1, rfl⟩ F.entry_list_extend (F.args_list_extend_2 _ _) (AutoSeq1.list_extend_list_list_0 l vs.toArray k b ws.toArray k' ?_ ?_ ?_) ⟨e1, hb, ?_⟩
  · intro q
    have q2 : Builtin.List.listTooLong (vs.toArray.size + ws.toArray.size) = true := by
      cases hq : Builtin.List.listTooLong (vs.toArray.size + ws.toArray.size) with
      | true => rfl
      | false => rw [hq, Bool.and_false] at q; cases q
    unfold Builtin.List.listTooLong at q2
    have q3 := of_decide_eq_true q2
    rw [List.size_toArray, List.size_toArray, sizeLine_eq] at q3
    omega
  · rw [List.size_toArray, sizeLine_eq]; omega
  · rw [List.size_toArray, List.size_toArray, sizeLine_eq]; omega
  · have q := PySem.IsL.update e1 fun x => x ++ ws.toArray
    rw [List.append_toArray] at q
    exact h _ _ (S.upd0 (Heap.SameBut.update ..) q)
theorem m_append {Q : Value × List Value → Shared → Prop} {l : Addr} {vs : List Value} {k : Nat} {pl : Sem Bool} (hl : s.heap.get? l = some (listOf vs.toArray k)) (h : Q (.builtin "list.append", [.ref l]) s) : wpAny (model prog w) A (getMethod (.ref l) "append" pl) Q E s :=
  getMethod_list_append hl rfl rfl h
theorem m_extend {Q : Value × List Value → Shared → Prop} {l : Addr} {vs : List Value} {k : Nat} {pl : Sem Bool} (hl : s.heap.get? l = some (listOf vs.toArray k)) (h : Q (.builtin "list.extend", [.ref l]) s) : wpAny (model prog w) A (getMethod (.ref l) "extend" pl) Q E s :=
  getMethod_list_of F.slot_list_extend F.type_list_extend ⟨_, hl, rfl, k, rfl⟩ ⟨_, hl, rfl⟩ h
end

section
variable {prog : Program} {w : World} {A : Around} {E : Value → Shared → Prop} {s : Shared} {a₀ : Array Keyed} {κ : SortKind}

def Asks (prog : Program) (w : World) (A : Around) (E : Value → Shared → Prop) (s : Shared) (κ : SortKind) (a₀ : Array Keyed) (b : Bool) : Prop :=
  ∀ i, 1 ≤ i → i < a₀.size → ∀ st : SortSt, arrOf st = a₀ → kindOf st = κ → ∀ Q : Option Bool → SortSt → Prop, Q (some b) st → wpS (model prog w) A E s (ltAt' i (i - 1)) Q st

theorem asc_none {st : SortSt} {nrem : Nat} {Q : AscSt → SortSt → Prop} (hq : Asks prog w A E s κ a₀ false) (hn : nrem ≤ a₀.size) (h1 : 1 ≤ nrem) (ha : arrOf st = a₀) (hk : kindOf st = κ)
    (h : Q (none, nrem) st) : wpS (model prog w) A E s (ascLoop 1 nrem) Q st := by
  unfold ascLoop
  refine wpS_forRange (I := fun x c st' => st' = st ∧ c = (none, x)) ?step ?fin ⟨rfl, rfl⟩
  case fin =>
    rintro c st' ⟨rfl, rfl⟩
    rw [show max 1 nrem = nrem by omega]
    exact h
  case step =>
    rintro x c st' hax hxn ⟨rfl, rfl⟩
    dsimp only
    refine wpS_bind (hq x hax (by omega) _ ha hk _ ?_)
    simp only [Bool.false_eq_true, if_false]
    exact wpS_pure ⟨rfl, rfl⟩
theorem asc_first {st : SortSt} {nrem : Nat} {Q : AscSt → SortSt → Prop} (hq : Asks prog w A E s κ a₀ true) (hn : nrem ≤ a₀.size) (h1 : 2 ≤ nrem) (ha : arrOf st = a₀) (hk : kindOf st = κ)
    (h : Q (none, 1) st) : wpS (model prog w) A E s (ascLoop 1 nrem) Q st := by
  unfold ascLoop
  refine wpS_forRange (I := fun x c st' => st' = st ∧ c = (none, x) ∧ x = 1) ?step ?fin ⟨rfl, rfl, rfl⟩
  case fin =>
    rintro c st' ⟨rfl, rfl, e⟩
    omega
  case step =>
    rintro x c st' hax hxn ⟨rfl, rfl, rfl⟩
    dsimp only
    refine wpS_bind (hq 1 hax (by omega) _ ha hk _ ?_)
    simp only [if_true]
    exact wpS_pure h
theorem asc_end {st : SortSt} {n : Nat} {Q : AscSt → SortSt → Prop} (h : Q (none, n) st) : wpS (model prog w) A E s (ascLoop n n) Q st := by
  unfold ascLoop
  refine wpS_forRange (I := fun x c st' => st' = st ∧ c = (none, x)) ?step ?fin ⟨rfl, rfl⟩
  case fin =>
    rintro c st' ⟨rfl, rfl⟩
    rw [Nat.max_self]; exact h
  case step =>
    rintro x c st' hax hxn _
    omega
theorem desc_all {st : SortSt} {nrem : Nat} {Q : DescSt → SortSt → Prop} (hq : Asks prog w A E s κ a₀ true) (hn : nrem ≤ a₀.size) (h1 : 2 ≤ nrem) (ha : arrOf st = a₀) (hk : kindOf st = κ)
    (h : Q (none, nrem, 0) st) : wpS (model prog w) A E s (descLoop 2 nrem) Q st := by
  unfold descLoop
  refine wpS_forRange (I := fun x c st' => st' = st ∧ c = (none, x, 0)) ?step ?fin ⟨rfl, rfl⟩
  case fin =>
    rintro c st' ⟨rfl, rfl⟩
    rw [show max 2 nrem = nrem by omega]
    exact h
  case step =>
    rintro x c st' hax hxn ⟨rfl, rfl⟩
    dsimp only
    refine wpS_bind (hq x (by omega) (by omega) _ ha hk _ ?_)
    simp only [if_true, Nat.lt_irrefl, if_false, gt_iff_lt]
    exact wpS_pure ⟨rfl, rfl⟩

def runOut (b : Bool) (a₀ : Array Keyed) : Array Keyed := if b = true then mirror a₀ 0 a₀.size ((a₀.size - 0) / 2) else a₀
theorem runOut_size (b : Bool) : (runOut b a₀).size = a₀.size := by
  unfold runOut; split
  · exact mirror_size _ _ _ _
  · rfl
theorem count_run {b : Bool} {st : SortSt} {Q : Option Nat → SortSt → Prop} (hq : Asks prog w A E s κ a₀ b) (h2 : 2 ≤ a₀.size) (ha : arrOf st = a₀) (hk : kindOf st = κ) (hf : failedOf st = none) (hp : pendingOf st = #[])
    (h : ∀ st', arrOf st' = runOut b a₀ → failedOf st' = none → pendingOf st' = #[] → Q (some a₀.size) st') : wpS (model prog w) A E s (countRun' 0 a₀.size) Q st := by
  rw [countRun0_eq]
  cases b with
  | false =>
    refine wpS_bind (asc_none hq (Nat.le_refl _) (by omega) ha hk ?_)
    dsimp only
    rw [if_pos (by simp)]
    exact wpS_pure (h st ha hf hp)
  | true =>
    refine wpS_bind (asc_first hq (Nat.le_refl _) h2 ha hk ?_)
    dsimp only
    rw [if_neg (by simp; omega), if_neg (by omega)]
    unfold descPart
    refine wpS_bind (wpS_lift (wpAny_rule ⟨rfl, ?_⟩))
    refine wpS_bind (desc_all hq (Nat.le_refl _) h2 ha hk ?_)
    dsimp only
    rw [if_neg (by omega)]
    unfold tail3
    refine wpS_bind (wpS_reverse ?_)
    refine wpS_bind (asc_end ?_)
    dsimp only
    exact wpS_pure (h _ (by show mirror (arrOf st) _ _ _ = _; rw [ha]; rfl) hf hp)

theorem sort_run {b : Bool} {st : SortSt} {Q : Unit → SortSt → Prop} (hq : Asks prog w A E s κ a₀ b) (h2 : 2 ≤ a₀.size) (h64 : a₀.size < 64) (ha : arrOf st = a₀) (hk : kindOf st = κ) (hf : failedOf st = none) (hp : pendingOf st = #[])
    (h : ∀ st', arrOf st' = runOut b a₀ → failedOf st' = none → Q () st') : wpS (model prog w) A E s sortRuns' Q st := by
  rw [sortRuns'_eq]
  refine wpS_bind (wpS_get ?_)
  dsimp only
  have hmr : minRun' a₀.size a₀.size 0 = a₀.size := by
    obtain ⟨f, hf⟩ : ∃ f, a₀.size = f + 1 := ⟨a₀.size - 1, by omega⟩
    have : minRun' (f + 1) a₀.size 0 = a₀.size := by rw [minRun'_succ, if_pos h64]; rfl
    rwa [← hf] at this
  rw [ha]
  simp only [hmr]
  refine wpS_bind (wpS_mono (wpS_forRange
    (I := fun x c st' => (x = 0 ∧ c = (none, 0) ∧ st' = st) ∨ (1 ≤ x ∧ c = (none, a₀.size) ∧ arrOf st' = runOut b a₀ ∧ failedOf st' = none ∧ (pendingOf st').size = 1))
    (Q := fun c st' => c = (none, a₀.size) ∧ arrOf st' = runOut b a₀ ∧ failedOf st' = none ∧ (pendingOf st').size = 1) ?step ?fin (.inl ⟨rfl, rfl, rfl⟩)) ?post)
  case fin =>
    rintro c st' (⟨hx, _, _⟩ | ⟨_, hc, hD⟩)
    · omega
    · exact ⟨hc, hD⟩
  case step =>
    rintro x c st' _ hx (⟨rfl, rfl, rfl⟩ | ⟨hx1, rfl, hD⟩)
    · dsimp only
      rw [if_neg (by omega)]
      simp only [Nat.sub_zero, Nat.min_self, Nat.zero_add]
      refine wpS_bind (count_run hq h2 ha hk hf hp fun st2 h1 hf2 hp2 => ?_)
      dsimp only
      rw [if_neg (Nat.lt_irrefl _)]
      refine wpS_bind (wpS_get ?_)
      have hb : (pendingOf st2).back? = none := by rw [hp2]; rfl
      rw [hb]
      dsimp only
      refine wpS_bind (wpS_modify (wpS_pure (.inr ⟨by omega, rfl, h1, hf2, ?_⟩)))
      show ((pendingOf st2).push _).size = 1
      rw [hp2]; rfl
    · dsimp only
      rw [if_pos (Nat.le_refl _)]
      exact wpS_pure ⟨rfl, hD⟩
  case post =>
    rintro c st' ⟨rfl, hD⟩
    dsimp only
    refine wpS_bind (wpS_mono (wpS_forRange (I := fun _ c st'' => st'' = st' ∧ c = (none, ())) (Q := fun c st'' => st'' = st' ∧ c = (none, ())) ?_ (fun _ _ hh => hh) ⟨rfl, rfl⟩) ?_)
    · rintro x c st'' _ _ ⟨rfl, rfl⟩
      refine wpS_bind (wpS_get ?_)
      rw [if_pos (by rw [hD.2.2]; exact Nat.le_refl 1)]
      exact wpS_pure ⟨rfl, rfl⟩
    · rintro c st'' ⟨rfl, rfl⟩
      exact wpS_pure (h _ hD.1 hD.2.1)
end

def lexB (x y : Int × Int × Int) : Bool := if (x.1 == y.1) = true then (if (x.2.1 == y.2.1) = true then (if (x.2.2 == y.2.2) = true then false else decide (x.2.2 < y.2.2)) else decide (x.2.1 < y.2.1)) else decide (x.1 < y.1)
def KeyR (σ : PM) (v : Value) (x : Int × Int × Int) : Prop := ∃ a t u z, v = .ref a ∧ σ a = some ({ cls := .type "tuple", data := .seq #[.int x.1 t, .int x.2.1 u, .int x.2.2 z] } : Obj)
theorem KeyR.mono {σ σ' : PM} {v : Value} {x : Int × Int × Int} (d : KeyR σ v x) (l : Le σ σ') : KeyR σ' v x := let ⟨a, t, u, z, e, h⟩ := d; ⟨a, t, u, z, e, l _ _ h⟩
section
variable {prog : Program} {w : World} {A : Around} {E : Value → Shared → Prop} {s : Shared} {σ : PM}
theorem key_lt {v1 v2 : Value} {x y : Int × Int × Int} {Q : Bool → Shared → Prop} (hf : Le σ s.heap.get?) (k1 : KeyR σ v1 x) (k2 : KeyR σ v2 y) (h : Q (lexB x y) s) : wpAny (model prog w) A (keyLt' (tuples' true) v1 v2) Q E s := by
  obtain ⟨a, t, u, z, rfl, h1⟩ := k1
  obtain ⟨a', t', u', z', rfl, h2⟩ := k2
  refine kat_lt (hf _ _ h1) rfl (hf _ _ h2) rfl ?_
  show KatLex prog w A true _ Q [(.int x.1 t, .int y.1 t'), (.int x.2.1 u, .int y.2.1 u'), (.int x.2.2 z, .int y.2.2 z')] 0 s
  unfold lexB at h
  refine kat_cons (wpAny_eqBool_int (kat_go (fun e => ?_) fun e => ?_))
  · rw [if_pos e] at h
    refine kat_yes (kat_cons (wpAny_eqBool_int (kat_go (fun e => ?_) fun e => ?_)))
    · rw [if_pos e] at h
      refine kat_yes (kat_cons (wpAny_eqBool_int (kat_go (fun e => ?_) fun e => ?_)))
      · rw [if_pos e] at h
        exact kat_yes (kat_nil h)
      · rw [if_neg (by simp [e])] at h
        exact kat_no (kat_one _ _ (PyProof.Rows.lt_int h))
    · rw [if_neg (by simp [e])] at h
      exact kat_no (kat_one _ _ (PyProof.Rows.lt_int h))
  · rw [if_neg (by simp [e])] at h
    exact kat_no (oneLt_int h)

theorem asks_keys {b : Bool} {ks vs : List Value} {xs : List (Int × Int × Int)} (hf : Le σ s.heap.get?) (hk : Paired (KeyR σ) ks xs) (hl : ks.length = vs.length) (hb : ∀ i, 1 ≤ i → i < xs.length → ∀ x y, xs[i]? = some x → xs[i - 1]? = some y → lexB x y = b) :
    Asks prog w A E s (tuples' true) (ks.toArray.zip vs.toArray) b := by
  intro i h1 hi st ha hkind Q hq
  have hz : (ks.toArray.zip vs.toArray).size = ks.length := by simp [hl]
  rw [hz] at hi
  have at_ : ∀ j, j < ks.length → ∃ k v, (ks.toArray.zip vs.toArray)[j]? = some (k, v) ∧ ks[j]? = some k := fun j hj => by
    have h2 : j < vs.length := by omega
    exact ⟨ks[j], vs[j], by simp; exact List.getElem?_zip_eq_some.mpr ⟨by simp [hj], by simp [h2]⟩, by simp [hj]⟩
  obtain ⟨k1, v1, e1, f1⟩ := at_ i hi
  obtain ⟨k2, v2, e2, f2⟩ := at_ (i - 1) (by omega)
  obtain ⟨x, hx, r1⟩ := pat hk f1
  obtain ⟨y, hy, r2⟩ := pat hk f2
  rw [ltAt'_eq]
  refine wpS_bind (wpS_get ?_)
  show wpS _ _ _ _ (do let x ← elem' (arrOf st) i; let y ← elem' (arrOf st) (i - 1); lt' x y) Q st
  rw [elem'_eq, elem'_eq, ha, e1, e2]
  refine wpS_bind (wpS_pure (wpS_bind (wpS_pure ?_)))
  rw [lt'_eq]
  refine wpS_bind (wpS_get ?_)
  rw [hkind]
  refine wpS_bind (wpS_lift (wpAny_attempt (key_lt hf r1 r2 ⟨rfl, ?_⟩)))
  rw [hb i h1 (by rw [← hk.length]; exact hi) x y hx hy]
  exact wpS_pure hq

theorem kat_tups_of {ks : List Value} {xs : List (Int × Int × Int)} {h : Heap} (hf : Le σ h.get?) (hk : Paired (KeyR σ) ks xs) : ∃ fs, KatTups h ks fs ∧ fs.length = xs.length ∧ ∀ v ∈ fs, ∃ n t, v = .int n t := by
  induction hk with
  | nil => exact ⟨[], .nil, rfl, fun _ h => nomatch h⟩
  | @cons k x ks xs hd tl ih =>
    obtain ⟨fs, h1, h2, h3⟩ := ih
    obtain ⟨a, t, u, z, rfl, e⟩ := hd
    exact ⟨.int x.1 t :: fs, .cons (hf _ _ e) rfl rfl rfl h1, by simp [h2], fun v hv => by
      rcases List.mem_cons.mp hv with rfl | hv
      · exact ⟨_, _, rfl⟩
      · exact h3 v hv⟩
theorem collect_codes {r : Addr} {n : Nat} {t u v : Tok} {R : Result → Shared → Prop} (hh : A.handled = none) (hr : IsRange s.heap r 0 (n : Int) 1 t u v) (hn : n ≤ 1000)
    (h : ∀ h' tk vs c, Le s.heap.get? h'.get? → h'.get? s.heap.objs.size = some { cls := .type "list", dict := none, data := .seq vs c, slots := #[] } → ItemsOf (fun i v => ∃ t, v = .int (0 + (i : Nat) * 1) t) vs n → R (.ok (.ret (.ref s.heap.objs.size))) { s with heap := h', toks := tk }) :
    codeAny (model prog w) A (.builtin "proto.collect" ⟨[.ref r], []⟩) R s := by
  refine codeAny_builtin entry_proto_collect' ?_
  show wpAny _ _ (do again (.builtin "list.__iadd__" ⟨[← newList [], .ref r], []⟩)) _ _ s
  refine wpAny_bind (wpAny_newList (wpAny_pure ⟨Code.quiet_builtin _ (by decide +kernel), codeAny_builtin entry_list_iadd' ?_⟩))
  rw [Around.under_plainId F.plain_list_iadd _]
  show wpAny _ A.in1 (Builtin.List.listExtendWith (.ref s.heap.objs.size) (.ref r) (.ref s.heap.objs.size)) _ _ { s with heap := s.heap.push (seqObj "list" #[] 0) }
  refine wpAny_extend_range (s := { s with heap := s.heap.push (seqObj "list" #[] 0) }) hh (Heap.get?_push_of_some _ hr) (small_one (by decide) (by decide) (by omega) (by omega)) (n := n) (by rw [rangeSize_nat]; simp) (by omega) s.heap.objs.size (.ref s.heap.objs.size) 0 (Heap.get?_push_size _ rfl) ?_
  intro h' tk acc c hk hS hacc
  exact h h' tk acc c (fun a o e => hk a o (Nat.ne_of_lt (Heap.lt_size e)) (Heap.get?_push_of_some _ e)) hS hacc
theorem collect_range {r : Addr} {n : Nat} {t u v : Tok} {Q : List Value → Shared → Prop} (hh : A.handled = none) (hr : IsRange s.heap r 0 (n : Int) 1 t u v) (hn : n ≤ 1000)
    (h : ∀ h' tk vs, Le s.heap.get? h'.get? → ItemsOf (fun i v => ∃ t, v = .int (0 + (i : Nat) * 1) t) vs n → Q vs.toList { s with heap := h', toks := tk }) : wpAny (model prog w) A (collect (.ref r)) Q E s := by
  unfold collect
  refine wpAny_bind (wpAny_runValue (collect_codes hh hr hn fun h' tk acc c hk hS hacc => ?_))
  show wpAny (model prog w) A (do
      let o ← load s.heap.objs.size
      match o.data with
      | .seq xs _ => pure xs.toList
      | _ => unsupported "internal:collect") Q E { s with heap := h', toks := tk }
  refine wpAny_bind (wpAny_load hS ?_)
  exact wpAny_pure (h h' tk acc hk hacc)
end

def upTo (n : Nat) : List Int := (List.range n).map fun i => ((i : Nat) : Int)
def ordOf (b : Bool) (n : Nat) : List Int := if b = true then (upTo n).reverse else upTo n
theorem upTo_len (n : Nat) : (upTo n).length = n := by simp [upTo]
theorem upTo_get {n i : Nat} (h : i < n) : (upTo n)[i]? = some (i : Int) := by simp [upTo, h]
theorem paired_of {α β : Type} {F : α → β → Prop} : ∀ {vs : List α} {xs : List β}, vs.length = xs.length → (∀ (i : Nat) v x, vs[i]? = some v → xs[i]? = some x → F v x) → Paired F vs xs
  | [], [], _, _ => .nil
  | [], _ :: _, h, _ => nomatch h
  | _ :: _, [], h, _ => nomatch h
  | v :: vs, x :: xs, h, k => .cons (k 0 v x rfl rfl) (paired_of (by simpa using h) fun i a b ha hb => k (i + 1) a b (by simpa using ha) (by simpa using hb))
theorem prev {α β : Type} {F : α → β → Prop} {vs : List α} {xs : List β} (p : Paired F vs xs) : Paired F vs.reverse xs.reverse := by
  induction p with
  | nil => exact .nil
  | cons h _ ih => rw [List.reverse_cons, List.reverse_cons]; exact papp ih (.cons h .nil)
theorem zip_get {ks vs : List Value} (hl : ks.length = vs.length) (i : Nat) : ((ks.toArray.zip vs.toArray)[i]?).map (fun p : Keyed => p.2) = vs[i]? := by
  simp
  by_cases h : i < vs.length
  · have e : (ks.zip vs)[i]? = some (ks[i]'(by omega), vs[i]) := List.getElem?_zip_eq_some.mpr ⟨by simp, by simp⟩
    rw [e]; simp
  · rw [List.getElem?_eq_none (by simp; omega), List.getElem?_eq_none (by omega)]; rfl
theorem runOut_snd {b : Bool} {ks vs : List Value} (hl : ks.length = vs.length) : (runOut b (ks.toArray.zip vs.toArray)).map (fun p : Keyed => p.2) = (if b = true then vs.reverse else vs).toArray := by
  have hz : (ks.toArray.zip vs.toArray).size = vs.length := by simp [hl]
  apply Array.ext_getElem?
  intro i
  rw [Array.getElem?_map]
  cases b with
  | false =>
    rw [show runOut false (ks.toArray.zip vs.toArray) = ks.toArray.zip vs.toArray from rfl, zip_get hl]
    simp
  | true =>
    rw [show runOut true (ks.toArray.zip vs.toArray) = mirror (ks.toArray.zip vs.toArray) 0 (ks.toArray.zip vs.toArray).size (((ks.toArray.zip vs.toArray).size - 0) / 2) from rfl, getElem?_mirror_all (Nat.le_refl _)]
    rw [hz]
    by_cases h : i < vs.length
    · rw [if_pos ⟨Nat.zero_le _, h⟩, zip_get hl]
      simp only [if_true, List.getElem?_toArray]
      rw [List.getElem?_reverse h]
      congr 1; omega
    · rw [if_neg (by omega), zip_get hl]
      simp only [if_true, List.getElem?_toArray]
      rw [List.getElem?_eq_none (by omega), List.getElem?_eq_none (by simp; omega)]

section
variable {prog : Program} {w : World} {A : Around} {E : Value → Shared → Prop} {s : Shared} {κ σ₀ σ : PM} {L : Addr} {m : Str → Option Value} {μ : List (Addr × Obj)}
def KEnd (w : World) (κ σ₀ σ : PM) (L : Addr) (m : Str → Option Value) (μ : List (Addr × Obj)) (s : Shared) (x : Int × Int × Int) (k : Value) (s'' : Shared) : Prop :=
  ∃ σ'' h'' tk'', s'' = { s with heap := h'', toks := tk'' } ∧ Le σ σ'' ∧ KeyR σ'' k x ∧ St w κ σ₀ σ'' L m μ h''
theorem kend {σ' σ'' : PM} {x : Int × Int × Int} {k : Value} {h h'' : Heap} {tk'' : Nat} {L₂ : Addr} {m₂ : Str → Option Value} (S : St w κ σ₀ σ' L m μ h) (S₂ : St w h.get? σ' σ'' L₂ m₂ [] h'') (hk : KeyR σ'' k x) : KEnd w κ σ₀ σ' L m μ s x k { s with heap := h'', toks := tk'' } :=
  ⟨σ'', h'', tk'', rfl, S₂.sub, hk, S.grow S₂.leave⟩
theorem upd_at {a : Addr} {its : Array Value} {n : Nat} {h : Heap} (f : Array Value → Array Value) (S : St w κ σ₀ σ L m ((a, listOf its n) :: μ) h) : ∃ n', St w κ σ₀ σ L m ((a, listOf (f its) n') :: μ) (h.update a (Obj.mapSeq f)) :=
  ⟨_, S.upd0 (Heap.SameBut.update h a (Obj.mapSeq f)) (PySem.IsL.update (S.mu _ (.head _)).1 f)⟩
theorem key_tail {D kS : Addr} {st : SortSt} {out ks : List Value} {kk e1 : Nat} {P : PySem.Fin → Shared → Prop} (S : St w κ σ₀ σ L m ((kS, listOf ks.toArray kk) :: (D, listOf #[] e1) :: μ) s.heap) (hk : ks.length < 64) (ho : out.length < 64)
    (hout : (arrOf st).map (fun p : Keyed => p.2) = out.toArray) (hf : failedOf st = none)
    (done : ∀ k h', St w κ σ₀ σ L m ((D, listOf out.toArray k) :: μ) h' → P (.done (.ret .none)) { s with heap := h' }) :
    wpAny (model prog w) A (ksk_tail D false e1 (.ref kS) st) P E s := by
  unfold ksk_tail
  dsimp only
  refine wpAny_bind (listUpdate_at (S.mu _ (.head _)).1 rfl ?_ (by rw [List.size_toArray, sizeLine_eq]; omega) (Nat.zero_le _))
  obtain ⟨n1, S1⟩ := upd_at (fun _ => #[]) S
  have S2 := S1.drop0
  refine wpAny_bind (wpAny_letGo ?_)
  refine wpAny_bind (seqEpoch_at (S2.mu _ (.head _)).1 rfl ?_)
  rw [hout]
  simp only [Bool.false_eq_true, if_false]
  refine wpAny_bind (listUpdate_at (S2.mu _ (.head _)).1 rfl ?_ (Nat.zero_le _) (by rw [List.size_toArray, sizeLine_eq]; omega))
  obtain ⟨n2, S3⟩ := upd_at (fun _ => out.toArray) S2
  rw [hf]
  simp only [bne_self_eq_false, Bool.false_eq_true, if_false]
  exact wpAny_pure (done _ _ S3)

theorem key_tree {D f : Addr} {n : Nat} {b : Bool} {key : Nat → Int × Int × Int} {vs : List Value} {k0 : Nat} {P : PySem.Fin → Shared → Prop} (S : St w κ σ₀ σ L m ((D, listOf vs.toArray k0) :: μ) s.heap) (hv : Paired IntV vs (upTo n)) (hn : n < 64)
    (hb : ∀ i, 1 ≤ i → i < n → lexB (key i) (key (i - 1)) = b)
    (turn : ∀ i t σ' p q h tk, i < n → Le σ σ' → St w κ σ₀ σ' L m (p :: q :: μ) h → wpAny (model prog w) A (call (.ref f) [.int (i : Int) t])
      (fun k s'' => KEnd w κ σ₀ σ' L m (p :: q :: μ) s (key i) k s'') Zf { s with heap := h, toks := tk })
    (done : ∀ out k h' tk σ', Le σ σ' → Paired IntV out (ordOf b n) → St w κ σ₀ σ' L m ((D, listOf out.toArray k) :: μ) h' → P (.done (.ret .none)) { s with heap := h', toks := tk }) :
    wpAny (model prog w) A (ksk_tree D (.ref f) false) P E s := by
  have hlen : vs.length = n := by rw [hv.length, upTo_len]
  unfold ksk_tree
  refine wpAny_bind (listItems_at (S.mu _ (.head _)).1 rfl ?_)
  refine wpAny_bind (listUpdate_at (S.mu _ (.head _)).1 rfl ?_ (by rw [List.size_toArray, sizeLine_eq]; omega) (Nat.zero_le _))
  obtain ⟨e1, S1⟩ := upd_at (fun _ => #[]) S
  refine wpAny_bind (seqEpoch_at (S1.mu _ (.head _)).1 rfl ?_)
  refine wpAny_bind (wpAny_newTuple ?_ (by show vs.length ≤ _; rw [sizeLine_eq]; omega))
  refine wpAny_bind (wpAny_newList ?_ (Nat.zero_le _))
  have S2 := S1.keeps (push_le _ (seqObj "tuple" vs.toArray 0))
  have S3 := S2.pushM (o := listOf ([] : List Value).toArray 0) rfl
  refine wpAny_holding ?_
  unfold ksk_rest
  refine wpAny_bind (wpAny_rule ?_)
  rw [List.forIn_toArray]
  dsimp only at S3 ⊢
  generalize ((s.heap.update D (Obj.mapSeq fun _ => (#[] : Array Value))).push (seqObj "tuple" vs.toArray 0)).objs.size = kS at S3 ⊢
  refine wpAny_bind (ksk_fold (fun i s' => ∃ h' tk σ' ks kk, s' = { s with heap := h', toks := tk } ∧ Le σ σ' ∧ i ≤ n ∧ Paired (KeyR σ') ks (((List.range n).map key).take i) ∧ St w κ σ₀ σ' L m ((kS, listOf ks.toArray kk) :: (D, listOf #[] e1) :: μ) h') vs 0 _
    ⟨_, _, σ, [], 0, rfl, Le.refl _, Nat.zero_le _, .nil, S3⟩ ?step ?fin)
  case step =>
    rintro j x s' hx ⟨h', tk, σ', ks, kk, rfl, l', hi, hk, S'⟩
    simp only [Nat.zero_add] at hk hi ⊢
    have hj : j < n := by rw [← hlen]; exact (List.getElem?_eq_some_iff.mp hx).1
    obtain ⟨i, hi', t, rfl⟩ := pat hv hx
    rw [upTo_get hj] at hi'
    cases hi'
    refine wpAny_bind (wpAny_attempt (wpAny_mono (turn j t σ' _ _ h' tk hj l' S') (fun k s'' he => ?_) fun _ _ x => x.elim))
    obtain ⟨σ'', h'', tk'', rfl, l'', hkey, S''⟩ := he
    dsimp only
    have hks : ks.length ≤ 64 := by rw [hk.length, List.length_take]; omega
    refine wpAny_bind (listUpdate_at (S''.mu _ (.head _)).1 rfl ?_ (by rw [List.size_toArray, sizeLine_eq]; omega) (Nat.le_trans (Nat.le_of_eq (Array.size_push ..)) (by rw [List.size_toArray, sizeLine_eq]; omega)))
    obtain ⟨e2, S4⟩ := upd_at (fun x => x.push k) S''
    refine wpAny_pure ⟨rfl, _, _, σ'', ks ++ [k], e2, rfl, l'.trans l'', hj, ?_, ?_⟩
    · rw [take_snoc (x := key j) (by simp [hj])]
      exact papp (pmono (fun _ _ d => KeyR.mono d l'') hk) (.cons hkey .nil)
    · have e : ks.toArray.push k = (ks ++ [k]).toArray := by simp
      rw [← e]; exact S4
  case fin =>
    rintro s' ⟨h', tk, σ', ks, kk, rfl, l', hi, hk, S'⟩
    rw [Nat.zero_add, hlen, List.take_of_length_le (by simp)] at hk
    have hkl : ks.length = n := by rw [hk.length]; simp
    refine wpAny_bind (listItems_at (S'.mu _ (.head _)).1 rfl ?_)
    unfold ksk_end
    simp only [Bool.false_eq_true, if_false]
    by_cases h2 : vs.toArray.size < 2
    · rw [if_pos h2, if_pos h2]
      refine wpAny_bind (wpAny_pure ?_)
      rw [StateT.run_pure]
      refine wpAny_bind (wpAny_pure ?_)
      dsimp only
      rw [List.size_toArray] at h2
      refine key_tail (out := vs) (ks := ks) S' (by omega) (by omega) ?_ rfl fun k h3 S3' => ?_
      · exact runOut_snd (b := false) (ks := ks) (vs := vs) (by omega)
      · refine done vs _ _ _ σ' l' ?_ S3'
        have : ordOf b n = upTo n := by
          unfold ordOf; split
          · have hn2 : n = 0 ∨ n = 1 := by omega
            rcases hn2 with rfl | rfl <;> rfl
          · rfl
        rw [this]; exact hv
    · rw [if_neg h2, if_neg h2]
      rw [List.size_toArray] at h2
      obtain ⟨fs, t1, t2, t3⟩ := kat_tups_of S'.fro hk
      refine wpAny_bind (kat_kind (T := .type "int") t1 (by rw [t2]; simp; omega) (fun v hv => ?_) rfl ?_)
      · obtain ⟨a, t, rfl⟩ := t3 v hv; exact Looks.of_pure rfl
      have hzs : (ks.toArray.zip vs.toArray).size = n := by simp; omega
      refine wpAny_bind (wpAny_mono (sort_run (a₀ := ks.toArray.zip vs.toArray) (κ := tuples' true) (b := b) (st := SortSt.mk' (tuples' true) (ks.toArray.zip vs.toArray) #[] 7 none)
        (Q := fun _ st' => arrOf st' = runOut b (ks.toArray.zip vs.toArray) ∧ failedOf st' = none)
        (asks_keys S'.fro hk (by omega) (fun i h1 hi x y hx hy => ?_)) (by rw [hzs]; omega) (by rw [hzs]; exact hn) rfl rfl rfl rfl fun st' a1 a2 => ⟨a1, a2⟩) ?_ fun _ _ e => e)
      · simp only [List.length_map, List.length_range] at hi
        have ex : x = key i := by simpa [hi] using hx.symm
        have ey : y = key (i - 1) := by have : i - 1 < n := by omega
                                        simpa [this] using hy.symm
        rw [ex, ey]; exact hb i h1 hi
      rintro ⟨⟨⟩, st'⟩ s' ⟨rfl, ha, hf⟩
      dsimp only
      refine key_tail (out := if b = true then vs.reverse else vs) (ks := ks) S' (by omega) (by split <;> (try rw [List.length_reverse]) <;> omega) (by rw [ha]; exact runOut_snd (by omega)) hf fun k h3 S3' => ?_
      refine done _ _ _ _ σ' l' ?_ S3'
      unfold ordOf
      cases b with
      | true => exact prev hv
      | false => exact hv
theorem sorted_key {r f : Addr} {n : Nat} {b : Bool} {key : Nat → Int × Int × Int} {t u v : Tok} {Q : Value → Shared → Prop} (hh : A.handled = none) (S : St w κ σ₀ σ L m μ s.heap) (hr : IsRange s.heap r 0 (n : Int) 1 t u v) (hn : n < 64)
    (hb : ∀ i, 1 ≤ i → i < n → lexB (key i) (key (i - 1)) = b)
    (turn : ∀ i t σ' p q h tk, i < n → Le σ σ' → St w κ σ₀ σ' L m (p :: q :: μ) h → wpAny (model prog w) A.in1.in1 (call (.ref f) [.int (i : Int) t])
      (fun k s'' => KEnd w κ σ₀ σ' L m (p :: q :: μ) s (key i) k s'') Zf { s with heap := h, toks := tk })
    (done : ∀ D out k h' tk σ', Le σ σ' → Paired IntV out (ordOf b n) → σ' D = some (listOf out.toArray k) → St w κ σ₀ σ' L m μ h' → Q (.ref D) { s with heap := h', toks := tk }) :
    wpAny (model prog w) A (call (.builtin "sorted") [.ref r] [(Str.ofString "key", .ref f)]) Q E s := by
  refine call_function_entry_kw kind_sorted plain_sorted entry_sorted (ksk_s1 _ _) ?_
  unfold Builtin.«sorted»
  refine wpAny_bind (m := checkCount "sorted" 1 1 _) (wpAny_pure ?_)
  refine wpAny_bind (collect_range hh hr (by omega) fun h1 tk1 vs k1 hit => ?_)
  have S1 := S.keeps k1
  have hv : Paired IntV vs.toList (upTo n) := by
    refine paired_of (by rw [Array.length_toList, hit.1, upTo_len]) fun i v x hv hx => ?_
    have hi : i < n := by rw [← upTo_len n]; exact (List.getElem?_eq_some_iff.mp hx).1
    rw [upTo_get hi] at hx; cases hx
    obtain ⟨t, rfl⟩ := hit.2 i v (by simpa using hv)
    exact ⟨t, by simp⟩
  have hvl : vs.size = n := hit.1
  refine wpAny_bind (wpAny_newList ?_ (by rw [Array.length_toList, hvl, sizeLine_eq]; omega))
  have S2 := S1.pushM (o := listOf vs.toList.toArray 0) rfl
  refine wpAny_bind (wpAny_holding (wpAny_call_entry_kw slot_list_sort ⟨_, (S2.mu _ (.head _)).1, rfl⟩ entry_list_sort ?body (ksk_l1 _ _)))
  case body =>
    show wpAny (model prog w) A.in1.in1 (Builtin.«list.sort» ⟨[.ref h1.objs.size], [(Str.ofString "key", .ref f)]⟩) _ _ _
    rw [ksk_t1]
    refine key_tree (s := { s with heap := h1.push (listOf vs.toList.toArray 0), toks := tk1 }) (key := key) (b := b) S2 hv hn hb (fun i t σ' p q h tk hi l' S' => turn i t σ' p q h tk hi l' S') fun out k h' tk σ' l' ho S' => ⟨_, rfl, ?_⟩
    · have S4 := S'.freeze
      exact wpAny_pure ⟨_, rfl, done _ _ _ _ _ _ (l'.trans (upd_le (S'.mu _ (.head _)).2.2.2)) ho (upd_same _ _ _) S4⟩
end

def hid (f : PM) (a : Addr) : PM := fun b => if b = a then none else f b
theorem hid_le (f : PM) (a : Addr) : Le (hid f a) f := fun b o e => by
  unfold hid at e; split at e
  · cases e
  · exact e
theorem hid_same (f : PM) (a : Addr) : hid f a a = none := if_pos rfl
theorem hid_ne {f : PM} {a b : Addr} (h : b ≠ a) : hid f a b = f b := if_neg h
/-- like Grow, but one object may have changed -/
structure GrowX (h : Heap) (σ : PM) (h' : Heap) (σ' : PM) (a : Addr) : Prop where
  keep : Le (hid h.get? a) h'.get?
  sub : Le σ σ'
  fro : Le σ' h'.get?
  new : ∀ b o, σ' b = some o → σ b = some o ∨ hid h.get? a b = none
  off : σ' a = none
section
variable {w : World} {κ σ₀ σ σ' : PM} {L : Addr} {m m' : Str → Option Value} {μ : List (Addr × Obj)} {h h' : Heap} {o : Obj} {a : Addr}
theorem St.own (S : St w κ σ₀ σ L m μ h) (ha : κ a = some o) (h0 : σ a = none) : St w (hid κ a) σ₀ σ L m ((a, o) :: μ) h :=
  have hk : ∀ b, κ b = none → hid κ a b = none := fun b e => by unfold hid; split; rfl; exact e
  { S with
    kk := (hid_le _ _).trans S.kk
    kL := hk _ S.kL
    mu := fun p hp => by
      rcases List.mem_cons.mp hp with rfl | hp
      · exact ⟨S.kk _ _ ha, (fun e => by have := S.kL; rw [← e, ha] at this; cases this), hid_same _ _, h0⟩
      · exact ⟨(S.mu p hp).1, (S.mu p hp).2.1, hk _ (S.mu p hp).2.2.1, (S.mu p hp).2.2.2⟩
    nd := List.nodup_cons.mpr ⟨(fun hm => by
      obtain ⟨p, hp, e⟩ := List.mem_map.mp hm
      have := (S.mu p hp).2.2.1
      rw [e, ha] at this; cases this), S.nd⟩
    new := fun b q e => (S.new b q e).imp id (hk b) }
theorem St.leaveX {h₀ : Heap} (S : St w (hid h₀.get? a) σ₀ σ L m ((a, o) :: μ) h) : GrowX h₀ σ₀ h σ a := ⟨S.kk, S.sub, S.fro, S.new, (S.mu _ (.head _)).2.2.2⟩
theorem St.growX {o' : Obj} (S : St w κ σ₀ σ L m ((a, o) :: μ) h) (G : GrowX h σ h' σ' a) (ho : h'.get? a = some o') : St w κ σ₀ σ' L m ((a, o') :: μ) h' :=
  have ha := S.mu _ (.head _)
  have keep : ∀ b q, b ≠ a → h.get? b = some q → h'.get? b = some q := fun b q hb e => G.keep b q (by rw [hid_ne hb]; exact e)
  have hne : ∀ p ∈ μ, p.1 ≠ a := fun p hp e => (List.nodup_cons.mp S.nd).1 (List.mem_map.mpr ⟨p, hp, e⟩)
  have off : ∀ b, b ≠ a → σ b = none → (h.get? b).isSome → σ' b = none := fun b hb e q => by
    cases r : σ' b with
    | none => rfl
    | some o' =>
      rcases G.new _ _ r with r | r
      · rw [e] at r; cases r
      · rw [hid_ne hb] at r; rw [r] at q; cases q
  { base := S.base.mono G.sub
    kk := fun b q e => keep b q (Le.ne ha.2.2.1 e) (S.kk _ _ e)
    fro := G.fro
    ns := S.ns.at' fun o e => keep L o (Ne.symm ha.2.1) e
    kL := S.kL
    sL := off _ (Ne.symm ha.2.1) S.sL (by obtain ⟨_, _, _, e, _⟩ := S.ns; rw [e]; rfl)
    mu := fun p hp => by
      rcases List.mem_cons.mp hp with rfl | hp
      · exact ⟨ho, ha.2.1, ha.2.2.1, G.off⟩
      · have hm := S.mu p (.tail _ hp)
        exact ⟨keep _ _ (hne p hp) hm.1, hm.2.1, hm.2.2.1, off _ (hne p hp) hm.2.2.2 (by rw [hm.1]; rfl)⟩
    nd := S.nd
    sub := S.sub.trans G.sub
    new := fun b q e => (G.new b q e).elim (S.new b q) fun r => .inr (by
      have hb : b ≠ a := fun x => by rw [x, G.off] at e; cases e
      rw [hid_ne hb] at r
      cases z : κ b with
      | none => rfl
      | some o' => rw [S.kk _ _ z] at r; cases r) }
end

section
variable {w : World} {κ σ₀ σ σ' : PM} {L : Addr} {m m' : Str → Option Value} {μ : List (Addr × Obj)} {h h' : Heap} {o : Obj} {a : Addr}
theorem St.growX1 {p : Addr × Obj} {o' : Obj} (S : St w κ σ₀ σ L m (p :: (a, o) :: μ) h) (G : GrowX h σ h' σ' a) (ho : h'.get? a = some o') : St w κ σ₀ σ' L m (p :: (a, o') :: μ) h' :=
  ((S.perm (List.Perm.swap _ _ _)).growX G ho).perm (List.Perm.swap _ _ _)
theorem St.growX2 {p q : Addr × Obj} {o' : Obj} (S : St w κ σ₀ σ L m (p :: q :: (a, o) :: μ) h) (G : GrowX h σ h' σ' a) (ho : h'.get? a = some o') : St w κ σ₀ σ' L m (p :: q :: (a, o') :: μ) h' :=
  ((S.perm ((List.Perm.swap _ _ _).trans ((List.Perm.swap _ _ _).cons _))).growX G ho).perm (((List.Perm.swap _ _ _).cons _).trans (List.Perm.swap _ _ _))
theorem mu_off (S : St w κ σ₀ σ L m μ h) (hm : (a, o) ∈ μ) : σ a = none := (S.mu _ hm).2.2.2
end
/-- a lambda's function object -/
def LamR (σ : PM) (f : Addr) (name qual : Str) (params : Arguments) (body : Expr) (scope : Scope) (cl : List (Str × Addr)) : Prop :=
  ∃ pm ctv c' oc vs t, σ f = some (kla_obj name qual params body scope cl pm c' ctv) ∧ σ c' = some oc ∧ oc.data = .fields vs ∧ vs[1]? = some (.str qual t)
theorem LamR.mono {σ σ' : PM} {f : Addr} {name qual : Str} {params : Arguments} {body : Expr} {scope : Scope} {cl : List (Str × Addr)} (x : LamR σ f name qual params body scope cl) (l : Le σ σ') : LamR σ' f name qual params body scope cl :=
  let ⟨pm, ctv, c', oc, vs, t, h1, h2, h3⟩ := x; ⟨pm, ctv, c', oc, vs, t, l _ _ h1, l _ _ h2, h3⟩
/-- the table's code -/
def TabR (σ : PM) (qual : Str) (line col : Nat) (ps : Array Value) : Prop :=
  ps = #[] ∨ ∃ c' oc vs t, ps = #[rawInt line, rawInt col, .ref c'] ∧ σ c' = some oc ∧ oc.data = .fields vs ∧ vs[1]? = some (.str qual t)
theorem TabR.mono {σ σ' : PM} {qual : Str} {line col : Nat} {ps : Array Value} (x : TabR σ qual line col ps) (l : Le σ σ') : TabR σ' qual line col ps :=
  x.imp id fun ⟨c', oc, vs, t, h1, h2, h3⟩ => ⟨c', oc, vs, t, h1, l _ _ h2, h3⟩
section
variable {w : World} {prog : Program} {M : Model} {A : Around} {E : Value → Shared → Prop} {s : Shared} {κ σ₀ σ : PM} {L : Addr} {m : Str → Option Value} {μ : List (Addr × Obj)} {env : Env}
theorem n_lam {name qual : Str} {params : Arguments} {body : Expr} {scope : Scope} {clos : List (Str × Addr)} {c P : Addr} {ps : Array Value} {pos : Pos} {fl : Nat} {Q : Value → Shared → Prop}
    (S : St w κ σ₀ σ L m ((P, tabObj ps) :: μ) s.heap) (T : TabR σ qual pos.line pos.col ps)
    (hcl : closureFor scope env = pure clos) (hge0 : env.globals = mainGlobals) (hcode : env.code = .ref c) (C : codeHdIn (hd.heap_1 w.params) c P = true)
    (h : ∀ f h' tk σ' ps', Le σ σ' → LamR σ' f name qual params body scope clos → TabR σ' qual pos.line pos.col ps' → St w κ σ₀ σ' L m ((P, tabObj ps') :: μ) h' → (∀ b o, b ≠ P → s.heap.get? b = some o → h'.get? b = some o) → Q (.ref f) { s with heap := h', toks := tk }) :
    wpAny M A (makeFunction name qual params (.expr body) scope env [] [] [] pos fl) Q E s := by
  have hP := S.mu _ (.head _)
  obtain ⟨mg, bm, ob, g1, g2, g3, g4, g5, g6, g7⟩ := S.base.m
  have hg := g1.ns S.fro
  have hgP : mainGlobals ≠ P := fun q => by
    obtain ⟨o, es, ep, e, hd, _⟩ := hg
    rw [q, hP.1] at e; cases e; cases hd
  have hbP : bm ≠ P := fun q => by rw [q, hP.2.2.2] at g4; cases g4
  have hbG : bm ≠ mainGlobals := fun q => by
    obtain ⟨o, es, ep, e, hd, _⟩ := g1
    rw [q, e] at g4; cases g4; rw [hd] at g7; cases g7
  have hb : s.heap.BuiltinsAt mg P := ⟨bm, ob, g2, g3, hbG, hbP, S.fro _ _ g4, g5, g6, g7⟩
  rcases T with rfl | ⟨c', oc, vs, t, rfl, t1, t2, t3⟩
  · refine kla_makeFunction (mg := mg) hcl hge0 hg hcode (codeHd_of_K S.inn C) hP.1 True.intro rfl hgP hb fun c' ctv h' tk hx hge hlt hrec htb => ?_
    obtain ⟨c₂, oc, vs, t, e2, hoc, hd, hv⟩ := hrec
    cases e2
    have hn : s.heap.get? c' = none := get_none_size hge
    have hcP : c' ≠ P := fun q => absurd (Heap.lt_size hP.1) (by rw [← q]; exact Nat.not_lt.mpr hge)
    have hσ : σ c' = none := S.fro.none_size hge
    have G : GrowX s.heap σ h' (upd σ c' oc) P :=
      { keep := fun b q e => by
          unfold hid at e; split at e
          · cases e
          · rename_i hb; exact hx b q hb e
        sub := upd_le hσ
        fro := fun b q e => by
          unfold upd at e; split at e
          · rename_i z; cases e; rw [z]; exact hoc
          · have hb : b ≠ P := fun z => by rw [z, hP.2.2.2] at e; cases e
            exact hx b q hb (S.fro _ _ e)
        new := fun b q e => by
          unfold upd at e; split at e
          · rename_i z; exact .inr (by rw [z, hid_ne hcP]; exact hn)
          · exact .inl e
        off := by unfold upd; rw [if_neg (Ne.symm hcP)]; exact hP.2.2.2 }
    have S1 := S.growX G htb
    have S2 := S1.pushF (o := kla_obj name qual params body scope clos ((mg "__name__").getD .none) c' ctv) rfl
    have hn2 : (upd σ c' oc) h'.objs.size = none := S1.fro.none_size (Nat.le_refl _)
    have hc2 := upd_le (o := kla_obj name qual params body scope clos ((mg "__name__").getD .none) c' ctv) hn2 c' oc (upd_same _ _ _)
    exact h _ _ _ _ _ ((upd_le hσ).trans (upd_le hn2)) ⟨_, ctv, c', oc, vs, t, upd_same _ _ _, hc2, hd, hv⟩ (.inr ⟨c', oc, vs, t, rfl, hc2, hd, hv⟩) S2 fun b o hb e => push_le _ _ _ _ (hx b o hb e)
  · refine kla_makeFunctionHit (mg := mg) (cv := .ref c') hcl hge0 hg hcode (codeHd_of_K S.inn C) hP.1 True.intro (by simp [codeAmong, rawInt]) hb fun ctv h' tk hk hsz => ?_
    have S1 := S.keeps hk
    have S2 := S1.pushF (o := kla_obj name qual params body scope clos ((mg "__name__").getD .none) c' ctv) rfl
    have hn2 : σ h'.objs.size = none := S1.fro.none_size (Nat.le_refl _)
    have hc2 := upd_le (o := kla_obj name qual params body scope clos ((mg "__name__").getD .none) c' ctv) hn2 c' oc t1
    exact h _ _ _ _ _ (upd_le hn2) ⟨_, ctv, c', oc, vs, t, upd_same _ _ _, hc2, t2, t3⟩ (.inr ⟨c', oc, vs, t, rfl, hc2, t2, t3⟩) S2 fun b o hb e => push_le _ _ _ _ (hk b o e)

theorem enterLam {name qual : Str} {params : Arguments} {body : Expr} {scope : Scope} {cl : List (Str × Addr)} {f : Addr} {args : Args} {binds : List (Str × Value)} {R : Result → Shared → Prop}
    (B : BaseS w σ) (hf : Le σ s.heap.get?) (lam : LamR σ f name qual params body scope cl) (hroom : A.depth < recursionLimit)
    (hbind : ∀ pm ctv c', bindArgs (kla_fn name qual params body scope cl pm (.ref c') ctv) args = pure binds) (hloc : ∀ y ∈ binds, scope.names.lookup y.1 = some .local) (hcell : ∀ x ∈ scope.names, x.2 ≠ .cell)
    (hco : scope.isCoroutine = false) (hgen : scope.isGenerator = false) (hk : scope.kind = .function)
    (h : ∀ L h₁ c', St w s.heap.get? σ σ L (bindm binds) [] h₁ → L = s.heap.objs.size →
      wpAny (model prog w) (A.deeper (envX qual scope L f (.ref c') cl)) (eval body (envX qual scope L f (.ref c') cl)) (fun v s' => R (.ok (.ret v)) s') Zf { s with heap := h₁, toks := s.toks + binds.length }) :
    codeAny (model prog w) A (.call (.ref f) args) R s := by
  obtain ⟨pm, ctv, c', oc, vs, t, h1, h2, h3, h4⟩ := lam
  refine kla_callFunE hroom (hf _ _ h1) rfl hco hgen rfl ⟨c', oc, vs, t, rfl, hf _ _ h2, h3, h4⟩ ?_
  rw [hbind]
  refine wpAny_pure (wpAny_newFunctionEnv hcell hloc (fun h₁ hns hsb => ⟨(B.lim hf).fresh _ hsb, ?_⟩) hk)
  show codeAny _ _ (.expr body (envX qual scope s.heap.objs.size f (.ref c') cl)) _ _
  have hk₁ : Le s.heap.get? h₁.get? := fun b o e => hsb.extBut b o (Nat.ne_of_lt (Heap.lt_size e)) (Heap.get?_push_of_some _ e)
  refine kla_codeExpr (zf (h s.heap.objs.size h₁ c' ?_ rfl))
  exact {
    base := B, kk := hk₁, fro := hf.trans hk₁, ns := by rw [← lookup_rev]; exact hns, kL := get_none_size (Nat.le_refl _), sL := hf.none_size (Nat.le_refl _)
    mu := fun p hp => (nomatch hp), nd := List.nodup_nil, sub := Le.refl _, new := fun a o e => .inl e }
theorem n_free {x : Str} {pos : Pos} {c : Addr} {o : Obj} {v : Value} {Q : Value → Shared → Prop} (hk : env.scope.kind = .function) (hl : env.kindOf x = some .free) (hc : env.cells.lookup x = some c)
    (hd : (x == ("__debug__" : Str)) = false) (hn : (x == ("__classdict__" : Str)) = false) (ho : s.heap.get? c = some o) (hv : o.data = .cell (some v)) (h : Q v s) : wpAny M A (eval (.Name x pos) env) Q E s := by
  refine wpAny_Name ?_ hd
  exact wpAny_loadName_free hk hl hc ⟨o, ho, hv⟩ h hn
end

section
variable {prog : Program} {w : World} {A : Around} {s : Shared} {κ σ₀ σ : PM} {C D : Addr} {m : Str → Option Value} {env : Env} {elt t1 i1 target iter : Expr} {if1 ifs : List Expr} {scope : Scope} {pos p : Pos}
  {xv : Value} {n : Nat} {P : Nat → Value → Prop} {emit : Sem Unit} {ys : List Value} {kk : Nat}
theorem start_two {it acc : Value} {R : Result → Shared → Prop}
    (h0 : codeAny (model prog w) A (.compLoop (.ListComp elt [⟨t1, i1, if1, 0⟩, ⟨target, iter, ifs, 0⟩] scope pos) 1 it acc env) R s)
    (h : wpAny (model prog w) A (pyIter it) (fun it' s' => codeAny (model prog w) A (.compLoop (.ListComp elt [⟨t1, i1, if1, 0⟩, ⟨target, iter, ifs, 0⟩] scope pos) 1 it' acc env) R s') Zf s) :
    codeAny (model prog w) A (.compStart (.ListComp elt [⟨t1, i1, if1, 0⟩, ⟨target, iter, ifs, 0⟩] scope pos) 1 it acc env) R s := by
  refine codeAny_of_tree ?_
  show wpAny _ _ ((compStart (.ListComp elt [⟨t1, i1, if1, 0⟩, ⟨target, iter, ifs, 0⟩] scope pos) 1 it acc env).onRaise (fun x => do noteFrame x env; standAt theWindowsPlace)) _ _ s
  refine wpAny_notedAt ?_
  unfold compStart
  show wpAny _ _ (ask >>= _) _ _ s
  refine wpAny_bind (wpAny_askSetting (wpAny_ite ?_))
  split
  · first
      | exact wpAny_bind (wpAny_pure ⟨rfl, h0⟩)
      | exact wpAny_pure ⟨rfl, h0⟩
  · refine wpAny_bind (wpAny_rule ?_)
    show wpAny _ _ (do standAt iter.pos; again (.compLoop _ 1 (← pyIter it) acc env)) _ _ s
    refine wpAny_bind (wpAny_standAt (wpAny_bind (zf (wpAny_mono h (fun it' s' h' => wpAny_pure ⟨rfl, h'⟩) fun _ _ x => x))))
theorem compInner {R : Result → Shared → Prop} (X : Src prog w A σ xv s n P) (S : St w κ σ₀ σ C m [(D, listOf ys.toArray kk)] s.heap)
    (ht : ∀ it, compTurn (.ListComp elt [⟨t1, i1, if1, 0⟩, ⟨target, iter, ifs, 0⟩] scope pos) 1 it (.ref D) env = compTree (.ListComp elt [⟨t1, i1, if1, 0⟩, ⟨target, iter, ifs, 0⟩] scope pos) 1 target ifs emit p it (.ref D) env)
    (J : Nat → PM → List Value → Prop) (h0 : J 0 σ ys)
    (turn : ∀ i v σ' m' ys kk κ' h tk, i < n → P i v → Le σ σ' → Le κ κ' → J i σ' ys → St w κ' σ₀ σ' C m' [(D, listOf ys.toArray kk)] h →
      wpAny (model prog w) A (assign target env v) (fun _ s₁ => wpAny (model prog w) A (tests ifs env) (fun ok s₂ =>
          if ok = true then wpAny (model prog w) A emit (fun _ s₃ => TEnd w κ' σ₀ σ' C s (fun σ'' m'' μ'' => ∃ ys' kk', μ'' = [(D, listOf ys'.toArray kk')] ∧ J (i + 1) σ'' ys') s₃) Zf s₂
          else TEnd w κ' σ₀ σ' C s (fun σ'' m'' μ'' => ∃ ys' kk', μ'' = [(D, listOf ys'.toArray kk')] ∧ J (i + 1) σ'' ys') s₂) Zf s₁) Zf { s with heap := h, toks := tk })
    (done : ∀ σ' m' ys kk h tk, Le σ σ' → J n σ' ys → St w κ σ₀ σ' C m' [(D, listOf ys.toArray kk)] h → R (.ok .next) { s with heap := h, toks := tk }) :
    wpAny (model prog w) A (pyIter xv) (fun it s₂ => codeAny (model prog w) A (.compStart (.ListComp elt [⟨t1, i1, if1, 0⟩, ⟨target, iter, ifs, 0⟩] scope pos) 1 it (.ref D) env) R s₂) Zf s := by
  refine X _ fun o fp Sx hf W hs hfp hob hgo => ?_
  have none_of : ∀ {f : PM} {b : Addr}, Le f s.heap.get? → b = s.heap.objs.size → f b = none := fun k e => e ▸ k.none_size (Nat.le_refl _)
  have mem : ∀ {b : Addr}, b ∈ [s.heap.objs.size] → b = s.heap.objs.size := fun h => List.mem_singleton.mp h
  have O : Off κ σ₀ σ C [(D, listOf ys.toArray kk)] [s.heap.objs.size] :=
    ⟨fun b hb => none_of S.kk (mem hb), fun b hb => none_of (S.sub.trans S.fro) (mem hb), fun b hb => none_of S.fro (mem hb), fun b hb e => absurd (ns_lt S.ns) (by rw [← e, mem hb]; exact Nat.lt_irrefl _),
      fun b hb p hp e => absurd (Heap.lt_size (S.mu p hp).1) (by rw [e, mem hb]; exact Nat.lt_irrefl _)⟩
  have loop : codeAny (model prog w) A (.compLoop (.ListComp elt [⟨t1, i1, if1, 0⟩, ⟨target, iter, ifs, 0⟩] scope pos) 1 (.ref s.heap.objs.size) (.ref D) env) R { s with heap := s.heap.push o } := by
    refine compLoopW (s := { s with heap := s.heap.push o }) (ht _) W (S.keeps (push_le _ _)) hs O (fun b hb => (hfp b hb).imp (fun e => List.mem_singleton.mpr e) id) (fun i h hx b hb => (mem hb) ▸ hob i h hx) (hgo target)
      (fun i σ' m' μ' => ∃ ys kk, μ' = [(D, listOf ys.toArray kk)] ∧ J i σ' ys) ⟨ys, kk, rfl, h0⟩ ?_ ?_
    · rintro i v σ' m' μ' κ' h tk hi hp hl hk ⟨ys, kk, rfl, hj⟩ S'
      exact turn i v σ' m' ys kk κ' h tk hi hp hl hk hj S'
    · rintro σ' m' μ' h tk hl ⟨ys, kk, rfl, hj⟩ S'
      exact done σ' m' ys kk h tk hl hj S'
  exact start_two loop (W.self 0 _ _ _ hs loop)
def emit2 (iter : Expr) (e : Expr) (acc : Value) (env : Env) : Sem Unit := do
  let x ← eval iter env
  standAt iter.pos
  let x ← foldedSetIterable iter env x
  let _ ← runOwn (.compStart e 1 (← holding [x] (pyIter x)) acc env) env
theorem emit_two {e : Expr} {acc : Value} {Q : Unit → Shared → Prop} (hs : ∀ x, foldedSetIterable iter env x = pure x)
    (h : wpAny (model prog w) A (eval iter env) (fun xv s₁ => wpAny (model prog w) A (pyIter xv) (fun it s₂ => codeAny (model prog w) A (.compStart e 1 it acc env) (fun r s' => match r with | .ok .next => Q () s' | _ => False) s₂) Zf s₁) Zf s) :
    wpAny (model prog w) A (emit2 iter e acc env) Q Zf s := by
  unfold emit2
  refine wpAny_bind (wpAny_mono h (fun xv s₁ h₁ => ?_) fun _ _ x => x)
  refine wpAny_bind (wpAny_standAt ?_)
  rw [hs]
  refine wpAny_bind (wpAny_pure (wpAny_bind (wpAny_holding (wpAny_mono h₁ (fun it s₂ h₂ => ?_) fun _ _ x => x))))
  refine wpAny_bind (wpAny_runOwn (codeAny_mono h₂ fun r s' hr => ?_))
  match r, hr with
  | .ok .next, hr => exact wpAny_pure hr
theorem turn_two {it acc : Value} : compTurn
      (elt.ListComp
        [{ target := t1, iter := i1, ifs := if1, is_async := 0 },
          { target := target, iter := iter, ifs := ifs, is_async := 0 }]
        scope pos)
      0 it acc env =
    compTree
      (elt.ListComp
        [{ target := t1, iter := i1, ifs := if1, is_async := 0 },
          { target := target, iter := iter, ifs := ifs, is_async := 0 }]
        scope pos)
      0 t1 if1
      (emit2 iter
        (elt.ListComp
          [{ target := t1, iter := i1, ifs := if1, is_async := 0 },
            { target := target, iter := iter, ifs := ifs, is_async := 0 }]
          scope pos)
        acc env)
      i1.pos it acc env := by
  unfold compTurn compTree emit2
  show (standAt i1.pos >>= fun _ => (pyNext it >>= fun r => _)) = _
  congr 1
  funext _
  congr 1
  funext r
  cases r with
  | none => rfl
  | some v =>
    dsimp only
    congr 1
    funext _
    congr 1
    funext _
    congr 1
    funext ok
    cases ok
    · rfl
    · simp only [if_true, bind_assoc, pure_bind]
      rfl
theorem comp2S {Q : Value → Shared → Prop} {L : Addr} {μ : List (Addr × Obj)} {cl : List (Str × Addr)} (X : Src prog w A σ xv s n P) (S : St w κ σ₀ σ L m μ s.heap) (hcell : ∀ y ∈ scope.names, y.2 ≠ .cell) (hkind : scope.kind = .function)
    (J : Nat → PM → List Value → Prop) (h0 : J 0 σ [])
    (turn : ∀ C D i v σ' m' ys kk κ' h tk, i < n → P i v → Le σ σ' → Le s.heap.get? κ' → J i σ' ys → St w κ' σ σ' C m' [(D, listOf ys.toArray kk)] h →
      wpAny (model prog w) A (assign t1 (compEnvC scope cl C env) v) (fun _ s₁ => wpAny (model prog w) A (tests if1 (compEnvC scope cl C env)) (fun ok s₂ =>
          if ok = true then wpAny (model prog w) A (emit2 iter (.ListComp elt [⟨t1, i1, if1, 0⟩, ⟨target, iter, ifs, 0⟩] scope pos) (.ref D) (compEnvC scope cl C env)) (fun _ s₃ => TEnd w κ' σ σ' C s (fun σ'' m'' μ'' => ∃ ys' kk', μ'' = [(D, listOf ys'.toArray kk')] ∧ J (i + 1) σ'' ys') s₃) Zf s₂
          else TEnd w κ' σ σ' C s (fun σ'' m'' μ'' => ∃ ys' kk', μ'' = [(D, listOf ys'.toArray kk')] ∧ J (i + 1) σ'' ys') s₂) Zf s₁) Zf { s with heap := h, toks := tk })
    (done : ∀ D σ' σ'' ys kk h tk, Le σ' σ'' → J n σ' ys → σ'' D = some (listOf ys.toArray kk) → Grow s.heap σ h σ'' → St w κ σ₀ σ'' L m μ h → Q (.ref D) { s with heap := h, toks := tk }) :
    CompAt prog w A (.ListComp elt [⟨t1, i1, if1, 0⟩, ⟨target, iter, ifs, 0⟩] scope pos) scope env cl Q xv s :=
  compS (emit := fun acc C => emit2 iter (.ListComp elt [⟨t1, i1, if1, 0⟩, ⟨target, iter, ifs, 0⟩] scope pos) acc (compEnvC scope cl C env)) (p := i1.pos) X S hcell hkind (fun it acc C => turn_two) J h0 turn done
/-- an element's end, within -/
theorem compInner1 {R : Result → Shared → Prop} (X : Src prog w A σ xv s n P) (S : St w κ σ₀ σ C m [(D, listOf ys.toArray kk)] s.heap) (hz : ys.length + n ≤ 5000)
    (J : Nat → PM → List Value → Prop) (h0 : J 0 σ ys)
    (turn : ∀ i v σ' m' ys kk κ' h tk, i < n → P i v → Le σ σ' → Le κ κ' → J i σ' ys → St w κ' σ₀ σ' C m' [(D, listOf ys.toArray kk)] h →
      wpAny (model prog w) A (assign target env v) (fun _ s₁ => wpAny (model prog w) A (tests ifs env) (fun ok s₂ =>
          if ok = true then wpAny (model prog w) A (eval elt env) (fun y s₃ => EEnd w κ' σ₀ σ' C D s ys kk (fun σ'' => J (i + 1) σ'' (ys ++ [y])) s₃) Zf s₂
          else EEnd w κ' σ₀ σ' C D s ys kk (fun σ'' => J (i + 1) σ'' ys) s₂) Zf s₁) Zf { s with heap := h, toks := tk })
    (done : ∀ σ' m' ys kk h tk, Le σ σ' → J n σ' ys → St w κ σ₀ σ' C m' [(D, listOf ys.toArray kk)] h → R (.ok .next) { s with heap := h, toks := tk }) :
    wpAny (model prog w) A (pyIter xv) (fun it s₂ => codeAny (model prog w) A (.compStart (.ListComp elt [⟨t1, i1, if1, 0⟩, ⟨target, iter, ifs, 0⟩] scope pos) 1 it (.ref D) env) R s₂) Zf s := by
  refine compInner (emit := do let _ ← call (.builtin "list.append") [.ref D, ← eval elt env]) (p := iter.pos) X S (fun it => rfl) (fun i σ' zs => J i σ' zs ∧ zs.length ≤ ys.length + i) ⟨h0, Nat.le_refl _⟩ ?_ ?_
  · rintro i v σ' m' zs kk κ' h tk hi hp hl hk ⟨hj, hy⟩ S'
    refine wpAny_mono (turn i v σ' m' zs kk κ' h tk hi hp hl hk hj S') (fun _ s₁ h₁ => wpAny_mono h₁ (fun ok s₂ h₂ => ?_) fun _ _ x => x) fun _ _ x => x
    cases ok with
    | false =>
      obtain ⟨σ'', m'', h'', tk'', rfl, l'', hj'', S''⟩ := h₂
      exact ⟨σ'', m'', _, h'', tk'', rfl, l'', ⟨zs, kk, rfl, hj'', by omega⟩, S''⟩
    | true =>
      simp only [if_true] at h₂ ⊢
      refine wpAny_bind (wpAny_mono h₂ (fun y s₃ h₃ => ?_) fun _ _ x => x)
      obtain ⟨σ'', m'', h'', tk'', rfl, l'', hj'', S''⟩ := h₃
      refine wpAny_bind (wpAny_list_append_plain (hsz := by show zs.toArray.size ≤ sizeLine; rw [List.size_toArray, sizeLine_eq]; omega) ⟨kk, (S''.mu _ (.head _)).1⟩ fun h₃ hpl hs₃ => ?_)
      obtain ⟨k₃, e₃⟩ := hpl
      refine wpAny_pure ⟨σ'', m'', _, h₃, tk'', rfl, l'', ⟨zs ++ [y], k₃, rfl, hj'', by simp; omega⟩, S''.upd0 hs₃ ?_⟩
      rw [e₃]; simp
  · rintro σ' m' zs kk h tk hl ⟨hj, hy⟩ S'
    exact done σ' m' zs kk h tk hl hj S'
theorem tend' {L : Addr} {σ' : PM} {m' : Str → Option Value} {μ' : List (Addr × Obj)} {h : Heap} {tk : Nat} {J : PM → (Str → Option Value) → List (Addr × Obj) → Prop} (S : St w κ σ₀ σ' L m' μ' h) (l : Le σ σ') (j : J σ' m' μ') : TEnd w κ σ₀ σ L s J { s with heap := h, toks := tk } :=
  ⟨_, _, _, _, _, rfl, l, j, S⟩
theorem n_setitem {A : Around} {E : Value → Shared → Prop} {L : Addr} {μ : List (Addr × Obj)} {l : Addr} {vs : List Value} {k : Nat} {i : Int} {t : Tok} {v : Value} {Q : Unit → Shared → Prop} (S : St w κ σ₀ σ L m ((l, listOf vs.toArray k) :: μ) s.heap)
    (h0 : 0 ≤ i) (hfit : i < 2 ^ 63) (hn : i < vs.length)
    (h : ∀ h' k', St w κ σ₀ σ L m ((l, listOf (vs.set i.toNat v).toArray k') :: μ) h' → Q () { s with heap := h' }) :
    wpAny (model prog w) A (setItem (.ref l) (.int i t) v) Q E s := by
  have ho := (S.mu _ (.head _)).1
  have hl : s.heap.IsList l vs.toArray := ⟨_, ho, rfl, k, rfl⟩
  unfold setItem
  try with_reducible refine wpAny_holding ?_
  first | refine wpAny_bind (wpAny_pure ?_) | skip
  refine wpAny_bind (wpAny_sequenceKey hl.typeIs (by decide) ?_)
  refine wpAny_bind (wpAny_callSpecial?_slot (name := Str.ofString "__setitem__") hl.typeIs slot_list_setitem
    (wpAny_call_entry slot_list_setitem hl.typeIs entry_list_setitem ?_ (args_list_setitem _ _ _)))
  show wpAny _ _ (Builtin.List.listSubscript? (.int i t) >>= _) _ _ s
  refine wpAny_bind (wpAny_listSubscript_int (fitsIndex_of h0 hfit) ?_)
  clear hfit
  obtain ⟨j, rfl⟩ := Int.eq_ofNat_of_zero_le h0
  have hj : j < vs.toArray.size := by rw [List.size_toArray]; omega
  have hx' : vs.toArray[j]? = some vs.toArray[j] := Array.getElem?_eq_getElem hj
  show wpAny _ _ ((seqItemAt l j >>= fun r => pure (r.map (j, ·))) >>= _) _ _ s
  refine wpAny_bind (wpAny_bind (wpAny_seqItemAt ho rfl (wpAny_pure ?_)))
  rw [hx']
  show wpAny _ _ (setSeqItemAt l j v >>= _) _ _ s
  obtain ⟨k', S'⟩ := upd_at (fun x => x.setIfInBounds j v) S
  rw [List.setIfInBounds_toArray] at S'
  refine wpAny_bind (wpAny_setSeqItemAt ho rfl ?_)
  first
    | exact wpAny_bind (wpAny_pure (wpAny_pure ⟨.none, rfl, wpAny_pure (h _ k' S')⟩))
    | exact wpAny_pure ⟨.none, rfl, wpAny_pure (h _ k' S')⟩
end

theorem ints_are {vs : List Value} {ns : List Int} (p : Paired IntV vs ns) : IntsAre vs ns := by
  induction p with
  | nil => exact .nil
  | cons h _ ih => obtain ⟨t, rfl⟩ := h; exact .cons _ t ih
section
variable {prog : Program} {w : World} {A : Around} {E : Value → Shared → Prop} {s : Shared} {κ σ₀ σ : PM} {L : Addr} {m : Str → Option Value} {μ : List (Addr × Obj)}
theorem n_min {l : Addr} {vs : List Value} {ns : List Int} {k : Nat} {Q : Value → Shared → Prop} (hh : A.handled = none) (S : St w κ σ₀ σ L m μ s.heap) (hl : σ l = some (listOf vs.toArray k)) (hp : Paired IntV vs ns) (hne : 0 < ns.length)
    (h : ∀ h' M (t : Tok) tk, St w κ σ₀ σ L m μ h' → M ∈ ns → (∀ a, a ∈ ns → M ≤ a) → Q (.int M t) { s with heap := h', toks := tk }) :
    wpAny (model prog w) A (call (.builtin "min") [.ref l]) Q E s := by
  have hi := ints_are hp
  have hl : s.heap.IsList l vs.toArray := ⟨_, S.fro _ _ hl, rfl, k, rfl⟩
  obtain ⟨xs, e⟩ := hi.allInts.items
  have hns : ns = xs.toList.map (·.1) := by
    rw [← hi.numsOf, ← nums_intItems, ← e]
  have hsz : 0 < xs.size := by
    have h3 := hne; rw [hns, List.length_map, Array.length_toList] at h3; exact h3
  rw [e] at hl
  refine min_intList hh hl hsz fun v h' tk hv hk => ?_
  obtain ⟨t, rfl⟩ := intItems_at hv
  obtain ⟨h1, h2⟩ := argBest_lt (numAt xs) (xs.size - 1)
  refine h _ _ t tk (S.keeps hk) ?_ fun a ha => ?_
  · rw [hns, numAt_eq]; exact getD_mem (by rw [List.length_map, Array.length_toList]; omega)
  · rw [hns] at ha
    obtain ⟨j, hj, rfl⟩ := mem_getD ha
    rw [List.length_map, Array.length_toList] at hj
    rw [← numAt_eq]; exact h2 j (by omega)
theorem n_max {l : Addr} {vs : List Value} {ns : List Int} {k : Nat} {Q : Value → Shared → Prop} (hh : A.handled = none) (S : St w κ σ₀ σ L m μ s.heap) (hl : σ l = some (listOf vs.toArray k)) (hp : Paired IntV vs ns) (hne : 0 < ns.length)
    (h : ∀ h' M (t : Tok) tk, St w κ σ₀ σ L m μ h' → M ∈ ns → (∀ a, a ∈ ns → a ≤ M) → Q (.int M t) { s with heap := h', toks := tk }) :
    wpAny (model prog w) A (call (.builtin "max") [.ref l]) Q E s := by
  have hi := ints_are hp
  have hl : s.heap.IsList l vs.toArray := ⟨_, S.fro _ _ hl, rfl, k, rfl⟩
  obtain ⟨xs, e⟩ := hi.allInts.items
  have hns : ns = xs.toList.map (·.1) := by
    rw [← hi.numsOf, ← nums_intItems, ← e]
  have hsz : 0 < xs.size := by
    have h3 := hne; rw [hns, List.length_map, Array.length_toList] at h3; exact h3
  rw [e] at hl
  refine max_intList hh hl hsz fun v h' tk hv hk => ?_
  obtain ⟨t, rfl⟩ := intItems_at hv
  obtain ⟨h1, h2⟩ := argBest_gt (numAt xs) (xs.size - 1)
  refine h _ _ t tk (S.keeps hk) ?_ fun a ha => ?_
  · rw [hns, numAt_eq]; exact getD_mem (by rw [List.length_map, Array.length_toList]; omega)
  · rw [hns] at ha
    obtain ⟨j, hj, rfl⟩ := mem_getD ha
    rw [List.length_map, Array.length_toList] at hj
    rw [← numAt_eq]; exact h2 j (by omega)
theorem n_tuplel {l : Addr} {vs : List Value} {k : Nat} {Q : Value → Shared → Prop} (S : St w κ σ₀ σ L m μ s.heap) (hl : s.heap.get? l = some (listOf vs.toArray k)) (hz : vs.length ≤ 1000)
    (h : ∀ D h' σ', Le σ σ' → σ' D = some ({ cls := .type "tuple", data := .seq vs.toArray } : Obj) → Grow s.heap σ h' σ' → St w κ σ₀ σ' L m μ h' → Q (.ref D) { s with heap := h' }) :
    wpAny (model prog w) A (call (.type "tuple") [.ref l]) Q E s := by
  refine call_tuple_list ⟨_, hl, rfl, k, rfl⟩ (fun h' hk => ?_) (by rw [List.size_toArray, sizeLine_eq]; omega)
  have S1 := S.keeps hk
  have S2 := S1.pushF (o := ({ cls := .type "tuple", data := .seq vs.toArray } : Obj)) rfl
  have hn : σ h'.objs.size = none := S1.fro.none_size (Nat.le_refl _)
  have hle : Le s.heap.get? h'.get? := hk
  refine h _ _ _ (upd_le hn) (upd_same _ _ _) ⟨hle.trans (push_le _ _), upd_le hn, S2.fro, fun a o e => ?_⟩ S2
  unfold upd at e; split at e
  · rename_i q
    refine .inr ?_
    rw [q]
    cases r : s.heap.get? h'.objs.size with
    | none => rfl
    | some o' => exact absurd (Heap.lt_size (hk _ _ r)) (Nat.lt_irrefl _)
  · exact .inl e
theorem n_addlM {Q : Value → Shared → Prop} {l b : Addr} {vs ws : List Value} {k k' : Nat} (S : St w κ σ₀ σ L m μ s.heap) (hl : s.heap.get? l = some (listOf vs.toArray k)) (hb : s.heap.get? b = some (listOf ws.toArray k')) (hsz : vs.length + ws.length ≤ 2000)
    (h : ∀ D h', St w κ σ₀ σ L m ((D, listOf (vs ++ ws).toArray 0) :: μ) h' → Le s.heap.get? h'.get? → Q (.ref D) { s with heap := h' }) : wpAny (model prog w) A (binaryOp .Add (.ref l) (.ref b)) Q E s := by
  refine P.add_list hl hb ?_ (by rw [List.size_toArray, List.size_toArray, sizeLine_eq]; omega)
  rw [List.append_toArray]
  exact h _ _ (S.pushM rfl) (push_le _ _)
theorem n_ne_nil {l b : Addr} {vs : List Value} {k k' : Nat} {Q : Value → Shared → Prop} (hl : s.heap.get? l = some (listOf vs.toArray k)) (hb : s.heap.get? b = some (listOf #[] k')) (hu : A.units < cLine) (h : Q (.bool (!vs.isEmpty)) s) :
    wpAny (model prog w) A (compareOp .NotEq (.ref l) (.ref b)) Q E s := by
  show wpAny (model prog w) A (richCompare .NotEq (.ref l) (.ref b)) Q E s
  cases vs with
  | nil =>
    exact SeqAt.RcNeAt.lists (e := fun _ => true) ⟨_, hl, rfl, k, rfl⟩ ⟨_, hb, rfl, k', rfl⟩ rfl hu (fun j h1 _ => by simp at h1) prog w E Q (by simpa using h)
  | cons v r =>
    exact SeqAt.RcNeAt.lists_lengths ⟨_, hl, rfl, k, rfl⟩ ⟨_, hb, rfl, k', rfl⟩ (by simp) hu prog w E Q (by simpa using h)
end

set_option maxHeartbeats 4000000

theorem fillK_all (w : World) (h : Heap) (p : Program) (KX : (Mine.hd.heap_1 w.params).In h) : PySem.Challenge.rw_pb0474_01.row.prog = p → True := by
  revert KX; k_fill; intros; trivial
-- a name is read
local macro_rules | `(tactic| tb_rel) => `(tactic| first | (with_reducible exact setm_same) | (with_reducible assumption) | (refine setm_ne (by decide) ?_; tb_rel))
local macro_rules | `(tactic| walk_at "eval Name") => `(tactic| ((with_reducible show wpAny _ _ (eval (Expr.Name _ _) _) _ _ _); first
  | (with_unfolding_all refine' n_loc ?S ?L ?v ?k ?l ?d ?_; (case l => exact rfl); (case L => exact rfl); (case k => exact rfl); (case d => decide); (case S => assumption); (case v => tb_rel))
  | (with_unfolding_all refine' n_cell ?k ?l ?c ?d ?o ?v ?_; (case l => exact rfl); (case k => exact rfl); (case c => exact rfl); (case d => decide); (case o => first | exact kk_get (by assumption) (by assumption) | exact mu_get (by assumption) (by k_mem)); (case v => assumption))
  | (with_unfolding_all refine' n_glob ?S ?k ?x ?g ?d ?e ?_; (case x => exact rfl); (case k => exact rfl); (case g => exact rfl); (case d => decide); (case S => assumption); (case e => k_is))
  | (with_unfolding_all refine' n_blt ?S ?k ?x ?g ?b ?d ?e ?v ?n ?_; (case x => exact rfl); (case k => exact rfl); (case g => exact rfl); (case b => exact rfl); (case d => decide); (case S => assumption); (case e => k_is); (case v => with_reducible first | exact b_bool | exact b_int | exact b_len | exact b_list | exact b_range | exact b_sorted | exact b_max | exact b_min | exact b_tuple | exact b_isinstance); (case n => decide))))
local macro_rules | `(tactic| walk_at "storeName") => `(tactic| first
  | ((with_unfolding_all refine' n_st ?S ?L ?l ?p ?_; (case l => exact rfl); (case L => exact rfl); (case p => exact rfl); (case S => assumption)); intro h' S')
  | ((with_unfolding_all refine' n_cst ?S ?k ?l ?c ?v ?_; (case l => exact rfl); (case k => exact rfl); (case S => assumption); (case c => exact rfl); (case v => assumption)); intro h' o' d' S')
  | ((with_unfolding_all refine' n_cst1 ?S ?k ?l ?c ?v ?_; (case l => exact rfl); (case k => exact rfl); (case S => assumption); (case c => exact rfl); (case v => assumption)); intro h' o' d' S'))
local macro_rules | `(tactic| walk_at "callWith ref") => `(tactic| first
  | ((with_unfolding_all refine' n_callK ?S ?k ?_ ?e ?p); (case S => assumption); (case k => exact rfl); (case e => exact rfl); (case p => exact rfl))
  | ((with_unfolding_all refine' n_callK0 ?S ?k ?_); (case S => assumption); (case k => exact rfl)))
local macro_rules | `(tactic| walk_at "And") => `(tactic| (refine n_in (by assumption) ?_))
local macro_rules | `(tactic| walk_at "newTuple") => `(tactic| ((refine n_tup (by assumption) ?_ (by size_fits)); intro a' h' s' l' t' g' S'))
local macro_rules | `(tactic| walk_at "newList") => `(tactic| ((refine n_list (by assumption) ?_ (by size_fits)); intro a' h' S' l'))

-- what is known is carried up
local macro_rules | `(tactic| tb_start) => `(tactic| first | exact Le.refl _ | assumption | (refine Le.trans ?_ (by assumption); tb_start))
local macro_rules | `(tactic| ktr_rel) => `(tactic| first | assumption | (refine DecR.mono (by assumption) (by tb_start)) | (refine GlyR.mono (by assumption) (by tb_start)))
local macro_rules | `(tactic| walk_at "getAttr") => `(tactic| first
  | ((with_reducible show wpAny _ _ (getAttr _ (Str.ofString "top") _) _ _ _); refine a_top (by assumption) (by ktr_rel) ?_; intro t')
  | ((with_reducible show wpAny _ _ (getAttr _ (Str.ofString "places") _) _ _ _); refine a_places (by assumption) (by ktr_rel) ?_; intro t')
  | ((with_reducible show wpAny _ _ (getAttr _ (Str.ofString "text") _) _ _ _); refine g_text (by assumption) (by ktr_rel) ?_; intro t')
  | ((with_reducible show wpAny _ _ (getAttr _ (Str.ofString "x") _) _ _ _); refine g_x (by assumption) (by ktr_rel) ?_; intro u' D')
  | ((with_reducible show wpAny _ _ (getAttr _ (Str.ofString "y") _) _ _ _); refine g_y (by assumption) (by ktr_rel) ?_; intro u' D')
  | ((with_reducible show wpAny _ _ (getAttr _ (Str.ofString "width") _) _ _ _); refine g_w (by assumption) (by ktr_rel) ?_; intro u' D')
  | ((with_reducible show wpAny _ _ (getAttr _ (Str.ofString "size") _) _ _ _); refine g_s (by assumption) (by ktr_rel) ?_; intro u' D'))
local macro_rules | `(tactic| walk_at "getMethod") => `(tactic| ((with_unfolding_all refine' d_meth ?S ?D ?f ?t ?n ?_); (case S => assumption); (case D => ktr_rel); (case f => k_is); (case t => exact rfl); (case n => decide)))
local macro_rules | `(tactic| walk_at "call builtin:isinstance") => `(tactic| ((with_reducible show wpAny _ _ (call _ [_, Value.ref 143]) _ _ _); first | refine isi_int_no (by assumption) ?_ | refine isi_dec (by assumption) (by ktr_rel) ?_))

local macro_rules | `(tactic| ktr_unf) => `(tactic| first | exact Rm.hd (by assumption) | exact hd_deeper (Rm.hd (by assumption)))
local macro_rules | `(tactic| walk_at "call builtin:max") => `(tactic| ((with_reducible show wpAny _ _ (call _ [Value.int 0 _, Value.int 0 _]) _ _ _); refine n_max0 (by ktr_unf) (by assumption) ?_; intro t' h' tk' S' G'))
local macro_rules | `(tactic| walk_at "assign Tuple") => `(tactic| ((refine' n_unpack ?S ?t ?hh ?n ?st ?_); (case S => assumption); (case t => assumption); (case hh => ktr_unf); (case n => rfl); (case st => rfl); intro h' S'))

local macro_rules | `(tactic| walk_at "exec For") => `(tactic| ((refine' for_ ?hs ?_); (case hs => (intro _; with_unfolding_all rfl))))
local macro_rules | `(tactic| walk_at "eval ListComp") => `(tactic| ((with_unfolding_all refine' comp_ ?c ?k ?n ?s ?_); (case c => with_unfolding_all exact rfl); (case k => with_unfolding_all exact rfl); (case n => with_unfolding_all decide); (case s => (intro _; with_unfolding_all rfl))))
local macro_rules | `(tactic| walk_at "tests nil") => `(tactic| (refine wpAny_tests_nil ?_))
local macro_rules | `(tactic| walk_at "tests cons") => `(tactic| (refine wpAny_tests_one ?_))

local macro_rules | `(tactic| walk_at "eval Attribute") => `(tactic| (refine Attribute_any_ ?_))

local macro_rules | `(tactic| walk_at "call builtin:len") => `(tactic| ((refine' n_len ?g ?z ?_); (case g => first | exact fro_get (by assumption) (by assumption) | exact mu_get (by assumption) (by k_mem) | (refine' fro_get ?sq (Le.app ?lq ?eq); (case sq => assumption); (case eq => assumption); (case lq => tb_start))); (case z => first | assumption | omega | (simp; omega)); intro t'))
local macro_rules | `(tactic| walk_at "eval Subscript") => `(tactic| ((with_reducible show wpAny _ _ (eval (Expr.Subscript _ (Expr.Slice _ _ none _) _) _) _ _ _); (refine' sub_slice ?_ ?ht); (case ht => (intro _ _; with_unfolding_all rfl))))

local macro_rules | `(tactic| walk_at "exec Assign cons ListComp") => `(tactic| ((with_unfolding_all refine' assign_comp ?w ?c ?k ?n ?s ?_); (case w => with_unfolding_all rfl); (case c => with_unfolding_all exact rfl); (case k => with_unfolding_all exact rfl); (case n => with_unfolding_all decide); (case s => (intro _; with_unfolding_all rfl))))



section
variable {w : World} {A : Around} {E : Value → Shared → Prop} {s : Shared} {σ : PM} {Q : Value → Shared → Prop}

theorem sign_of_spec {n : Int} {t : Tok} (hA : Rm A 1) (B : BaseS w σ) (hf : Le σ s.heap.get?)
    (h : ∀ k t' h' tk, k = (if n = 0 then (0 : Int) else if 0 < n then 1 else -1) → Grow s.heap σ h' σ → Q (.int k t') { s with heap := h', toks := tk }) :
    wpAny (model PySem.Challenge.rw_pb0474_01.row.prog w) A (call (.ref 161) [.int n t]) Q E s := by
  refine wpAny_call ?_
  refine' enter (binds := [("number", .int n t)]) B hf ?ho ?hcd hA.room ?bind ?loc ?cell ?co ?gen ?k ?_
  case ho => k_is
  case hcd => k_is
  case bind => exact BindsTo.of_eq rfl
  case loc => exact locs rfl
  case cell => decide
  case co => rfl
  case gen => rfl
  case k => rfl
  intro L h1 S hL
  dsimp only [bindm, List.foldl] at S
  repeat' (first | walk1 | (dsimp only; walk1))
  all_goals dsimp only
  · exact h _ _ _ _ (by simp [*]) S.leave
  · exact h _ _ _ _ (by simp [*]) S.leave
  · exact h _ _ _ _ (by simp [*]) S.leave

theorem while_off {test : Expr} {body : List Stmt} {pos : Pos} {env : Env} {Q : Flow → Shared → Prop}
    (h : wpAny (model PySem.Challenge.rw_pb0474_01.row.prog w) A (isTrue test env (eval test env)) (fun b s₁ => b = false ∧ Q .next s₁) Zf s) :
    wpAny (model PySem.Challenge.rw_pb0474_01.row.prog w) A (exec (.While test body [] pos) env) Q E s := by
  refine wpAny_While (codeAny_whileLoop (fun _ s' => s' = s) (fun n s' e => ?_) 0 rfl)
  subst e
  refine wpAny_mono h (fun b s₂ hb => ?_) fun _ _ x => x.elim
  obtain ⟨rfl, hq⟩ := hb
  exact wpAny_execs_nil hq

local macro_rules | `(tactic| walk_at "exec While") => `(tactic| (refine while_off ?_))
theorem dec_new {n : Int} {t1 t2 : Tok} (hA : Rm A 2) (B : BaseS w σ) (hf : Le σ s.heap.get?)
    (h : ∀ v h' tk σ', Grow s.heap σ h' σ' → DecR w σ' v n → Q v { s with heap := h', toks := tk }) :
    wpAny (model PySem.Challenge.rw_pb0474_01.row.prog w) A (call (.ref 143) [.int n t1, .int 0 t2]) Q E s := by
  refine wpAny_call ?_
  obtain ⟨hp, gs, dr, tk, os⟩ := s
  have KX : (hd.heap_1 w.params).In hp := B.inn hf
  refine make_core (makes_of KX ?mk) (looks_findIn KX (r := some (.ref 63)) ?hi) (fun self => bind_fn KX self ?hb) (.inl rfl) ?_
  case mk => k_is
  case hi => k_is
  case hb => rfl
  have l0 : hp.get? hp.objs.size = none := get_none_size (Nat.le_refl _)
  have l1 : hp.get? (hp.objs.size + 1) = none := get_none_size (Nat.le_succ _)
  generalize hH : (hp.push emptyDict).push (instObj 143 hp.objs.size) = H2
  have k2 : Le hp.get? H2.get? := by rw [← hH]; exact (push_le _ _).trans (push_le _ _)
  have e0 : H2.get? hp.objs.size = some emptyDict := by rw [← hH]; exact push_le _ _ _ _ (Heap.get?_push_size _ rfl)
  have e1 : H2.get? (hp.objs.size + 1) = some (instObj 143 hp.objs.size) := by
    rw [← hH]; have := Heap.get?_push_size (hp.push emptyDict) (o := instObj 143 hp.objs.size) rfl; rwa [Heap.size_push] at this
  have sz : H2.objs.size = hp.objs.size + 2 := by rw [← hH, Heap.size_push, Heap.size_push]
  refine' enter (binds := [("self", .ref (hp.objs.size + 1)), ("top", .int n t1), ("places", .int 0 t2)]) B (hf.trans k2) ?ho ?hcd ?room ?bind ?loc ?cell ?co ?gen ?k ?_
  case ho => k_is
  case hcd => k_is
  case room => exact hA.make
  case bind => exact BindsTo.of_eq rfl
  case loc => exact locs rfl
  case cell => decide
  case co => rfl
  case gen => rfl
  case k => rfl
  intro L h1 S hL
  dsimp only [bindm, List.foldl] at S
  have F : Fr hp L h1 _ := ⟨S.ns, k2.trans S.kk, by rw [hL, sz]; exact Nat.le_add_right _ _⟩
  have N : News hp L h1 [(hp.objs.size + 1, instObj 143 hp.objs.size), (hp.objs.size, dictOf [] 0)] := by
    intro p hp'
    rcases List.mem_cons.mp hp' with rfl | hp'
    · exact ⟨S.kk _ _ e1, Le.ne S.kL e1, l1⟩
    · rcases List.mem_cons.mp hp' with rfl | hp'
      · exact ⟨S.kk _ _ e0, Le.ne S.kL e0, l0⟩
      · cases hp'
  clear S
  repeat' (first | walk1 | (dsimp only; walk1))
  dsimp only
  refine ⟨rfl, ?_⟩
  repeat' (first | walk1 | (dsimp only; walk1))
  rename_i h3 h4 F4 N4
  refine h _ _ _ (upd (upd σ hp.objs.size _) (hp.objs.size + 1) _) (((Grow.of_keep hf F4.keep).add hf l0 (N4 _ (.tail _ (.head _))).1).add hf l1 (N4 _ (.head _)).1) ?_
  exact ⟨_, _, _, _, _, _, _, rfl, upd_same _ _ _, (if_neg (Nat.ne_of_lt (Nat.lt_succ_self _))).trans (upd_same _ _ _)⟩
end

local macro_rules | `(tactic| walk_at "call ref") => `(tactic| ((with_reducible show wpAny _ _ (call (Value.ref 143) _ _) _ _ _); (refine at_St (by assumption) (fun B' f' => ?_)); (refine dec_new (Rm.call (by assumption) (by decide)) B' f' ?_); clear B' f'; intro v' h' tk' s' G' D'; (have S' := St.grow (by assumption) G'); (have l' := Grow.sub G')))

section
variable {w : World} {A : Around} {E : Value → Shared → Prop} {s : Shared} {σ : PM} {Q : Value → Shared → Prop}

theorem decimal_of_dec {v : Value} {n : Int} (hA : Rm A 1) (B : BaseS w σ) (hf : Le σ s.heap.get?) (D : DecR w σ v n)
    (h : ∀ h' tk, Grow s.heap σ h' σ → Q v { s with heap := h', toks := tk }) :
    wpAny (model PySem.Challenge.rw_pb0474_01.row.prog w) A (call (.ref 168) [v]) Q E s := by
  refine wpAny_call ?_
  refine' enter (binds := [("value", v)]) B hf ?ho ?hcd hA.room ?bind ?loc ?cell ?co ?gen ?k ?_
  case ho => k_is
  case hcd => k_is
  case bind => exact BindsTo.of_eq rfl
  case loc => exact locs rfl
  case cell => decide
  case co => rfl
  case gen => rfl
  case k => rfl
  intro L h1 S hL
  dsimp only [bindm, List.foldl] at S
  repeat' (first | walk1 | (dsimp only; walk1))
  dsimp only
  exact h _ _ S.leave
theorem decimal_of_int {n : Int} {t : Tok} (hA : Rm A 4) (B : BaseS w σ) (hf : Le σ s.heap.get?)
    (h : ∀ v h' tk σ', Grow s.heap σ h' σ' → DecR w σ' v n → Q v { s with heap := h', toks := tk }) :
    wpAny (model PySem.Challenge.rw_pb0474_01.row.prog w) A (call (.ref 168) [.int n t]) Q E s := by
  refine wpAny_call ?_
  refine' enter (binds := [("value", .int n t)]) B hf ?ho ?hcd hA.room ?bind ?loc ?cell ?co ?gen ?k ?_
  case ho => k_is
  case hcd => k_is
  case bind => exact BindsTo.of_eq rfl
  case loc => exact locs rfl
  case cell => decide
  case co => rfl
  case gen => rfl
  case k => rfl
  intro L h1 S hL
  dsimp only [bindm, List.foldl] at S
  repeat' (first | walk1 | (dsimp only; walk1))
  rename_i G' D' S' l'
  exact h _ _ _ _ S'.leave D'
theorem told_spec {v : Value} {n : Int} (hA : Rm A 1) (B : BaseS w σ) (hf : Le σ s.heap.get?) (D : DecR w σ v n)
    (h : ∀ a t1 t2 h' tk σ', Grow s.heap σ h' σ' → σ' a = some ({ cls := .type "tuple", data := .seq #[.int n t1, .int 0 t2] } : Obj) → Q (.ref a) { s with heap := h', toks := tk }) :
    wpAny (model PySem.Challenge.rw_pb0474_01.row.prog w) A (call (.ref 126) [v]) Q E s := by
  refine wpAny_call ?_
  refine' enter (binds := [("self", v)]) B hf ?ho ?hcd hA.room ?bind ?loc ?cell ?co ?gen ?k ?_
  case ho => k_is
  case hcd => k_is
  case bind => exact BindsTo.of_eq rfl
  case loc => exact locs rfl
  case cell => decide
  case co => rfl
  case gen => rfl
  case k => rfl
  intro L h1 S hL
  dsimp only [bindm, List.foldl] at S
  repeat' (first | walk1 | (dsimp only; walk1))
  rename_i t' g' S'
  exact h _ _ _ _ _ _ S'.leave t'

local macro_rules | `(tactic| walk_at "call ref") => `(tactic| ((with_reducible show wpAny _ _ (call (Value.ref 168) _ _) _ _ _); (refine at_St (by assumption) (fun B' f' => ?_)); (refine decimal_of_dec (Rm.call (by assumption) (by decide)) B' f' (by ktr_rel) ?_); clear B' f'; intro h' tk' G'; (have S' := St.grow (by assumption) G')))
theorem int_mulOne {a : Int} {k : Nat} (hk : k = 0) : a * 10 ^ k = a := by subst hk; simp

theorem at_one_scale_spec {v1 v2 : Value} {n1 n2 : Int} (hA : Rm A 2) (B : BaseS w σ) (hf : Le σ s.heap.get?) (D1 : DecR w σ v1 n1) (D2 : DecR w σ v2 n2)
    (h : ∀ a t1 t2 t3 h' tk σ', Grow s.heap σ h' σ' → σ' a = some ({ cls := .type "tuple", data := .seq #[.int n1 t1, .int n2 t2, .int 0 t3] } : Obj) → Q (.ref a) { s with heap := h', toks := tk }) :
    wpAny (model PySem.Challenge.rw_pb0474_01.row.prog w) A (call (.ref 175) [v1, v2]) Q E s := by
  refine wpAny_call ?_
  refine' enter (binds := [("one", v1), ("other", v2)]) B hf ?ho ?hcd hA.room ?bind ?loc ?cell ?co ?gen ?k ?_
  case ho => k_is
  case hcd => k_is
  case bind => exact BindsTo.of_eq rfl
  case loc => exact locs rfl
  case cell => decide
  case co => rfl
  case gen => rfl
  case k => rfl
  intro L h1 S hL
  dsimp only [bindm, List.foldl] at S
  repeat' (first | walk1 | (dsimp only; walk1))
  rename_i t' g' S'
  rw [int_mulOne (k := ((0 : Int) - 0).toNat) rfl, int_mulOne (k := ((0 : Int) - 0).toNat) rfl] at t'
  exact h _ _ _ _ _ _ _ S'.leave t'
local macro_rules | `(tactic| walk_at "call ref") => `(tactic| ((with_reducible show wpAny _ _ (call (Value.ref 175) _ _) _ _ _); (refine at_St (by assumption) (fun B' f' => ?_)); (refine at_one_scale_spec (Rm.call (by assumption) (by decide)) B' f' (by ktr_rel) (by ktr_rel) ?_); clear B' f'; intro a' t1' t2' t3' h' tk' s' G' t'; (have S' := St.grow (by assumption) G'); (have l' := Grow.sub G')))
theorem plus_spec {v1 v2 : Value} {n1 n2 : Int} (hA : Rm A 4) (B : BaseS w σ) (hf : Le σ s.heap.get?) (D1 : DecR w σ v1 n1) (D2 : DecR w σ v2 n2)
    (h : ∀ v h' tk σ', Grow s.heap σ h' σ' → DecR w σ' v (n1 + n2) → Q v { s with heap := h', toks := tk }) :
    wpAny (model PySem.Challenge.rw_pb0474_01.row.prog w) A (call (.ref 70) [v1, v2]) Q E s := by
  refine wpAny_call ?_
  refine' enter (binds := [("self", v1), ("other", v2)]) B hf ?ho ?hcd hA.room ?bind ?loc ?cell ?co ?gen ?k ?_
  case ho => k_is
  case hcd => k_is
  case bind => exact BindsTo.of_eq rfl
  case loc => exact locs rfl
  case cell => decide
  case co => rfl
  case gen => rfl
  case k => rfl
  intro L h1 S hL
  dsimp only [bindm, List.foldl] at S
  repeat' (first | walk1 | (dsimp only; walk1))
  rename_i G' D' S' l'
  exact h _ _ _ _ S'.leave D'
theorem minus_spec {v1 v2 : Value} {n1 n2 : Int} (hA : Rm A 4) (B : BaseS w σ) (hf : Le σ s.heap.get?) (D1 : DecR w σ v1 n1) (D2 : DecR w σ v2 n2)
    (h : ∀ v h' tk σ', Grow s.heap σ h' σ' → DecR w σ' v (n1 - n2) → Q v { s with heap := h', toks := tk }) :
    wpAny (model PySem.Challenge.rw_pb0474_01.row.prog w) A (call (.ref 77) [v1, v2]) Q E s := by
  refine wpAny_call ?_
  refine' enter (binds := [("self", v1), ("other", v2)]) B hf ?ho ?hcd hA.room ?bind ?loc ?cell ?co ?gen ?k ?_
  case ho => k_is
  case hcd => k_is
  case bind => exact BindsTo.of_eq rfl
  case loc => exact locs rfl
  case cell => decide
  case co => rfl
  case gen => rfl
  case k => rfl
  intro L h1 S hL
  dsimp only [bindm, List.foldl] at S
  repeat' (first | walk1 | (dsimp only; walk1))
  rename_i G' D' S' l'
  exact h _ _ _ _ S'.leave D'
local macro_rules | `(tactic| walk_at "call ref") => `(tactic| ((with_reducible show wpAny _ _ (call (Value.ref 70) _ _) _ _ _); (refine at_St (by assumption) (fun B' f' => ?_)); (refine plus_spec (Rm.call (by assumption) (by decide)) B' f' (by ktr_rel) (by ktr_rel) ?_); clear B' f'; intro v' h' tk' s' G' D'; (have S' := St.grow (by assumption) G'); (have l' := Grow.sub G')))
local macro_rules | `(tactic| walk_at "call ref") => `(tactic| ((with_reducible show wpAny _ _ (call (Value.ref 77) _ _) _ _ _); (refine at_St (by assumption) (fun B' f' => ?_)); (refine minus_spec (Rm.call (by assumption) (by decide)) B' f' (by ktr_rel) (by ktr_rel) ?_); clear B' f'; intro v' h' tk' s' G' D'; (have S' := St.grow (by assumption) G'); (have l' := Grow.sub G')))
local macro_rules | `(tactic| walk_at "call ref") => `(tactic| ((with_reducible show wpAny _ _ (call (Value.ref 161) _ _) _ _ _); (refine at_St (by assumption) (fun B' f' => ?_)); (refine sign_of_spec (Rm.call (by assumption) (by decide)) B' f'  ?_); clear B' f'; intro k' t' h' tk' e' G'; (have S' := St.grow (by assumption) G')))

theorem sgn_pos {n : Int} : ((if n = 0 then (0 : Int) else if 0 < n then 1 else -1) > 0) ↔ n > 0 := by
  split
  · omega
  · split <;> omega
theorem compared_spec {v1 v2 : Value} {n1 n2 : Int} (hA : Rm A 3) (B : BaseS w σ) (hf : Le σ s.heap.get?) (D1 : DecR w σ v1 n1) (D2 : DecR w σ v2 n2)
    (h : ∀ k t h' tk σ', Grow s.heap σ h' σ' → (0 < k ↔ n2 < n1) → (k < 0 ↔ n1 < n2) → Q (.int k t) { s with heap := h', toks := tk }) :
    wpAny (model PySem.Challenge.rw_pb0474_01.row.prog w) A (call (.ref 98) [v1, v2]) Q E s := by
  refine wpAny_call ?_
  refine' enter (binds := [("self", v1), ("other", v2)]) B hf ?ho ?hcd hA.room ?bind ?loc ?cell ?co ?gen ?k ?_
  case ho => k_is
  case hcd => k_is
  case bind => exact BindsTo.of_eq rfl
  case loc => exact locs rfl
  case cell => decide
  case co => rfl
  case gen => rfl
  case k => rfl
  intro L h1 S hL
  dsimp only [bindm, List.foldl] at S
  repeat' (first | walk1 | (dsimp only; walk1))
  rename_i e' G' S'
  dsimp only
  refine h _ _ _ _ _ S'.leave ?_ ?_
  · rw [e']; split
    · omega
    · split <;> omega
  · rw [e']; split
    · omega
    · split <;> omega
theorem absolute_spec {v : Value} {n : Int} (hA : Rm A 3) (B : BaseS w σ) (hf : Le σ s.heap.get?) (D : DecR w σ v n) (hn : 0 ≤ n)
    (h : ∀ h' tk, Grow s.heap σ h' σ → Q v { s with heap := h', toks := tk }) :
    wpAny (model PySem.Challenge.rw_pb0474_01.row.prog w) A (call (.ref 201) [v]) Q E s := by
  refine wpAny_call ?_
  refine' enter (binds := [("value", v)]) B hf ?ho ?hcd hA.room ?bind ?loc ?cell ?co ?gen ?k ?_
  case ho => k_is
  case hcd => k_is
  case bind => exact BindsTo.of_eq rfl
  case loc => exact locs rfl
  case cell => decide
  case co => rfl
  case gen => rfl
  case k => rfl
  intro L h1 S hL
  dsimp only [bindm, List.foldl] at S
  repeat' (first | walk1 | (dsimp only; walk1))
  · exfalso; omega
  · dsimp only
    exact h _ _ (St.leave (by assumption))
local macro_rules | `(tactic| walk_at "call ref") => `(tactic| ((with_reducible show wpAny _ _ (call (Value.ref 168) [Value.int _ _] _) _ _ _); (refine at_St (by assumption) (fun B' f' => ?_)); (refine decimal_of_int (Rm.call (by assumption) (by decide)) B' f' ?_); clear B' f'; intro v' h' tk' s' G' D'; (have S' := St.grow (by assumption) G'); (have l' := Grow.sub G')))
theorem times_spec {v : Value} {n k : Int} {u : Tok} (hA : Rm A 6) (B : BaseS w σ) (hf : Le σ s.heap.get?) (D : DecR w σ v n) (hk : 0 ≤ k ∧ k < 100)
    (h : ∀ v h' tk σ', Grow s.heap σ h' σ' → DecR w σ' v (n * k) → Q v { s with heap := h', toks := tk }) :
    wpAny (model PySem.Challenge.rw_pb0474_01.row.prog w) A (call (.ref 84) [v, .int k u]) Q E s := by
  refine wpAny_call ?_
  refine' enter (binds := [("self", v), ("other", .int k u)]) B hf ?ho ?hcd hA.room ?bind ?loc ?cell ?co ?gen ?k ?_
  case ho => k_is
  case hcd => k_is
  case bind => exact BindsTo.of_eq rfl
  case loc => exact locs rfl
  case cell => decide
  case co => rfl
  case gen => rfl
  case k => rfl
  intro L h1 S hL
  dsimp only [bindm, List.foldl] at S
  obtain ⟨hk0, hk1⟩ := hk
  repeat' (first | walk1 | (dsimp only; walk1))
  rename_i G' D' S' l'
  exact h _ _ _ _ S'.leave D'
end

local macro_rules | `(tactic| walk_at "call ref") => `(tactic| ((with_reducible show wpAny _ _ (call (Value.ref 143) _ _) _ _ _); (refine at_St (by assumption) (fun B' f' => ?_)); (refine dec_new (Rm.call (by assumption) (by decide)) B' f'  ?_); clear B' f'; intro v' h' tk' s' G' D'; (have S' := St.grow (by assumption) G'); (have l' := Grow.sub G')))
local macro_rules | `(tactic| walk_at "call ref") => `(tactic| ((with_reducible show wpAny _ _ (call (Value.ref 161) _ _) _ _ _); (refine at_St (by assumption) (fun B' f' => ?_)); (refine sign_of_spec (Rm.call (by assumption) (by decide)) B' f'  ?_); clear B' f'; intro k' t' h' tk' e' G'; (have S' := St.grow (by assumption) G')))
local macro_rules | `(tactic| walk_at "call ref") => `(tactic| ((with_reducible show wpAny _ _ (call (Value.ref 168) _ _) _ _ _); (refine at_St (by assumption) (fun B' f' => ?_)); (refine decimal_of_dec (Rm.call (by assumption) (by decide)) B' f' (by ktr_rel) ?_); clear B' f'; intro h' tk' G'; (have S' := St.grow (by assumption) G')))
local macro_rules | `(tactic| walk_at "call ref") => `(tactic| ((with_reducible show wpAny _ _ (call (Value.ref 168) [Value.int _ _] _) _ _ _); (refine at_St (by assumption) (fun B' f' => ?_)); (refine decimal_of_int (Rm.call (by assumption) (by decide)) B' f'  ?_); clear B' f'; intro v' h' tk' s' G' D'; (have S' := St.grow (by assumption) G'); (have l' := Grow.sub G')))
local macro_rules | `(tactic| walk_at "call ref") => `(tactic| ((with_reducible show wpAny _ _ (call (Value.ref 126) _ _) _ _ _); (refine at_St (by assumption) (fun B' f' => ?_)); (refine told_spec (Rm.call (by assumption) (by decide)) B' f' (by ktr_rel) ?_); clear B' f'; intro a' t1' t2' h' tk' s' G' t'; (have S' := St.grow (by assumption) G'); (have l' := Grow.sub G')))
local macro_rules | `(tactic| walk_at "call ref") => `(tactic| ((with_reducible show wpAny _ _ (call (Value.ref 175) _ _) _ _ _); (refine at_St (by assumption) (fun B' f' => ?_)); (refine at_one_scale_spec (Rm.call (by assumption) (by decide)) B' f' (by ktr_rel) (by ktr_rel) ?_); clear B' f'; intro a' t1' t2' t3' h' tk' s' G' t'; (have S' := St.grow (by assumption) G'); (have l' := Grow.sub G')))
local macro_rules | `(tactic| walk_at "call ref") => `(tactic| ((with_reducible show wpAny _ _ (call (Value.ref 70) _ _) _ _ _); (refine at_St (by assumption) (fun B' f' => ?_)); (refine plus_spec (Rm.call (by assumption) (by decide)) B' f' (by ktr_rel) (by ktr_rel) ?_); clear B' f'; intro v' h' tk' s' G' D'; (have S' := St.grow (by assumption) G'); (have l' := Grow.sub G')))
local macro_rules | `(tactic| walk_at "call ref") => `(tactic| ((with_reducible show wpAny _ _ (call (Value.ref 77) _ _) _ _ _); (refine at_St (by assumption) (fun B' f' => ?_)); (refine minus_spec (Rm.call (by assumption) (by decide)) B' f' (by ktr_rel) (by ktr_rel) ?_); clear B' f'; intro v' h' tk' s' G' D'; (have S' := St.grow (by assumption) G'); (have l' := Grow.sub G')))
local macro_rules | `(tactic| walk_at "call ref") => `(tactic| ((with_reducible show wpAny _ _ (call (Value.ref 98) _ _) _ _ _); (refine at_St (by assumption) (fun B' f' => ?_)); (refine compared_spec (Rm.call (by assumption) (by decide)) B' f' (by ktr_rel) (by ktr_rel) ?_); clear B' f'; intro k' t' h' tk' s' G' p' q'; (have S' := St.grow (by assumption) G'); (have l' := Grow.sub G')))
local macro_rules | `(tactic| walk_at "call ref") => `(tactic| ((with_reducible show wpAny _ _ (call (Value.ref 84) _ _) _ _ _); (refine at_St (by assumption) (fun B' f' => ?_)); (refine times_spec (Rm.call (by assumption) (by decide)) B' f' (by ktr_rel) (by omega) ?_); clear B' f'; intro v' h' tk' s' G' D'; (have S' := St.grow (by assumption) G'); (have l' := Grow.sub G')))
local macro_rules | `(tactic| walk_at "call ref") => `(tactic| ((with_reducible show wpAny _ _ (call (Value.ref 201) _ _) _ _ _); (refine at_St (by assumption) (fun B' f' => ?_)); (refine absolute_spec (Rm.call (by assumption) (by decide)) B' f' (by ktr_rel) (by omega) ?_); clear B' f'; intro h' tk' G'; (have S' := St.grow (by assumption) G')))



section
variable {w : World} {A : Around} {E : Value → Shared → Prop} {s : Shared} {σ : PM} {Q : Value → Shared → Prop}
theorem tops_of_spec {l : Addr} {vs : List Value} {k : Nat} {ns : List Int} (hA : Rm A 6) (B : BaseS w σ) (hf : Le σ s.heap.get?) (hl : σ l = some (listOf vs.toArray k)) (hv : Paired (DecR w σ) vs ns) (hn : vs.length ≤ 1000)
    (h : ∀ a t lt ts k' h' tk σ', Grow s.heap σ h' σ' → σ' a = some ({ cls := .type "tuple", data := .seq #[.ref lt, .int 0 t] } : Obj) → σ' lt = some (listOf ts.toArray k') → Paired IntV ts ns → Q (.ref a) { s with heap := h', toks := tk }) :
    wpAny (model PySem.Challenge.rw_pb0474_01.row.prog w) A (call (.ref 180) [.ref l]) Q E s := by
  refine wpAny_call ?_
  refine' enterC (binds := [("values", .ref l)]) (fun L => [("places", L + 1)]) (setm m0 "values" (.ref l)) (m0) B hf ?ho ?hcd hA.room ?bind ?kind ?nd ?cl ?hm ?hcm ?co ?gen ?k ?_
  case ho => k_is
  case hcd => k_is
  case bind => exact BindsTo.of_eq rfl
  case kind => rfl
  case nd => decide +kernel
  case cl => intro L; rfl
  case hm => intro L; rfl
  case hcm => intro L; rfl
  case co => rfl
  case gen => rfl
  case k => rfl
  intro L h1 tk1 ob S hL hob
  dsimp only [List.map] at S
  have hc := hob _ (.head _)
  replace hc : (ob "places").data = .cell none := hc
  clear hob
  repeat' (first | walk1 | (dsimp only; walk1))
  rename_i h2 o2 d2 S2
  refine loopS (src_list (hd_deeper hA.hd) S2 hl) S2 (fun i σ' m' μ' => σ = σ' ∧ m' "values" = some (.ref l) ∧ ∃ o t, μ' = [(L + 1, o)] ∧ o.data = .cell (some (.int 0 t))) ⟨rfl, setm_same, _, _, rfl, d2⟩ ?_ ?_
  · rintro i v _ m' μ' κ' h3 tk3 hi hvi hl3 ⟨rfl, hm, o3, t3, rfl, d3⟩ S3
    obtain ⟨n, hn', D⟩ := pat hv hvi
    repeat' (first | walk1 | (dsimp only; walk1))
    refine tend (by assumption) (Le.refl _) ⟨rfl, by tb_rel, _, _, rfl, by assumption⟩
  · rintro _ m' μ' h3 tk3 hl3 ⟨rfl, hm, o3, t3, rfl, d3⟩ S3
    repeat' (first | walk1 | (dsimp only; walk1))
    refine comp1S (src_list (hd_deeper hA.hd) S3 hl) S3 (by decide) rfl hn (fun i σ' ys => σ = σ' ∧ Paired IntV ys (ns.take i)) ⟨rfl, .nil⟩ ?_ ?_
    · rintro C D i v _ m'' ys kk κ' h4 tk4 hi hvi hl4 hk4 ⟨rfl, hys⟩ S4
      obtain ⟨n, hn', D⟩ := pat hv hvi
      have hcell := hk4 _ _ (mu_get S3 (.head _))
      repeat' (first | walk1 | (dsimp only; walk1))
      refine eend (by assumption) (Le.refl _) ⟨rfl, ?_⟩
      rw [take_snoc hn']
      exact papp hys (.cons (intV_one rfl) .nil)
    · rintro D _ σ'' ys kk h4 tk4 hl4 ⟨rfl, hys⟩ hD G4 S4
      repeat' (first | walk1 | (dsimp only; walk1))
      dsimp only
      rename_i l5 t5 G5 S5
      rw [take_all hv] at hys
      exact h _ _ _ ys _ _ _ _ S5.leave t5 (l5 _ _ hD) hys
end

def leastI (n : Int) (ns : List Int) : Int := ns.foldl (fun b v => if v < b then v else b) n
def greatI (n : Int) (ns : List Int) : Int := ns.foldl (fun b v => if b < v then v else b) n
theorem leastI_snoc (n : Int) (ns : List Int) (x : Int) : leastI n (ns ++ [x]) = if x < leastI n ns then x else leastI n ns := by unfold leastI; rw [List.foldl_append]; rfl
theorem greatI_snoc (n : Int) (ns : List Int) (x : Int) : greatI n (ns ++ [x]) = if greatI n ns < x then x else greatI n ns := by unfold greatI; rw [List.foldl_append]; rfl
section
variable {w : World} {A : Around} {E : Value → Shared → Prop} {s : Shared} {σ : PM} {Q : Value → Shared → Prop}

theorem least_spec {l : Addr} {v0 : Value} {vr : List Value} {k : Nat} {n : Int} {ns : List Int} (hA : Rm A 6) (B : BaseS w σ) (hf : Le σ s.heap.get?) (hl : σ l = some (listOf (v0 :: vr).toArray k)) (D0 : DecR w σ v0 n) (hv : Paired (DecR w σ) vr ns) (hn : (v0 :: vr).length ≤ 1000)
    (h : ∀ v h' tk σ', Grow s.heap σ h' σ' → DecR w σ' v (leastI n ns) → Q v { s with heap := h', toks := tk }) :
    wpAny (model PySem.Challenge.rw_pb0474_01.row.prog w) A (call (.ref 187) [.ref l]) Q E s := by
  refine wpAny_call ?_
  refine' enter (binds := [("values", .ref l)]) B hf ?ho ?hcd hA.room ?bind ?loc ?cell ?co ?gen ?k ?_
  case ho => k_is
  case hcd => k_is
  case bind => exact BindsTo.of_eq rfl
  case loc => exact locs rfl
  case cell => decide
  case co => rfl
  case gen => rfl
  case k => rfl
  intro L h1 S hL
  dsimp only [bindm, List.foldl] at S
  repeat' (first | walk1 | (dsimp only; walk1))
  · exfalso
    rename_i hz
    simp at hz
    omega
  · refine n_item (x := v0) (fro_get S hl) (by decide) (by decide) rfl ?_ (by with_unfolding_all rfl) (by intro _; with_unfolding_all rfl)
    repeat' (first | walk1 | (dsimp only; walk1))
    rename_i S2
    refine slice_at (ws := vr) S2 (fro_get S2 hl) hn (.int 1 _) .none ?_ ?_
    · have := slicePick_from' (v0 :: vr).toArray 1
      simpa using this
    intro D h3 σ3 l3 hD G3 S3
    dsimp only
    refine loopS (src_list (hd_deeper hA.hd) S3 hD) S3 (fun i σ' m' μ' => μ' = [] ∧ ∃ b, m' "best" = some b ∧ DecR w σ' b (leastI n (ns.take i))) ⟨rfl, _, setm_same, D0.mono l3⟩ ?_ ?_
    · rintro i v σ4 m4 μ4 κ4 h4 tk4 hi hvi hl4 ⟨rfl, b, hb, Db⟩ S4
      obtain ⟨x, hx, Dx⟩ := pat hv hvi
      replace Dx := (Dx.mono l3).mono hl4
      repeat' (first | walk1 | (dsimp only; walk1))
      · refine tend (by assumption) (by tb_start) ⟨rfl, v, by tb_rel, ?_⟩
        rw [take_snoc hx, leastI_snoc, if_pos (by omega)]
        ktr_rel
      · refine tend (by assumption) (by tb_start) ⟨rfl, b, by tb_rel, ?_⟩
        rw [take_snoc hx, leastI_snoc, if_neg (by omega)]
        ktr_rel
    · rintro σ4 m4 μ4 h4 tk4 hl4 ⟨rfl, b, hb, Db⟩ S4
      repeat' (first | walk1 | (dsimp only; walk1))
      dsimp only
      rw [take_all hv] at Db
      exact h _ _ _ _ S4.leave Db
theorem greatest_spec {l : Addr} {v0 : Value} {vr : List Value} {k : Nat} {n : Int} {ns : List Int} (hA : Rm A 6) (B : BaseS w σ) (hf : Le σ s.heap.get?) (hl : σ l = some (listOf (v0 :: vr).toArray k)) (D0 : DecR w σ v0 n) (hv : Paired (DecR w σ) vr ns) (hn : (v0 :: vr).length ≤ 1000)
    (h : ∀ v h' tk σ', Grow s.heap σ h' σ' → DecR w σ' v (greatI n ns) → Q v { s with heap := h', toks := tk }) :
    wpAny (model PySem.Challenge.rw_pb0474_01.row.prog w) A (call (.ref 194) [.ref l]) Q E s := by
  refine wpAny_call ?_
  refine' enter (binds := [("values", .ref l)]) B hf ?ho ?hcd hA.room ?bind ?loc ?cell ?co ?gen ?k ?_
  case ho => k_is
  case hcd => k_is
  case bind => exact BindsTo.of_eq rfl
  case loc => exact locs rfl
  case cell => decide
  case co => rfl
  case gen => rfl
  case k => rfl
  intro L h1 S hL
  dsimp only [bindm, List.foldl] at S
  repeat' (first | walk1 | (dsimp only; walk1))
  · exfalso
    rename_i hz
    simp at hz
    omega
  · refine n_item (x := v0) (fro_get S hl) (by decide) (by decide) rfl ?_ (by with_unfolding_all rfl) (by intro _; with_unfolding_all rfl)
    repeat' (first | walk1 | (dsimp only; walk1))
    rename_i S2
    refine slice_at (ws := vr) S2 (fro_get S2 hl) hn (.int 1 _) .none ?_ ?_
    · have := slicePick_from' (v0 :: vr).toArray 1
      simpa using this
    intro D h3 σ3 l3 hD G3 S3
    dsimp only
    refine loopS (src_list (hd_deeper hA.hd) S3 hD) S3 (fun i σ' m' μ' => μ' = [] ∧ ∃ b, m' "best" = some b ∧ DecR w σ' b (greatI n (ns.take i))) ⟨rfl, _, setm_same, D0.mono l3⟩ ?_ ?_
    · rintro i v σ4 m4 μ4 κ4 h4 tk4 hi hvi hl4 ⟨rfl, b, hb, Db⟩ S4
      obtain ⟨x, hx, Dx⟩ := pat hv hvi
      replace Dx := (Dx.mono l3).mono hl4
      repeat' (first | walk1 | (dsimp only; walk1))
      · refine tend (by assumption) (by tb_start) ⟨rfl, v, by tb_rel, ?_⟩
        rw [take_snoc hx, greatI_snoc, if_pos (by omega)]
        ktr_rel
      · refine tend (by assumption) (by tb_start) ⟨rfl, b, by tb_rel, ?_⟩
        rw [take_snoc hx, greatI_snoc, if_neg (by omega)]
        ktr_rel
    · rintro σ4 m4 μ4 h4 tk4 hl4 ⟨rfl, b, hb, Db⟩ S4
      repeat' (first | walk1 | (dsimp only; walk1))
      dsimp only
      rw [take_all hv] at Db
      exact h _ _ _ _ S4.leave Db
end

local macro_rules | `(tactic| walk_at "call ref") => `(tactic| ((with_reducible show wpAny _ _ (call (Value.ref 187) _ _) _ _ _); (refine at_St (by assumption) (fun B' f' => ?_)); (refine' least_spec (Rm.call (by assumption) (by decide)) B' f' ?hl ?D ?P ?n ?_); (case hl => first | assumption | (refine' Le.app ?lq ?eq; (case eq => assumption); (case lq => tb_start))); (case D => ktr_rel); (case P => (refine' dmono ?lq ?pq; (case pq => assumption); (case lq => tb_start))); (case n => assumption); clear B' f'; intro v' h' tk' s' G' D'; (have S' := St.grow (by assumption) G'); (have l' := Grow.sub G')))
local macro_rules | `(tactic| walk_at "call ref") => `(tactic| ((with_reducible show wpAny _ _ (call (Value.ref 194) _ _) _ _ _); (refine at_St (by assumption) (fun B' f' => ?_)); (refine' greatest_spec (Rm.call (by assumption) (by decide)) B' f' ?hl ?D ?P ?n ?_); (case hl => first | assumption | (refine' Le.app ?lq ?eq; (case eq => assumption); (case lq => tb_start))); (case D => ktr_rel); (case P => (refine' dmono ?lq ?pq; (case pq => assumption); (case lq => tb_start))); (case n => assumption); clear B' f'; intro v' h' tk' s' G' D'; (have S' := St.grow (by assumption) G'); (have l' := Grow.sub G')))

def apartB (g1 g2 : G) (k : Int) : Bool := decide (g1.s * k < (g2.x - g1.x - g1.w) * 10)
def whiteS : Str := Str.ofString " \t\n\x0d\x0c\u00a0"
def plainS (x : Str) : Str := if (Builtin.Str.occurrences whiteS x 0 whiteS.length 1).isEmpty = true then x else Str.ofString " "
def lstL : List Int → Int
  | [] => 0
  | n :: r => leastI n r
def grtL : List Int → Int
  | [] => 0
  | n :: r => greatI n r
/-- a box: four Decimals -/
structure Bx where
  a : Int
  b : Int
  c : Int
  d : Int
def BoxR (w : World) (σ : PM) (v : Value) (b : Bx) : Prop :=
  ∃ a v1 v2 v3 v4, v = .ref a ∧ σ a = some ({ cls := .type "tuple", data := .seq #[v1, v2, v3, v4] } : Obj) ∧ DecR w σ v1 b.a ∧ DecR w σ v2 b.b ∧ DecR w σ v3 b.c ∧ DecR w σ v4 b.d
theorem BoxR.mono {w : World} {σ σ' : PM} {v : Value} {b : Bx} (x : BoxR w σ v b) (hf : Le σ σ') : BoxR w σ' v b :=
  let ⟨a, v1, v2, v3, v4, e, h1, h2, h3, h4, h5⟩ := x; ⟨a, v1, v2, v3, v4, e, hf _ _ h1, h2.mono hf, h3.mono hf, h4.mono hf, h5.mono hf⟩
def acrossOf (gs : List G) : List Int := gs.map (·.x) ++ gs.map fun g => g.x + g.w
def upOf (gs : List G) : List Int := gs.map (·.y) ++ gs.map fun g => g.y + g.s
def boxOf (gs : List G) : Bx := ⟨lstL (acrossOf gs), lstL (upOf gs), grtL (acrossOf gs), grtL (upOf gs)⟩
section
variable {w : World} {A : Around} {E : Value → Shared → Prop} {s : Shared} {σ : PM} {Q : Value → Shared → Prop}

theorem is_apart_spec {v1 v2 : Value} {g1 g2 : G} {k : Int} {t : Tok} (hA : Rm A 8) (B : BaseS w σ) (hf : Le σ s.heap.get?) (D1 : GlyR w σ v1 g1) (D2 : GlyR w σ v2 g2) (hk : 0 ≤ k ∧ k < 100) (h1 : 0 ≤ g1.s)
    (h : ∀ h' tk σ', Grow s.heap σ h' σ' → Q (.bool (apartB g1 g2 k)) { s with heap := h', toks := tk }) :
    wpAny (model PySem.Challenge.rw_pb0474_01.row.prog w) A (call (.ref 236) [v1, v2, .int k t]) Q E s := by
  refine wpAny_call ?_
  refine' enter (binds := [("before", v1), ("behind", v2), ("tenths", .int k t)]) B hf ?ho ?hcd hA.room ?bind ?loc ?cell ?co ?gen ?k ?_
  case ho => k_is
  case hcd => k_is
  case bind => exact BindsTo.of_eq rfl
  case loc => exact locs rfl
  case cell => decide
  case co => rfl
  case gen => rfl
  case k => rfl
  intro L h1 S hL
  dsimp only [bindm, List.foldl] at S
  repeat' (first | walk1 | (dsimp only; walk1))
  rename_i G' p' q' S' l'
  have e : ∀ k' : Int, (0 < k' ↔ g1.s * k < (g2.x - g1.x - g1.w) * 10) → decide (0 < k') = apartB g1 g2 k := fun k' p => decide_eq_decide.mpr p
  rw [e _ p']
  exact h _ _ _ S'.leave
theorem plain_sign_spec {x : Str} {t : Tok} (hA : Rm A 1) (B : BaseS w σ) (hf : Le σ s.heap.get?)
    (h : ∀ t' h' tk, Grow s.heap σ h' σ → Q (.str (plainS x) t') { s with heap := h', toks := tk }) :
    wpAny (model PySem.Challenge.rw_pb0474_01.row.prog w) A (call (.ref 253) [.str x t]) Q E s := by
  refine wpAny_call ?_
  refine' enter (binds := [("sign", .str x t)]) B hf ?ho ?hcd hA.room ?bind ?loc ?cell ?co ?gen ?k ?_
  case ho => k_is
  case hcd => k_is
  case bind => exact BindsTo.of_eq rfl
  case loc => exact locs rfl
  case cell => decide
  case co => rfl
  case gen => rfl
  case k => rfl
  intro L h1 S hL
  dsimp only [bindm, List.foldl] at S
  repeat' (first | walk1 | (dsimp only; walk1))
  · rename_i hz
    have e : plainS x = x := if_pos hz
    dsimp only
    have := h t
    rw [e] at this
    exact this _ _ S.leave
  · rename_i hz
    have e : plainS x = Str.ofString " " := if_neg (fun q => by rw [show (Builtin.Str.occurrences whiteS x 0 whiteS.length 1).isEmpty = false from hz] at q; cases q)
    dsimp only
    have := h s.toks
    rw [e] at h
    exact h _ _ _ S.leave
theorem len4 {α β : Type} {F : α → β → Prop} {vs ws : List α} {xs ys : List β} (a : Paired F vs xs) (b : Paired F ws ys) : (vs ++ ws).length = (xs ++ ys).length := (papp a b).length
theorem lst_cons {w : World} {σ : PM} {vs : List Value} {xs : List Int} (p : Paired (DecR w σ) vs xs) (h : xs ≠ []) : ∃ v vr n ns, vs = v :: vr ∧ xs = n :: ns ∧ DecR w σ v n ∧ Paired (DecR w σ) vr ns := by
  cases p with
  | nil => exact absurd rfl h
  | cons d t => exact ⟨_, _, _, _, rfl, rfl, d, t⟩

theorem box_of_spec {l : Addr} {vs : List Value} {k : Nat} {gs : List G} (hA : Rm A 8) (B : BaseS w σ) (hf : Le σ s.heap.get?) (hl : σ l = some (listOf vs.toArray k)) (hv : Paired (GlyR w σ) vs gs) (hn : vs.length ≤ 100) (hne : gs ≠ [])
    (h : ∀ v h' tk σ', Grow s.heap σ h' σ' → BoxR w σ' v (boxOf gs) → Q v { s with heap := h', toks := tk }) :
    wpAny (model PySem.Challenge.rw_pb0474_01.row.prog w) A (call (.ref 246) [.ref l]) Q E s := by
  refine wpAny_call ?_
  refine' enter (binds := [("laid", .ref l)]) B hf ?ho ?hcd hA.room ?bind ?loc ?cell ?co ?gen ?k ?_
  case ho => k_is
  case hcd => k_is
  case bind => exact BindsTo.of_eq rfl
  case loc => exact locs rfl
  case cell => decide
  case co => rfl
  case gen => rfl
  case k => rfl
  intro L h1 S hL
  dsimp only [bindm, List.foldl] at S
  have hlen := hv.length
  repeat' (first | walk1 | (dsimp only; walk1))
  refine comp1S (src_list (hd_deeper hA.hd) S hl) S (by decide) rfl (by omega) (fun i σ' ys => Paired (DecR w σ') ys ((gs.take i).map (·.x))) .nil ?_ ?_
  · rintro C D i v σ' m'' ys kk κ' h4 tk4 hi hvi hl4 hk4 hys S4
    obtain ⟨g, hg', Dg⟩ := pat hv hvi
    replace Dg := (Dg.mono (Le.refl _)).mono hl4
    repeat' (first | walk1 | (dsimp only; walk1))
    refine eend (by assumption) (by tb_start) ?_
    rw [take_snoc hg', List.map_append]
    exact papp (dmono (by tb_start) hys) (.cons (by ktr_rel) .nil)
  intro D10 σp10 σ10 ys10 kk10 h10 tk10 lp10 hys10 hD10 G10 S10
  rw [take_all hv] at hys10
  replace hys10 := dmono lp10 hys10
  have l10 := G10.sub
  dsimp only
  repeat' (first | walk1 | (dsimp only; walk1))
  refine comp1S (src_list (hd_deeper hA.hd) S10 (l10 _ _ hl)) S10 (by decide) rfl (by omega) (fun i σ' ys => Paired (DecR w σ') ys ((gs.take i).map (fun g => g.x + g.w))) .nil ?_ ?_
  · rintro C D i v σ' m'' ys kk κ' h4 tk4 hi hvi hl4 hk4 hys S4
    obtain ⟨g, hg', Dg⟩ := pat hv hvi
    replace Dg := (Dg.mono l10).mono hl4
    repeat' (first | walk1 | (dsimp only; walk1))
    refine eend (by assumption) (by tb_start) ?_
    rw [take_snoc hg', List.map_append]
    exact papp (dmono (by tb_start) hys) (.cons (by ktr_rel) .nil)
  intro D20 σp20 σ20 ys20 kk20 h20 tk20 lp20 hys20 hD20 G20 S20
  rw [take_all hv] at hys20
  replace hys20 := dmono lp20 hys20
  have l20 := G20.sub
  dsimp only
  replace hys10 := dmono l20 hys10
  have z1 := hys10.length
  have z2 := hys20.length
  rw [List.length_map] at z1 z2
  refine n_addl S20 (fro_get S20 (l20 _ _ hD10)) (fro_get S20 hD20) (by omega) ?_
  intro D30 h30 σ30 l30 hD30 G30 S30
  obtain ⟨v0, vr, n, ns, e1, e2, d0, dr⟩ := lst_cons (dmono l30 (papp hys10 hys20)) (by cases gs with | nil => exact absurd rfl hne | cons g r => simp)
  have len1 : (v0 :: vr).length ≤ 1000 := by rw [← e1, List.length_append]; omega
  rw [e1] at hD30
  have l3 : Le σ σ30 := l10.trans (l20.trans l30)
  replace hl := l3 _ _ hl
  replace hv := gmono l3 hv
  repeat' (first | walk1 | (dsimp only; walk1))
  refine comp1S (src_list (hd_deeper hA.hd) ‹St _ _ _ σ30 _ (setm _ (Str.ofString "across") _) _ _› hl) (by assumption) (by decide) rfl (by omega) (fun i σ' ys => Paired (DecR w σ') ys ((gs.take i).map (·.y))) .nil ?_ ?_
  · rintro C D i v σ' m'' ys kk κ' h4 tk4 hi hvi hl4 hk4 hys S4
    obtain ⟨g, hg', Dg⟩ := pat hv hvi
    replace Dg := (Dg.mono (Le.refl _)).mono hl4
    repeat' (first | walk1 | (dsimp only; walk1))
    refine eend (by assumption) (by tb_start) ?_
    rw [take_snoc hg', List.map_append]
    exact papp (dmono (by tb_start) hys) (.cons (by ktr_rel) .nil)
  intro D40 σp40 σ40 ys40 kk40 h40 tk40 lp40 hys40 hD40 G40 S40
  rw [take_all hv] at hys40
  replace hys40 := dmono lp40 hys40
  have l40 := G40.sub
  dsimp only
  repeat' (first | walk1 | (dsimp only; walk1))
  refine comp1S (src_list (hd_deeper hA.hd) S40 (l40 _ _ hl)) S40 (by decide) rfl (by omega) (fun i σ' ys => Paired (DecR w σ') ys ((gs.take i).map (fun g => g.y + g.s))) .nil ?_ ?_
  · rintro C D i v σ' m'' ys kk κ' h4 tk4 hi hvi hl4 hk4 hys S4
    obtain ⟨g, hg', Dg⟩ := pat hv hvi
    replace Dg := (Dg.mono l40).mono hl4
    repeat' (first | walk1 | (dsimp only; walk1))
    refine eend (by assumption) (by tb_start) ?_
    rw [take_snoc hg', List.map_append]
    exact papp (dmono (by tb_start) hys) (.cons (by ktr_rel) .nil)
  intro D50 σp50 σ50 ys50 kk50 h50 tk50 lp50 hys50 hD50 G50 S50
  rw [take_all hv] at hys50
  replace hys50 := dmono lp50 hys50
  have l50 := G50.sub
  dsimp only
  replace hys40 := dmono l50 hys40
  have z4 := hys40.length
  have z5 := hys50.length
  rw [List.length_map] at z4 z5
  refine n_addl S50 (fro_get S50 (l50 _ _ hD40)) (fro_get S50 hD50) (by omega) ?_
  intro D60 h60 σ60 l60 hD60 G60 S60
  obtain ⟨u0, ur, u, us, f1, f2, b0, br⟩ := lst_cons (dmono l60 (papp hys40 hys50)) (by cases gs with | nil => exact absurd rfl hne | cons g r => simp)
  have len2 : (u0 :: ur).length ≤ 1000 := by rw [← f1, List.length_append]; omega
  rw [f1] at hD60
  repeat' (first | walk1 | (dsimp only; walk1))
  refine h _ _ _ _ (St.leave (by assumption)) ⟨_, _, _, _, _, rfl, ‹_ = some (_ : Obj)›, ?_, ?_, ?_, ?_⟩
  · show DecR w _ _ (lstL (acrossOf gs)); rw [show acrossOf gs = n :: ns from e2]; ktr_rel
  · show DecR w _ _ (lstL (upOf gs)); rw [show upOf gs = u :: us from f2]; ktr_rel
  · show DecR w _ _ (grtL (acrossOf gs)); rw [show acrossOf gs = n :: ns from e2]; ktr_rel
  · show DecR w _ _ (grtL (upOf gs)); rw [show upOf gs = u :: us from f2]; ktr_rel
end

local macro_rules | `(tactic| walk_at "call type:range") => `(tactic| ((refine n_range (by assumption) ?_); intro r' h' tk' t1' u1' v1' R' S' G'))
local macro_rules | `(tactic| walk_at "call builtin:list.append") => `(tactic| ((first | refine n_append (by assumption) (by first | assumption | omega | (simp; done) | (simp; omega)) ?_ | refine n_append1 (by assumption) (by first | assumption | omega | (simp; done) | (simp; omega)) ?_ | refine n_append2 (by assumption) (by first | assumption | omega | (simp; done) | (simp; omega)) ?_); intro h' k' S'))
local macro_rules | `(tactic| walk_at "call builtin:list.extend") => `(tactic| ((refine n_extend (by assumption) (by first | exact fro_get (by assumption) (by assumption) | exact mu_get (by assumption) (by k_mem) | ((refine' fro_get ?sq (Le.app ?lq ?eq)); (case sq => assumption); (case eq => assumption); (case lq => tb_start))) (by first | assumption | omega | (simp; done) | (simp; omega)) ?_); intro h' k' S'))
local macro_rules | `(tactic| walk_at "getMethod ref") => `(tactic| first
  | ((with_reducible show wpAny _ _ (getMethod _ (Str.ofString "append") _) _ _ _); (refine' m_append ?hl ?_); (case hl => exact mu_get (by assumption) (by k_mem)))
  | ((with_reducible show wpAny _ _ (getMethod _ (Str.ofString "extend") _) _ _ _); (refine' m_extend ?hl ?_); (case hl => exact mu_get (by assumption) (by k_mem))))

local macro_rules | `(tactic| walk_at "call ref") => `(tactic| ((with_reducible show wpAny _ _ (call (Value.ref 236) _ _) _ _ _); (refine at_St (by assumption) (fun B' f' => ?_)); (refine is_apart_spec (Rm.call (by assumption) (by decide)) B' f' (by ktr_rel) (by ktr_rel) (by assumption) (by assumption) ?_); clear B' f'; intro h' tk' s' G'; (have S' := St.grow (by assumption) G'); (have l' := Grow.sub G')))
local macro_rules | `(tactic| walk_at "call ref") => `(tactic| ((with_reducible show wpAny _ _ (call (Value.ref 253) _ _) _ _ _); (refine at_St (by assumption) (fun B' f' => ?_)); (refine plain_sign_spec (Rm.call (by assumption) (by decide)) B' f' ?_); clear B' f'; intro t' h' tk' G'; (have S' := St.grow (by assumption) G')))

def freshOf (g : G) (at_ : Int) : List (Str × Int) := g.t.cps.toList.map fun c => (plainS ⟨#[c]⟩, at_)
def gapB (found fr : List (Str × Int)) (b g : G) (k : Int) : Bool := (found.getLastD (" ", 0)).1 != " " && ((fr.headD (" ", 0)).1 != " " && apartB b g k)
def g0 : G := ⟨" ", 0, 0, 0, 0⟩
def signsTo (row : List G) (k : Int) : Nat → List (Str × Int)
  | 0 => []
  | i + 1 => signsTo row k i ++ (if 0 < i ∧ gapB (signsTo row k i) (freshOf (row.getD i g0) i) (row.getD (i - 1) g0) (row.getD i g0) k = true then [((" " : Str), (-1 : Int))] else []) ++ freshOf (row.getD i g0) i
def SgnR (σ : PM) (v : Value) (x : Str × Int) : Prop := ∃ a t u, v = .ref a ∧ σ a = some ({ cls := .type "tuple", data := .seq #[.str x.1 t, .int x.2 u, .bool false] } : Obj)
theorem SgnR.mk {σ : PM} {a : Addr} {x : Str} {i j : Int} {t u : Tok} (h : σ a = some ({ cls := .type "tuple", data := .seq [.str x t, .int i u, .bool false].toArray } : Obj)) (e : i = j) : SgnR σ (.ref a) (x, j) := ⟨a, t, u, rfl, e ▸ h⟩
theorem SgnR.mono {σ σ' : PM} {v : Value} {x : Str × Int} (d : SgnR σ v x) (l : Le σ σ') : SgnR σ' v x := let ⟨a, t, u, e, h⟩ := d; ⟨a, t, u, e, l _ _ h⟩
theorem smono {σ σ' : PM} {vs : List Value} {ns : List (Str × Int)} (l : Le σ σ') (p : Paired (SgnR σ) vs ns) : Paired (SgnR σ') vs ns := pmono (fun _ _ d => SgnR.mono d l) p
theorem freshOf_len (g : G) (i : Int) : (freshOf g i).length = g.t.cps.size := by simp [freshOf]
theorem freshOf_ne {g : G} {i : Int} (h : 0 < g.t.cps.size) : freshOf g i ≠ [] := fun e => by have := freshOf_len g i; rw [e] at this; simp at this; omega
theorem signsTo_len {gs : List G} (k : Int) (hg : ∀ g ∈ gs, g.t.cps.size ≤ 3) : ∀ i, (signsTo gs k i).length ≤ 4 * i
  | 0 => Nat.le_refl _
  | i + 1 => by
    have ih := signsTo_len k hg i
    have hd : (gs.getD i g0).t.cps.size ≤ 3 := by
      rw [List.getD_eq_getElem?_getD]
      cases q : gs[i]? with
      | none => decide
      | some g => exact hg g (List.mem_of_getElem? q)
    unfold signsTo
    rw [List.length_append, List.length_append, freshOf_len]
    have : (if 0 < i ∧ gapB (signsTo gs k i) (freshOf (gs.getD i g0) i) (gs.getD (i - 1) g0) (gs.getD i g0) k = true then [((" " : Str), (-1 : Int))] else []).length ≤ 1 := by split <;> simp
    omega
theorem signsTo_ne {gs : List G} (k : Int) (hg : ∀ g ∈ gs, 0 < g.t.cps.size) {i : Nat} (hi : 0 < i) : signsTo gs k i ≠ [] := by
  cases i with
  | zero => omega
  | succ i =>
    unfold signsTo
    refine fun e => freshOf_ne (g := gs.getD i g0) (i := (i : Int)) ?_ (List.append_eq_nil_iff.mp e).2
    rw [List.getD_eq_getElem?_getD]
    cases q : gs[i]? with
    | none => decide
    | some g => exact hg g (List.mem_of_getElem? q)
theorem psnoc {α β : Type} {F : α → β → Prop} {vs : List α} {xs : List β} (p : Paired F vs xs) (h : xs ≠ []) : ∃ vs' v xs' x, vs = vs' ++ [v] ∧ xs = xs' ++ [x] ∧ F v x := by
  induction p with
  | nil => exact absurd rfl h
  | @cons v x vs xs hd tl ih =>
    cases tl with
    | nil => exact ⟨[], v, [], x, rfl, rfl, hd⟩
    | cons d t =>
      obtain ⟨vs', v', xs', x', e1, e2, f⟩ := ih (by simp)
      exact ⟨v :: vs', v', x :: xs', x', by rw [e1]; rfl, by rw [e2]; rfl, f⟩
theorem pcons {α β : Type} {F : α → β → Prop} {vs : List α} {xs : List β} (p : Paired F vs xs) (h : xs ≠ []) : ∃ v vr x xr, vs = v :: vr ∧ xs = x :: xr ∧ F v x := by
  cases p with
  | nil => exact absurd rfl h
  | cons d t => exact ⟨_, _, _, _, rfl, rfl, d⟩
section
variable {w : World} {A : Around} {E : Value → Shared → Prop} {s : Shared} {σ : PM} {Q : Value → Shared → Prop}

theorem row_signs_spec {l : Addr} {vs : List Value} {k : Nat} {gs : List G} {u0 t0 : Tok} {tn : Int} (hA : Rm A 10) (B : BaseS w σ) (hf : Le σ s.heap.get?) (hl : σ l = some (listOf vs.toArray k)) (hv : Paired (GlyR w σ) vs gs) (hn : vs.length ≤ 15)
    (hk : 0 ≤ tn ∧ tn < 100) (hg : ∀ g ∈ gs, 0 ≤ g.s ∧ g.t.cps.size ≤ 3 ∧ 0 < g.t.cps.size)
    (h : ∀ a ys k' h' tk σ', Grow s.heap σ h' σ' → σ' a = some (listOf ys.toArray k') → Paired (SgnR σ') ys (signsTo gs tn gs.length) → Q (.ref a) { s with heap := h', toks := tk }) :
    wpAny (model PySem.Challenge.rw_pb0474_01.row.prog w) A (call (.ref 258) [.ref l, .int 0 u0, .int tn t0]) Q E s := by
  refine wpAny_call ?_
  refine' enterC (binds := [("row", .ref l), ("base", .int 0 u0), ("tenths", .int tn t0)]) (fun L => [("at", L + 2), ("base", L + 1)]) (setm (setm m0 "row" (.ref l)) "tenths" (.int tn t0)) (setm m0 "base" (.int 0 u0)) B hf ?ho ?hcd hA.room ?bind ?kind ?nd ?cl ?hm ?hcm ?co ?gen ?k ?_
  case ho => k_is
  case hcd => k_is
  case bind => exact BindsTo.of_eq rfl
  case kind => rfl
  case nd => decide +kernel
  case cl => intro L; rfl
  case hm => intro L; rfl
  case hcm => intro L; rfl
  case co => rfl
  case gen => rfl
  case k => rfl
  intro L h1 tk1 ob S hL hob
  dsimp only [List.map] at S
  have hc := hob _ (.head _)
  have hc2 := hob _ (.tail _ (.head _))
  replace hc : (ob "at").data = .cell none := hc
  replace hc2 : (ob "base").data = .cell (some (.int 0 u0)) := hc2
  clear hob
  have hlen := hv.length
  repeat' (first | walk1 | (dsimp only; walk1))
  refine loopS (src_range0 (hd_deeper hA.hd) (by assumption) (by omega)) (by assumption) (fun i σ' m' μ' => m' "row" = some (.ref l) ∧ m' "tenths" = some (.int tn t0) ∧ ∃ F ys kk o1 o2 v1, m' "found" = some (.ref F) ∧ μ' = [(F, listOf ys.toArray kk), (L + 2, o1), (L + 1, o2)] ∧ o1.data = .cell v1 ∧ o2.data = .cell (some (.int 0 u0)) ∧ Paired (SgnR σ') ys (signsTo gs tn i))
    ⟨by tb_rel, by tb_rel, _, [], _, _, _, _, by tb_rel, rfl, hc, hc2, .nil⟩ ?_ ?_
  · rintro i v σ' m' μ' κ' h3 tk3 hi ⟨ti, rfl⟩ hl3 ⟨m1, m2, F, ys, kk, o1, o2, v1, m3, rfl, d1, d2, hys⟩ S3
    obtain ⟨v, hvi⟩ : ∃ v, vs[i]? = some v := ⟨vs[i]'(by omega), by simp⟩
    obtain ⟨g, hg', D⟩ := pat hv hvi
    replace D := D.mono hl3
    have hgm := hg g (List.mem_of_getElem? hg')
    have hl' := hl3 _ _ hl
    have hv' := gmono hl3 hv
    repeat' (first | walk1 | (dsimp only; walk1))
    refine n_item (fro_get (by assumption) hl') (by omega) (by omega) (by simpa using hvi) ?_ (by with_unfolding_all rfl) (by intro _; with_unfolding_all rfl)
    repeat' (first | walk1 | (dsimp only; walk1))
    rename_i h5 o5 d5 S5 t5
    refine comp1SU (src_str (hd_deeper hA.hd)) S5 (by decide) rfl (by omega) rfl rfl rfl (fun j σ' ys => Paired (SgnR σ') ys ((freshOf g i).take j)) .nil ?_ ?_
    · rintro C D j v σ' m'' ys kk κ' h4 tk4 hj ⟨c, u, hc', rfl⟩ hl4 hk4 hys4 S4
      have hcA := hk4 _ _ (mu_get S5 (.tail _ (.head _)))
      have hcB := hk4 _ _ (mu_get S5 (.tail _ (.tail _ (.head _))))
      repeat' (first | walk1 | (dsimp only; walk1))
      refine eend (by assumption) (by tb_start) ?_
      rw [take_snoc (x := (plainS ⟨#[c]⟩, (i : Int))) (by simp [freshOf, hc'])]
      refine papp (smono (by tb_start) hys4) (.cons (SgnR.mk (by assumption) (by omega)) .nil)
    intro D6 σp6 σ6 zs kk6 h6 tk6 lp6 hzs hD6 l6 S6
    rw [show g.t.cps.size = (freshOf g i).length from (freshOf_len _ _).symm, List.take_length] at hzs
    replace hzs := smono lp6 hzs
    replace hys := smono l6 hys
    have z1 := hys.length
    have z2 := hzs.length
    rw [freshOf_len] at z2
    have z3 := signsTo_len tn (fun g hg' => (hg g hg').2.1) i
    have eg : gs.getD i g0 = g := by rw [List.getD_eq_getElem?_getD, hg']; rfl
    have grow : signsTo gs tn (i + 1) = signsTo gs tn i ++ (if 0 < i ∧ gapB (signsTo gs tn i) (freshOf g i) (gs.getD (i - 1) g0) g tn = true then [((" " : Str), (-1 : Int))] else []) ++ freshOf g i := by
      rw [← eg]; rfl
    repeat' (first | walk1 | (dsimp only; walk1))
    · have hi0 : 0 < i := by omega
      obtain ⟨ysi, yl, xsi, xl, ey, ex, a1, t1, u1, rfl, hyl⟩ := psnoc hys (signsTo_ne tn (fun g hg' => (hg g hg').2.2) hi0)
      obtain ⟨z0, zr, y0, yr, ez, ef, a2, t2, u2, rfl, hzl⟩ := pcons hzs (freshOf_ne hgm.2.2)
      refine n_itemneg (mu_get (by assumption) (.head _)) (by decide) (by rw [ey]; simp; omega) (by decide) (x := .ref a1) (by rw [ey, show ((-1 : Int) + ((ysi ++ [Value.ref a1]).length : Int)).toNat = ysi.length from by simp; omega]; simp) ?_ (by with_unfolding_all rfl)
      repeat' (first | walk1 | (dsimp only; walk1))
      refine n_titem (vs := [.str xl.1 t1, .int xl.2 u1, .bool false]) (fro_get (by assumption) hyl) (by decide) (by decide) rfl rfl ?_ (by with_unfolding_all rfl)
      obtain ⟨vp, hvp⟩ : ∃ v, vs[i - 1]? = some v := ⟨vs[i - 1]'(by omega), by simp⟩
      obtain ⟨gp, hgp', Dp⟩ := pat hv hvp
      have hgp := (hg gp (List.mem_of_getElem? hgp')).1
      replace Dp := (Dp.mono hl3).mono l6
      replace D := D.mono l6
      have hl6 := l6 _ _ hl'
      have egp : gs.getD (i - 1) g0 = gp := by rw [List.getD_eq_getElem?_getD, hgp']; rfl
      have eg2 : gapB (signsTo gs tn i) (freshOf g i) (gs.getD (i - 1) g0) g tn = (xl.1 != (" " : Str) && (y0.1 != (" " : Str) && apartB gp g tn)) := by rw [ex, ef, egp]; simp [gapB]
      rw [eg2] at grow
      repeat' (first | walk1 | (dsimp only; walk1))
      · refine n_item (x := .ref a2) (fro_get (by assumption) hD6) (by decide) (by decide) (by rw [ez]; rfl) ?_ (by with_unfolding_all rfl) (by intro _; with_unfolding_all rfl)
        repeat' (first | walk1 | (dsimp only; walk1))
        refine n_titem (vs := [.str y0.1 t2, .int y0.2 u2, .bool false]) (fro_get (by assumption) hzl) (by decide) (by decide) rfl rfl ?_ (by with_unfolding_all rfl)
        repeat' (first | walk1 | (dsimp only; walk1))
        · refine n_item (x := vp) (fro_get (by assumption) hl6) (by omega) (by omega) (by rw [show ((i : Int) - 1).toNat = i - 1 from by omega]; exact hvp) ?_ (by with_unfolding_all rfl) (by intro _; with_unfolding_all rfl)
          repeat' (first | walk1 | (dsimp only; walk1))
          refine n_item (x := v) (fro_get (by assumption) hl6) (by omega) (by omega) (by simpa using hvi) ?_ (by with_unfolding_all rfl) (by intro _; with_unfolding_all rfl)
          repeat' (first | walk1 | (dsimp only; walk1))
          · refine tend (by assumption) (by tb_start) ⟨by tb_rel, by tb_rel, _, _, _, _, _, _, by tb_rel, rfl, by assumption, by assumption, ?_⟩
            rw [grow, if_pos ⟨hi0, by simp_all⟩]
            exact papp (papp (smono (by tb_start) hys) (.cons (SgnR.mk ((by tb_start : Le _ _).app (by assumption)) rfl) .nil)) (smono (by tb_start) hzs)
          · refine tend (by assumption) (by tb_start) ⟨by tb_rel, by tb_rel, _, _, _, _, _, _, by tb_rel, rfl, by assumption, by assumption, ?_⟩
            rw [grow, if_neg (fun q => by have := q.2; simp_all), List.append_nil]
            exact papp (smono (by tb_start) hys) (smono (by tb_start) hzs)
        · refine tend (by assumption) (by tb_start) ⟨by tb_rel, by tb_rel, _, _, _, _, _, _, by tb_rel, rfl, by assumption, by assumption, ?_⟩
          rw [grow, if_neg (fun q => by have := q.2; simp_all), List.append_nil]
          exact papp (smono (by tb_start) hys) (smono (by tb_start) hzs)
      · refine tend (by assumption) (by tb_start) ⟨by tb_rel, by tb_rel, _, _, _, _, _, _, by tb_rel, rfl, by assumption, by assumption, ?_⟩
        rw [grow, if_neg (fun q => by have := q.2; simp_all), List.append_nil]
        exact papp (smono (by tb_start) hys) (smono (by tb_start) hzs)
    · refine tend (by assumption) (by tb_start) ⟨by tb_rel, by tb_rel, _, _, _, _, _, _, by tb_rel, rfl, by assumption, by assumption, ?_⟩
      rw [grow, if_neg (by omega), List.append_nil]
      exact papp (smono (by tb_start) hys) (smono (by tb_start) hzs)
  · rintro σ' m' μ' h3 tk3 hl3 ⟨m1, m2, F, ys, kk, o1, o2, v1, m3, rfl, d1, d2, hys⟩ S3
    repeat' (first | walk1 | (dsimp only; walk1))
    rw [hlen] at hys
    exact h _ ys _ _ _ _ S3.freeze.leave (upd_same _ _ _) (smono (upd_le (S3.mu _ (.head _)).2.2.2) hys)
end

local macro_rules | `(tactic| walk_at "call ref") => `(tactic| ((with_reducible show wpAny _ _ (call (Value.ref 258) _ _) _ _ _); (refine at_St (by assumption) (fun B' f' => ?_)); (refine row_signs_spec (Rm.call (by assumption) (by decide)) B' f' (by assumption) (by assumption) (by assumption) (by assumption) (by assumption) ?_); clear B' f'; intro a' ys' k' h' tk' s' G' hD' P'; (have S' := St.grow (by assumption) G'); (have l' := Grow.sub G')))
local macro_rules | `(tactic| walk_at "call ref") => `(tactic| ((with_reducible show wpAny _ _ (call (Value.ref 246) _ _) _ _ _); (refine at_St (by assumption) (fun B' f' => ?_)); (refine box_of_spec (Rm.call (by assumption) (by decide)) B' f' (by assumption) (by assumption) (by assumption) (by assumption) ?_); clear B' f'; intro v' h' tk' s' G' D'; (have S' := St.grow (by assumption) G'); (have l' := Grow.sub G')))

structure WSt where
  words : List (Str × Bx)
  text : Str
  places : List Int
def partOf (gs : List G) (ps : List Int) : List G := (gs.drop (ps.headD 0).toNat).take ((ps.getLastD 0).toNat + 1 - (ps.headD 0).toNat)
def wStep (gs : List G) (st : WSt) (x : Str × Int) : WSt :=
  if (x.1 != (" " : Str)) = true then ⟨st.words, st.text ++ x.1, st.places ++ [x.2]⟩
  else if (st.text != ("" : Str)) = true then ⟨st.words ++ [(st.text, boxOf (partOf gs st.places))], "", []⟩ else st
def w0 : WSt := ⟨[], "", []⟩
def wordsOf (gs : List G) (k : Int) : List (Str × Bx) := ((signsTo gs k gs.length ++ [((" " : Str), (-1 : Int))]).foldl (wStep gs) w0).words
def WordR (w : World) (σ : PM) (v : Value) (x : Str × Bx) : Prop := ∃ a t b, v = .ref a ∧ σ a = some ({ cls := .type "tuple", data := .seq #[.str x.1 t, b] } : Obj) ∧ BoxR w σ b x.2
theorem WordR.mono {w : World} {σ σ' : PM} {v : Value} {x : Str × Bx} (d : WordR w σ v x) (l : Le σ σ') : WordR w σ' v x := let ⟨a, t, b, e, h, k⟩ := d; ⟨a, t, b, e, l _ _ h, k.mono l⟩
theorem wmono {w : World} {σ σ' : PM} {vs : List Value} {ns : List (Str × Bx)} (l : Le σ σ') (p : Paired (WordR w σ) vs ns) : Paired (WordR w σ') vs ns := pmono (fun _ _ d => WordR.mono d l) p

/-- the signs' places rise -/
def Rise (n : Nat) (xs : List (Str × Int)) : Prop := xs.Pairwise (fun a b => a.1 ≠ (" " : Str) → b.1 ≠ (" " : Str) → a.2 ≤ b.2) ∧ ∀ x ∈ xs, x.1 ≠ (" " : Str) → 0 ≤ x.2 ∧ x.2 < n
theorem rise_to (gs : List G) (k : Int) : ∀ i, Rise i (signsTo gs k i)
  | 0 => ⟨.nil, fun _ h => nomatch h⟩
  | i + 1 => by
    have ih := rise_to gs k i
    have fr : ∀ x ∈ freshOf (gs.getD i g0) i, x.2 = i := fun x hx => by
      obtain ⟨c, _, rfl⟩ := List.mem_map.mp hx; rfl
    unfold signsTo
    have gap : ∀ x ∈ (if 0 < i ∧ gapB (signsTo gs k i) (freshOf (gs.getD i g0) i) (gs.getD (i - 1) g0) (gs.getD i g0) k = true then [((" " : Str), (-1 : Int))] else []), x.1 = (" " : Str) := fun x hx => by
      split at hx
      · rw [List.mem_singleton.mp hx]
      · cases hx
    refine ⟨List.pairwise_append.mpr ⟨List.pairwise_append.mpr ⟨ih.1, ?_, ?_⟩, ?_, ?_⟩, ?_⟩
    · split <;> simp
    · intro a _ b hb _ q; exact absurd (gap b hb) q
    · refine List.pairwise_iff_getElem.mpr fun a b ha hb _ _ _ => ?_
      rw [fr _ (List.getElem_mem ha), fr _ (List.getElem_mem hb)]; exact Int.le_refl _
    · intro a ha b hb qa qb
      rw [fr b hb]
      rcases List.mem_append.mp ha with ha | ha
      · have := (ih.2 a ha qa).2; omega
      · exact absurd (gap a ha) qa
    · intro x hx qx
      rcases List.mem_append.mp hx with hx | hx
      · rcases List.mem_append.mp hx with hx | hx
        · have := ih.2 x hx qx; omega
        · exact absurd (gap x hx) qx
      · rw [fr x hx]; omega
theorem rise_sp {n : Nat} {xs : List (Str × Int)} (r : Rise n xs) : Rise n (xs ++ [((" " : Str), (-1 : Int))]) :=
  ⟨List.pairwise_append.mpr ⟨r.1, by simp, fun a _ b hb _ q => by rw [List.mem_singleton.mp hb] at q; exact absurd rfl q⟩, fun x hx q => by
    rcases List.mem_append.mp hx with hx | hx
    · exact r.2 x hx q
    · rw [List.mem_singleton.mp hx] at q; exact absurd rfl q⟩
structure WOk (n : Nat) (xs : List (Str × Int)) (st : WSt) : Prop where
  ne : st.text ≠ "" → st.places ≠ []
  from_ : ∀ p ∈ st.places, ∃ x ∈ xs, x.1 ≠ (" " : Str) ∧ x.2 = p
  pw : st.places.Pairwise (· ≤ ·)
theorem wok_step {n : Nat} {xs : List (Str × Int)} {x : Str × Int} {st : WSt} (gs : List G) (o : WOk n xs st) (r : Rise n (xs ++ [x])) : WOk n (xs ++ [x]) (wStep gs st x) := by
  unfold wStep
  split
  · rename_i q
    have q' : x.1 ≠ (" " : Str) := by simpa using q
    refine ⟨fun _ => by simp, fun p hp => ?_, ?_⟩
    · rcases List.mem_append.mp hp with hp | hp
      · obtain ⟨y, hy, e⟩ := o.from_ p hp; exact ⟨y, List.mem_append_left _ hy, e⟩
      · rw [List.mem_singleton.mp hp]; exact ⟨x, by simp, q', rfl⟩
    · refine List.pairwise_append.mpr ⟨o.pw, by simp, fun p hp b hb => ?_⟩
      rw [List.mem_singleton.mp hb]
      obtain ⟨y, hy, q1, e⟩ := o.from_ p hp
      rw [← e]
      exact (List.pairwise_append.mp r.1).2.2 y hy x (by simp) q1 q'
  · split
    · exact ⟨fun q => absurd rfl q, fun p hp => (nomatch hp), List.Pairwise.nil⟩
    · exact ⟨o.ne, fun p hp => let ⟨y, hy, e⟩ := o.from_ p hp; ⟨y, List.mem_append_left _ hy, e⟩, o.pw⟩
theorem wok_take {n : Nat} {xs : List (Str × Int)} (gs : List G) (r : Rise n xs) : ∀ i, i ≤ xs.length → WOk n (xs.take i) ((xs.take i).foldl (wStep gs) w0)
  | 0, _ => ⟨fun q => absurd rfl q, fun p hp => by simp [w0] at hp, by simp [w0]⟩
  | i + 1, h => by
    have ih := wok_take gs r i (by omega)
    have e : xs.take (i + 1) = xs.take i ++ [xs[i]'(by omega)] := take_snoc (by simp)
    rw [e, List.foldl_append]
    refine wok_step gs ih ?_
    rw [← e]
    exact ⟨r.1.sublist (List.take_sublist _ _), fun x hx => r.2 x (List.mem_of_mem_take hx)⟩
/-- the part of a run lies within the row -/
theorem wok_part {n : Nat} {xs ys : List (Str × Int)} {st : WSt} {p q : Int} {ps qs : List Int} (o : WOk n xs st) (r : Rise n (xs ++ ys)) (e1 : st.places = p :: ps) (e2 : st.places = qs ++ [q]) : 0 ≤ p ∧ p ≤ q ∧ q < n := by
  have mem : ∀ p ∈ st.places, 0 ≤ p ∧ p < n := fun p hp => by
    obtain ⟨y, hy, q, e⟩ := o.from_ p hp
    rw [← e]; exact r.2 y (List.mem_append_left _ hy) q
  have pw := o.pw
  have hm : q ∈ st.places := by rw [e2]; simp
  refine ⟨(mem p (by rw [e1]; exact .head _)).1, ?_, (mem _ hm).2⟩
  rw [e1] at pw hm
  rcases List.mem_cons.mp hm with rfl | hm
  · exact Int.le_refl _
  · exact List.rel_of_pairwise_cons pw hm
theorem slice_run {vs : List Value} {p q : Int} (h0 : 0 ≤ p) (h1 : p ≤ q) (h2 : q < vs.length) : slicePick vs.toArray (some p) (some (q + 1)) none = ((vs.drop p.toNat).take (q.toNat + 1 - p.toNat)).toArray := by
  rw [kms_pick_eq]
  unfold kms_pick kms_lo kms_hi
  dsimp only
  rw [if_neg (by omega), if_neg (by omega), Nat.min_eq_left (by omega), Nat.min_eq_left (by omega), show (q + 1).toNat = q.toNat + 1 from by omega]
theorem plain_one (c : Nat) : (plainS ⟨#[c]⟩).length ≤ 1 := by
  unfold plainS; split
  · exact Nat.le_refl _
  · decide
theorem signs_one (gs : List G) (k : Int) : ∀ i, ∀ x ∈ signsTo gs k i, x.1.length ≤ 1
  | 0, _, h => nomatch h
  | i + 1, x, h => by
    unfold signsTo at h
    rcases List.mem_append.mp h with h | h
    · rcases List.mem_append.mp h with h | h
      · exact signs_one gs k i x h
      · split at h
        · rw [List.mem_singleton.mp h]; decide
        · cases h
    · obtain ⟨c, _, rfl⟩ := List.mem_map.mp h; exact plain_one c
theorem tlen (gs : List G) : ∀ (xs : List (Str × Int)) (st : WSt), (∀ x ∈ xs, x.1.length ≤ 1) → (xs.foldl (wStep gs) st).text.length ≤ xs.length + st.text.length
  | [], st, _ => by simp
  | x :: r, st, h => by
    have ih := tlen gs r (wStep gs st x) fun y hy => h y (.tail _ hy)
    have e : (wStep gs st x).text.length ≤ st.text.length + 1 := by
      unfold wStep
      split
      · dsimp only; rw [strLen_append]; have := h x (.head _); omega
      · split
        · exact Nat.zero_le _
        · exact Nat.le_succ _
    rw [List.foldl_cons, List.length_cons]
    omega
theorem intV_mk (n : Int) (t : Tok) : IntV (.int n t) n := ⟨t, rfl⟩
theorem wlen (gs : List G) : ∀ (xs : List (Str × Int)) (st : WSt), (xs.foldl (wStep gs) st).words.length ≤ xs.length + st.words.length ∧ (xs.foldl (wStep gs) st).places.length ≤ xs.length + st.places.length
  | [], st => by simp
  | x :: r, st => by
    have ih := wlen gs r (wStep gs st x)
    have e : (wStep gs st x).words.length ≤ st.words.length + 1 ∧ (wStep gs st x).places.length ≤ st.places.length + 1 := by
      unfold wStep
      split
      · simp
      · split <;> simp
    rw [List.foldl_cons, List.length_cons]
    omega
theorem pdrop {α β : Type} {F : α → β → Prop} : ∀ (n : Nat) {vs : List α} {xs : List β}, Paired F vs xs → Paired F (vs.drop n) (xs.drop n)
  | 0, _, _, p => p
  | _ + 1, _, _, .nil => .nil
  | n + 1, _, _, .cons _ t => pdrop n t
theorem ptake {α β : Type} {F : α → β → Prop} : ∀ (n : Nat) {vs : List α} {xs : List β}, Paired F vs xs → Paired F (vs.take n) (xs.take n)
  | 0, _, _, _ => .nil
  | _ + 1, _, _, .nil => .nil
  | n + 1, _, _, .cons h t => .cons h (ptake n t)
section
variable {w : World} {A : Around} {E : Value → Shared → Prop} {s : Shared} {σ : PM} {Q : Value → Shared → Prop}

theorem row_words_spec {l : Addr} {vs : List Value} {k : Nat} {gs : List G} {t0 : Tok} {tn : Int} (hA : Rm A 12) (B : BaseS w σ) (hf : Le σ s.heap.get?) (hl : σ l = some (listOf vs.toArray k)) (hv : Paired (GlyR w σ) vs gs) (hn : vs.length ≤ 15)
    (hk : 0 ≤ tn ∧ tn < 100) (hg : ∀ g ∈ gs, 0 ≤ g.s ∧ g.t.cps.size ≤ 3 ∧ 0 < g.t.cps.size)
    (h : ∀ a ys k' h' tk σ', Grow s.heap σ h' σ' → σ' a = some (listOf ys.toArray k') → Paired (WordR w σ') ys (wordsOf gs tn) → Q (.ref a) { s with heap := h', toks := tk }) :
    wpAny (model PySem.Challenge.rw_pb0474_01.row.prog w) A (call (.ref 265) [.ref l, .int tn t0]) Q E s := by
  refine wpAny_call ?_
  refine' enter (binds := [("row", .ref l), ("tenths", .int tn t0)]) B hf ?ho ?hcd hA.room ?bind ?loc ?cell ?co ?gen ?k ?_
  case ho => k_is
  case hcd => k_is
  case bind => exact BindsTo.of_eq rfl
  case loc => exact locs rfl
  case cell => decide
  case co => rfl
  case gen => rfl
  case k => rfl
  intro L h1 S hL
  dsimp only [bindm, List.foldl] at S
  have hlen := hv.length
  repeat' (first | walk1 | (dsimp only; walk1))
  rename_i a2 ys2 k2 h2 tk2 s1 G2 hD2 P2 S2 l2 a1 h1' s2 l1 t1 g1 S1 a0 h0 S0 l0
  have z1 := P2.length
  have z2 := signsTo_len tn (fun g hg' => (hg g hg').2.1) gs.length
  refine n_addl S0 (fro_get S0 (l1 _ _ hD2)) (mu_get S0 (.head _)) (by simp; omega) ?_
  intro D3 h3 σ3 l3 hD3 G3 S3
  replace S3 := S3.drop0
  have hxs : Paired (SgnR σ3) (ys2 ++ [.ref a1]) (signsTo gs tn gs.length ++ [((" " : Str), (-1 : Int))]) := papp (smono (l1.trans l3) P2) (.cons (SgnR.mk (l3 _ _ t1) rfl) .nil)
  have hrise := rise_sp (rise_to gs tn gs.length)
  have hwords : wordsOf gs tn = ((signsTo gs tn gs.length ++ [((" " : Str), (-1 : Int))]).foldl (wStep gs) w0).words := rfl
  have hone : ∀ x ∈ signsTo gs tn gs.length ++ [((" " : Str), (-1 : Int))], x.1.length ≤ 1 := fun x hx => by
    rcases List.mem_append.mp hx with hx | hx
    · exact signs_one gs tn _ x hx
    · rw [List.mem_singleton.mp hx]; decide
  generalize signsTo gs tn gs.length ++ [((" " : Str), (-1 : Int))] = xs at hxs hrise hwords hone
  generalize hsg : ys2 ++ [Value.ref a1] = sg at hxs hD3
  have z3 : sg.length ≤ 61 := by rw [← hsg, List.length_append, z1]; simp; omega
  have z4 := hxs.length
  replace hl := (l2.trans (l1.trans l3)) _ _ hl
  replace hv := gmono (l2.trans (l1.trans l3)) hv
  refine loopS (src_list (hd_deeper hA.hd) S3 hD3) S3 (fun i σ' m' μ' => m' "row" = some (.ref l) ∧ ∃ W P ys kk ps kp tt, m' "words" = some (.ref W) ∧ m' "places" = some (.ref P) ∧
      m' "text" = some (.str ((xs.take i).foldl (wStep gs) w0).text tt) ∧ μ' = [(P, listOf ps.toArray kp), (W, listOf ys.toArray kk)] ∧ Paired (WordR w σ') ys ((xs.take i).foldl (wStep gs) w0).words ∧ Paired IntV ps ((xs.take i).foldl (wStep gs) w0).places)
    ⟨by tb_rel, _, _, [], _, [], _, _, by tb_rel, by tb_rel, setm_ne (by decide) setm_same, rfl, .nil, .nil⟩ ?_ ?_
  · rintro i v σ' m' μ' κ' h4 tk4 hi hvi hl4 ⟨m1, W, P, ys, kk, ps, kp, tt, m2, m3, m4, rfl, hys, hps⟩ S4
    obtain ⟨x, hx, a5, t5, u5, rfl, h5⟩ := pat hxs hvi
    replace h5 := hl4 _ _ h5
    have est : (xs.take (i + 1)).foldl (wStep gs) w0 = wStep gs ((xs.take i).foldl (wStep gs) w0) x := by rw [take_snoc hx, List.foldl_append]; rfl
    have hok := wok_take gs hrise i (by omega)
    have hln := wlen gs (xs.take i) w0
    have htl := tlen gs (xs.take i) w0 fun y hy => hone y (List.mem_of_mem_take hy)
    have hxl := hone x (List.mem_of_getElem? hx)
    have hln2 : (xs.take i).length ≤ 61 := by rw [List.length_take]; omega
    generalize (xs.take i).foldl (wStep gs) w0 = st at *
    have z5 := hys.length
    have z6 := hps.length
    have z7 : w0.words.length = 0 := rfl
    have z8 : w0.places.length = 0 := rfl
    have z9 : w0.text.length = 0 := rfl
    repeat' (first | walk1 | (dsimp only; walk1))
    · have hne : (x.1 != (" " : Str)) = true := by assumption
      refine n_ld (by assumption) rfl (v := .str st.text tt) (by tb_rel) rfl rfl ?_
      repeat' (first | walk1 | (dsimp only; walk1))
      refine tend (by assumption) (Le.refl _) ⟨by tb_rel, _, _, _, _, _, _, _, by tb_rel, by tb_rel, by (rw [est]; unfold wStep; rw [if_pos hne]; exact setm_same), rfl, ?_, ?_⟩
      · rw [est]; unfold wStep; rw [if_pos hne]; exact hys
      · rw [est]; unfold wStep; rw [if_pos hne]; exact papp hps (.cons (intV_mk _ _) .nil)
    · have hne : (x.1 != (" " : Str)) = false := by assumption
      have htx : (st.text != ("" : Str)) = true := by assumption
      have hpn := hok.ne (by simpa using htx)
      obtain ⟨v0, vr, p, pr, e1, e1', ⟨tp, rfl⟩⟩ := pcons hps hpn
      obtain ⟨vi, vl, qi, q, e2, e2', ⟨tq, rfl⟩⟩ := psnoc hps hpn
      have hpq := wok_part (ys := xs.drop i) hok (by rw [List.take_append_drop]; exact hrise) e1' e2'
      have epart : partOf gs st.places = (gs.drop p.toNat).take (q.toNat + 1 - p.toNat) := by
        unfold partOf
        rw [show st.places.headD 0 = p from by rw [e1']; rfl, show st.places.getLastD 0 = q from by rw [e2']; simp]
      refine n_item (x := .int p tp) (mu_get (by assumption) (.head _)) (by decide) (by decide) (by rw [e1]; rfl) ?_ (by with_unfolding_all rfl) (by intro _; with_unfolding_all rfl)
      repeat' (first | walk1 | (dsimp only; walk1))
      refine n_itemneg (x := .int q tq) (mu_get (by assumption) (.head _)) (by decide) (by rw [e2]; simp; omega) (by decide) (by rw [e2, show ((-1 : Int) + ((vi ++ [Value.int q tq]).length : Int)).toNat = vi.length from by simp; omega]; simp) ?_ (by with_unfolding_all rfl)
      repeat' (first | walk1 | (dsimp only; walk1))
      refine slice_at (by assumption) (fro_get (by assumption) (hl4 _ _ hl)) (by omega) (.int p _) (.int (q + 1) _) (slice_run hpq.1 hpq.2.1 (by omega)) ?_
      intro D7 h7 σ7 l7 hD7 G7 S7
      have hpart : Paired (GlyR w σ7) ((vs.drop p.toNat).take (q.toNat + 1 - p.toNat)) (partOf gs st.places) := by
        rw [epart]; exact ptake _ (pdrop _ (gmono (hl4.trans l7) hv))
      have hpn2 : partOf gs st.places ≠ [] := fun e => by
        have := congrArg List.length (epart.symm.trans e)
        rw [List.length_take, List.length_drop, List.length_nil] at this
        omega
      have hpl : ((vs.drop p.toNat).take (q.toNat + 1 - p.toNat)).length ≤ 100 := by rw [List.length_take, List.length_drop]; omega
      repeat' (first | walk1 | (dsimp only; walk1))
      rename_i v8 h8 tk8 s8 G8 D8 S8 l8 a9 h9 s9 l9 t9 g9 S9 h10 k10 S10 h11 S11 a12 h12 S12 l12 h13 S13
      refine tend S13.drop1 (by tb_start) ⟨by tb_rel, _, _, _, _, [], _, _, by tb_rel, by tb_rel, by (rw [est]; unfold wStep; rw [if_neg (by simp [hne]), if_pos htx]; exact setm_ne (by decide) setm_same), rfl, ?_, ?_⟩
      · rw [est]; unfold wStep; rw [if_neg (by simp [hne]), if_pos htx]
        exact papp (wmono (by tb_start) hys) (.cons ⟨_, _, _, rfl, t9, D8.mono l9⟩ .nil)
      · rw [est]; unfold wStep; rw [if_neg (by simp [hne]), if_pos htx]; exact .nil
    · have hne : (x.1 != (" " : Str)) = false := by assumption
      have htx : (st.text != ("" : Str)) = false := by assumption
      have e : wStep gs st x = st := by unfold wStep; rw [if_neg (by simp [hne]), if_neg (by simp [htx])]
      rw [e] at est
      refine tend (by assumption) (Le.refl _) ⟨by tb_rel, _, _, _, _, _, _, _, by tb_rel, by tb_rel, by (rw [est]; tb_rel), rfl, ?_, ?_⟩
      · rw [est]; exact hys
      · rw [est]; exact hps
  · rintro σ' m' μ' h4 tk4 hl4 ⟨m1, W, P, ys, kk, ps, kp, tt, m2, m3, m4, rfl, hys, hps⟩ S4
    repeat' (first | walk1 | (dsimp only; walk1))
    rw [z4, List.take_length] at hys
    have S5 := S4.drop0
    exact h _ ys _ _ _ _ S5.freeze.leave (upd_same _ _ _) (by rw [hwords]; exact wmono (upd_le (S5.mu _ (.head _)).2.2.2) hys)
end

local macro_rules | `(tactic| walk_at "call ref") => `(tactic| ((with_reducible show wpAny _ _ (call (Value.ref 180) _ _) _ _ _); (refine at_St (by assumption) (fun B' f' => ?_)); (refine tops_of_spec (Rm.call (by assumption) (by decide)) B' f' (by assumption) (by assumption) (by omega) ?_); clear B' f'; intro a' t' lt' ts' k' h' tk' s' G' ha' hl' P'; (have S' := St.grow (by assumption) G'); (have l' := Grow.sub G')))
local macro_rules | `(tactic| walk_at "eval Name") => `(tactic| ((with_reducible show wpAny _ _ (eval (Expr.Name _ _) _) _ _ _); (with_unfolding_all refine' n_free ?k ?l ?c ?d ?nn ?o ?v ?_; (case l => exact rfl); (case k => exact rfl); (case c => exact rfl); (case d => decide); (case nn => decide); (case o => first | exact kk_get (by assumption) (by assumption) | exact mu_get (by assumption) (by k_mem)); (case v => assumption))))

def lyingOf (gs : List G) : List G := gs.filter fun g => g.t != ("" : Str)
def keyOf (gs : List G) (i : Nat) : Int × Int × Int := (-(gs.getD i g0).y, (gs.getD i g0).x, (i : Int))
def sortedOf (b : Bool) (gs : List G) : List G := if b = true then gs.reverse else gs
def rowsTo (os : List G) : Nat → List (List G)
  | 0 => []
  | i + 1 => if i = 0 ∨ (os.getD i g0).y ≠ (os.getD (i - 1) g0).y then rowsTo os i ++ [[os.getD i g0]] else (rowsTo os i).dropLast ++ [(rowsTo os i).getLastD [] ++ [os.getD i g0]]
def RowR (w : World) (σ : PM) (v : Value) (gs : List G) : Prop := ∃ l vs k, v = .ref l ∧ σ l = some (listOf (vs : List Value).toArray k) ∧ Paired (GlyR w σ) vs gs
theorem RowR.mono {w : World} {σ σ' : PM} {v : Value} {x : List G} (d : RowR w σ v x) (l : Le σ σ') : RowR w σ' v x := let ⟨a, t, b, e, h, k⟩ := d; ⟨a, t, b, e, l _ _ h, gmono l k⟩
theorem rmono {w : World} {σ σ' : PM} {vs : List Value} {ns : List (List G)} (l : Le σ σ') (p : Paired (RowR w σ) vs ns) : Paired (RowR w σ') vs ns := pmono (fun _ _ d => RowR.mono d l) p
theorem ord_get {b : Bool} {gs : List G} {i : Nat} {j : Int} (h : (ordOf b gs.length)[i]? = some j) : 0 ≤ j ∧ j < gs.length ∧ gs.getD j.toNat g0 = (sortedOf b gs).getD i g0 := by
  unfold ordOf at h
  unfold sortedOf
  have hi : i < gs.length := by
    have := (List.getElem?_eq_some_iff.mp h).1
    split at this <;> simp [upTo] at this <;> exact this
  cases b with
  | false =>
    rw [if_neg (by simp), upTo_get hi] at h
    cases h
    exact ⟨by omega, by omega, by simp⟩
  | true =>
    rw [if_pos rfl, List.getElem?_reverse (by rw [upTo_len]; exact hi), upTo_len, upTo_get (by omega)] at h
    cases h
    refine ⟨by omega, by omega, ?_⟩
    rw [if_pos rfl, List.getD_eq_getElem?_getD, List.getD_eq_getElem?_getD, List.getElem?_reverse hi]
    rfl
theorem sorted_len (b : Bool) (gs : List G) : (sortedOf b gs).length = gs.length := by unfold sortedOf; split <;> simp
section
variable {w : World} {A : Around} {E : Value → Shared → Prop} {s : Shared} {σ : PM} {Q : Value → Shared → Prop}

theorem glyph_rows_spec {l : Addr} {vs : List Value} {k : Nat} {gs : List G} {ps : Array Value} {b : Bool} (hA : Rm A 12) (B : BaseS w σ) (hf : Le σ s.heap.get?) (hl : σ l = some (listOf vs.toArray k)) (hv : Paired (GlyR w σ) vs gs) (hn : vs.length ≤ 20)
    (hP : s.heap.get? 238 = some (tabObj ps)) (h0 : σ 238 = none) (hT : TabR σ "glyph_rows.<locals>.<lambda>" 124 42 ps)
    (hb : ∀ i, 1 ≤ i → i < (lyingOf gs).length → lexB (keyOf (lyingOf gs) i) (keyOf (lyingOf gs) (i - 1)) = b)
    (h : ∀ a ys k' h' tk σ' ps', GrowX s.heap σ h' σ' 238 → h'.get? 238 = some (tabObj ps') → TabR σ' "glyph_rows.<locals>.<lambda>" 124 42 ps' → σ' a = some (listOf ys.toArray k') →
      Paired (RowR w σ') ys (rowsTo (sortedOf b (lyingOf gs)) (lyingOf gs).length) → Q (.ref a) { s with heap := h', toks := tk }) :
    wpAny (model PySem.Challenge.rw_pb0474_01.row.prog w) A (call (.ref 241) [.ref l]) Q E s := by
  refine wpAny_call ?_
  refine' enterC (binds := [("laid", .ref l)]) (fun L => [("heights", L + 2), ("across", L + 1)]) (setm m0 "laid" (.ref l)) (m0) B hf ?ho ?hcd hA.room ?bind ?kind ?nd ?cl ?hm ?hcm ?co ?gen ?k ?_
  case ho => k_is
  case hcd => k_is
  case bind => exact BindsTo.of_eq rfl
  case kind => rfl
  case nd => decide +kernel
  case cl => intro L; rfl
  case hm => intro L; rfl
  case hcm => intro L; rfl
  case co => rfl
  case gen => rfl
  case k => rfl
  intro L h1 tk1 ob S hL hob
  dsimp only [List.map] at S
  have hc : (ob "heights").data = .cell none := hob _ (.head _)
  have hc2 : (ob "across").data = .cell none := hob _ (.tail _ (.head _))
  clear hob
  have hlen := hv.length
  replace S : St w _ σ σ L (setm m0 "laid" (.ref l)) [(L + 2, ob "heights"), (L + 1, ob "across"), (238, tabObj ps)] h1 := (S.own hP h0).perm (List.perm_append_comm (l₁ := [(L + 2, ob "heights"), (L + 1, ob "across")]) (l₂ := [(238, tabObj ps)]))
  repeat' (first | walk1 | (dsimp only; walk1))
  refine comp1SU (src_list (hd_deeper hA.hd) S hl) S (by decide) rfl (by omega) rfl rfl rfl (fun i σ' ys => σ = σ' ∧ Paired (GlyR w σ') ys (lyingOf (gs.take i)) ∧ ys.length ≤ i) ⟨rfl, .nil, Nat.le_refl _⟩ ?_ ?_
  · rintro C D i v _ m'' ys kk κ' h4 tk4 hi hvi hl4 hk4 ⟨rfl, hys, hyl⟩ S4
    obtain ⟨g, hg', Dg⟩ := pat hv hvi
    have hfil : lyingOf (gs.take (i + 1)) = lyingOf (gs.take i) ++ (if (g.t != ("" : Str)) = true then [g] else []) := by
      rw [take_snoc hg']; unfold lyingOf; rw [List.filter_append]; simp [List.filter_cons]
    repeat' (first | walk1 | (dsimp only; walk1))
    · refine eend (by assumption) (by tb_start) ⟨rfl, ?_, by simp; omega⟩
      rw [hfil, if_pos (by assumption)]
      exact papp hys (.cons Dg .nil)
    · refine eend (by assumption) (by tb_start) ⟨rfl, ?_, by omega⟩
      rw [hfil, if_neg (by simp_all), List.append_nil]
      exact hys
  rintro D5 _ σ5 zs kk5 h5 tk5 l5 ⟨rfl, hzs, hzl⟩ hD5 l5' S5
  rw [hlen, List.take_length] at hzs
  replace hzs := gmono l5 hzs
  dsimp only
  repeat' (first | walk1 | (dsimp only; walk1))
  refine comp1S (src_list (hd_deeper hA.hd) S5 hD5) S5 (by decide) rfl (by omega) (fun i σ' ys => Paired (DecR w σ') ys (((lyingOf gs).take i).map (·.y))) .nil ?_ ?_
  · rintro C D i v σ' m'' ys kk κ' h4 tk4 hi hvi hl4 hk4 hys S4
    obtain ⟨g, hg', Dg⟩ := pat hzs hvi
    replace Dg := Dg.mono hl4
    repeat' (first | walk1 | (dsimp only; walk1))
    refine eend (by assumption) (by tb_start) ?_
    rw [take_snoc hg', List.map_append]
    exact papp (dmono (by tb_start) hys) (.cons (by ktr_rel) .nil)
  intro D10 σp10 σ10 ys10 kk10 h10 tk10 lp10 hys10 hD10 G10 S10
  rw [take_all hzs] at hys10
  replace hys10 := dmono lp10 hys10
  have l10 := G10.sub
  have z10 := hys10.length
  have z9 := hzs.length
  rw [List.length_map] at z10
  dsimp only
  repeat' (first | walk1 | (dsimp only; walk1))
  rename_i a11 t11 lt11 ts11 k11 h11 tk11 σ11 G11 ha11 hl11 P11 S11 l11
  refine n_titem (vs := [.ref lt11, .int 0 t11]) (fro_get (by assumption) ha11) (by decide) (by decide) rfl rfl ?_ (by with_unfolding_all rfl)
  repeat' (first | walk1 | (dsimp only; walk1))
  rename_i h12 o12 d12 S12
  have l12 := l10.trans l11
  replace hzs := gmono l12 hzs
  replace hD5 := l12 _ _ hD5
  refine comp1S (src_list (hd_deeper hA.hd) S12 hD5) S12 (by decide) rfl (by omega) (fun i σ' ys => Paired (DecR w σ') ys (((lyingOf gs).take i).map (·.x))) .nil ?_ ?_
  · rintro C D i v σ' m'' ys kk κ' h4 tk4 hi hvi hl4 hk4 hys S4
    obtain ⟨g, hg', Dg⟩ := pat hzs hvi
    replace Dg := Dg.mono hl4
    repeat' (first | walk1 | (dsimp only; walk1))
    refine eend (by assumption) (by tb_start) ?_
    rw [take_snoc hg', List.map_append]
    exact papp (dmono (by tb_start) hys) (.cons (by ktr_rel) .nil)
  intro D20 σp20 σ20 ys20 kk20 h20 tk20 lp20 hys20 hD20 G20 S20
  rw [take_all hzs] at hys20
  replace hys20 := dmono lp20 hys20
  have l20 := G20.sub
  have z20 := hys20.length
  rw [List.length_map] at z20
  dsimp only
  repeat' (first | walk1 | (dsimp only; walk1))
  rename_i a21 t21 lt21 ts21 k21 h21 tk21 σ21 G21 ha21 hl21 P21 S21 l21
  refine n_titem (vs := [.ref lt21, .int 0 t21]) (fro_get (by assumption) ha21) (by decide) (by decide) rfl rfl ?_ (by with_unfolding_all rfl)
  repeat' (first | walk1 | (dsimp only; walk1))
  rename_i h22 o22 d22 S22 t23 r24 h24 tk24 t24 u24 v24 R24 S24 G24
  refine kla_eval rfl ?_
  have S25 : St w _ σ σ21 L _ [(238, tabObj ps), (L + 2, o12), (L + 1, o22)] h24 := S24.perm (List.perm_append_comm (l₁ := [(238, tabObj ps)]) (l₂ := [(L + 2, o12), (L + 1, o22)]))
  refine' n_lam (P := 238) (c := 240) S25 (hT.mono (l5.trans (l12.trans (l20.trans l21)))) ?cl rfl rfl ?C ?_
  case cl => with_unfolding_all exact rfl
  case C => rfl
  intro f30 h30 tk30 σ30 ps30 l30 lam30 tab30 S30 k30
  repeat' (first | walk1 | (dsimp only; walk1))
  have R30 : IsRange h30 r24 0 (zs.length : Int) 1 t24 u24 v24 := k30 r24 _ (fun e => by have := S25.mu _ (.head _); rw [← e] at this; have := this.1.symm.trans R24; cases this) R24
  have hsz : zs.length = (lyingOf gs).length := z9
  have l305 : Le σ5 σ30 := l12.trans (l20.trans (l21.trans l30))
  replace hl11 := (l20.trans (l21.trans l30)) _ _ hl11
  replace hl21 := l30 _ _ hl21
  refine sorted_key (key := keyOf (lyingOf gs)) (b := b) (hd_deeper hA.hd) S30 R30 (by omega) (by rw [hsz]; exact hb) ?_ ?_
  · intro i ti σ' p q h31 tk31 hi l31 S31
    have c1 := mu_get S31 (.tail _ (.tail _ (.tail _ (.head _))))
    have c2 := mu_get S31 (.tail _ (.tail _ (.tail _ (.tail _ (.head _)))))
    refine at_St S31 fun B' f' => wpAny_call (enterLam (binds := [("at", .int (i : Int) ti)]) B' f' (lam30.mono l31) ?hroom ?hbind ?hloc ?hcell rfl rfl rfl ?_)
    case hroom => exact ((hA.call (j := 11) (by decide)).in1 (j := 10) (by decide)).in1 (j := 9) (by decide) |>.room
    case hbind => intro _ _ _; rfl
    case hloc => exact locs rfl
    case hcell => decide
    intro L2 h33 c33 S33 hL2
    dsimp only [bindm, List.foldl] at S33
    have hi2 : i < (lyingOf gs).length := by omega
    obtain ⟨u1, hu1⟩ : ∃ v, ts11[i]? = some v := ⟨ts11[i]'(by rw [P11.length, List.length_map]; exact hi2), by simp⟩
    obtain ⟨u2, hu2⟩ : ∃ v, ts21[i]? = some v := ⟨ts21[i]'(by rw [P21.length, List.length_map]; exact hi2), by simp⟩
    obtain ⟨y1, hy1, v1, rfl⟩ := pat P11 hu1
    obtain ⟨y2, hy2, v2, rfl⟩ := pat P21 hu2
    have hg1 : (lyingOf gs)[i]? = some ((lyingOf gs).getD i g0) := by rw [List.getD_eq_getElem?_getD, List.getElem?_eq_getElem hi2]; rfl
    rw [List.getElem?_map, hg1] at hy1 hy2
    cases hy1
    cases hy2
    repeat' (first | walk1 | (dsimp only; walk1))
    refine n_item (x := .int ((lyingOf gs).getD i g0).y v1) (fro_get (by assumption) (l31 _ _ hl11)) (by omega) (by omega) (by simpa using hu1) ?_ (by with_unfolding_all rfl) (by intro _; with_unfolding_all rfl)
    repeat' (first | walk1 | (dsimp only; walk1))
    refine n_item (x := .int ((lyingOf gs).getD i g0).x v2) (fro_get (by assumption) (l31 _ _ hl21)) (by omega) (by omega) (by simpa using hu2) ?_ (by with_unfolding_all rfl) (by intro _; with_unfolding_all rfl)
    repeat' (first | walk1 | (dsimp only; walk1))
    exact kend S31 (by assumption) ⟨_, _, _, _, rfl, by assumption⟩
  intro D32 out32 k32 h32 tk32 σ32 l32 hout hD32 S32
  repeat' (first | walk1 | (dsimp only; walk1))
  rename_i h40 S40 a41 h41 S41 l41 h42 S42
  have hol : out32.length = (lyingOf gs).length := by
    rw [hout.length]; unfold ordOf; split <;> simp [upTo, hsz]
  refine n_len (fro_get S42 hD32) (by omega) fun t43 => ?_
  repeat' (first | walk1 | (dsimp only; walk1))
  rename_i r44 h44 tk44 t44 u44 v44 R44 S44 G44
  have l325 : Le σ5 σ32 := l305.trans l32
  refine loopS (src_range0 (n := out32.length) (hd_deeper hA.hd) R44 (by omega)) S44
    (fun i σ' m' μ' => m' "order" = some (.ref D32) ∧ m' "lying" = some (.ref D5) ∧ ∃ R, m' "rows" = some (.ref R) ∧
      ((i = 0 ∧ ∃ kR, μ' = [(R, listOf ([] : List Value).toArray kR), (238, tabObj ps30), (L + 2, o12), (L + 1, o22)]) ∨
       (∃ C prevs curs kR kC pre cur, μ' = [(C, listOf curs.toArray kC), (R, listOf (prevs ++ [Value.ref C]).toArray kR), (238, tabObj ps30), (L + 2, o12), (L + 1, o22)] ∧
          rowsTo (sortedOf b (lyingOf gs)) i = pre ++ [cur] ∧ 0 < i ∧ Paired (RowR w σ') prevs pre ∧ Paired (GlyR w σ') curs cur ∧ prevs.length + curs.length ≤ i ∧ 0 < curs.length)))
    ⟨by tb_rel, by tb_rel, _, by tb_rel, .inl ⟨rfl, _, rfl⟩⟩ ?_ ?_
  · rintro i v σ' m' μ' κ' h50 tk50 hi ⟨ti, rfl⟩ l50 ⟨m1, m2, R, m3, hor⟩ S50
    have at_ : ∀ i, i < out32.length → ∃ (j : Int) (t : Tok), out32[i]? = some (.int j t) ∧ 0 ≤ j ∧ j < (lyingOf gs).length ∧ (lyingOf gs).getD j.toNat g0 = (sortedOf b (lyingOf gs)).getD i g0 := fun i hi => by
      obtain ⟨v, hv⟩ : ∃ v, out32[i]? = some v := ⟨out32[i], by simp [hi]⟩
      obtain ⟨j, hj, t, rfl⟩ := pat hout hv
      rw [hsz] at hj
      exact ⟨j, t, hv, ord_get hj⟩
    obtain ⟨j, tj, hj, j0, j1, j2⟩ := at_ i hi
    obtain ⟨gv, hgv⟩ : ∃ v, zs[j.toNat]? = some v := ⟨zs[j.toNat]'(by omega), by simp⟩
    obtain ⟨gg, hgg, Dg⟩ := pat hzs hgv
    have egg : gg = (sortedOf b (lyingOf gs)).getD i g0 := by rw [← j2, List.getD_eq_getElem?_getD, hgg]; rfl
    replace Dg := Dg.mono ((l20.trans (l21.trans (l30.trans l32))).trans l50)
    have hD5' := ((l20.trans (l21.trans (l30.trans l32))).trans l50) _ _ hD5
    have hD32' := l50 _ _ hD32
    rcases hor with ⟨rfl, kR, rfl⟩ | ⟨C, prevs, curs, kR, kC, pre, cur, rfl, hrows, hi0, hprev, hcur, hlc⟩
    · repeat' (first | walk1 | (dsimp only; walk1))
      refine n_item (x := .int j tj) (fro_get (by assumption) hD32') (by decide) (by decide) (by simpa using hj) ?_ (by with_unfolding_all rfl) (by intro _; with_unfolding_all rfl)
      repeat' (first | walk1 | (dsimp only; walk1))
      rename_i N60 h60 S60 l60 h61 k61 S61
      refine n_itemneg (x := .ref N60) (mu_get (by assumption) (.tail _ (.head _))) (by decide) (by simp) (by decide) (by simp) ?_ (by with_unfolding_all rfl)
      repeat' (first | walk1 | (dsimp only; walk1))
      refine n_item (x := gv) (fro_get (by assumption) hD5') (by omega) (by omega) hgv ?_ (by with_unfolding_all rfl) (by intro _; with_unfolding_all rfl)
      repeat' (first | walk1 | (dsimp only; walk1))
      refine tend (by assumption) (by tb_start) ⟨by tb_rel, by tb_rel, _, by tb_rel, .inr ⟨_, [], [gv], _, _, [], [gg], rfl, ?_, by omega, .nil, .cons Dg .nil, by simp⟩⟩
      rw [egg]; simp [rowsTo]
    · repeat' (first | walk1 | (dsimp only; walk1))
      refine n_item (x := .int j tj) (fro_get (by assumption) hD32') (by omega) (by omega) (by simpa using hj) ?_ (by with_unfolding_all rfl) (by intro _; with_unfolding_all rfl)
      repeat' (first | walk1 | (dsimp only; walk1))
      · exfalso; omega
      · obtain ⟨jp, tp, hjp, p0, p1, p2⟩ := at_ (i - 1) (by omega)
        obtain ⟨w1, hw1⟩ : ∃ v, ts11[j.toNat]? = some v := ⟨ts11[j.toNat]'(by rw [P11.length, List.length_map]; omega), by simp⟩
        obtain ⟨w2, hw2⟩ : ∃ v, ts11[jp.toNat]? = some v := ⟨ts11[jp.toNat]'(by rw [P11.length, List.length_map]; omega), by simp⟩
        obtain ⟨y1, hy1, v1, rfl⟩ := pat P11 hw1
        obtain ⟨y2, hy2, v2, rfl⟩ := pat P11 hw2
        have hg1 : (lyingOf gs)[j.toNat]? = some ((lyingOf gs).getD j.toNat g0) := by rw [List.getD_eq_getElem?_getD, List.getElem?_eq_getElem (by omega)]; rfl
        have hg2 : (lyingOf gs)[jp.toNat]? = some ((lyingOf gs).getD jp.toNat g0) := by rw [List.getD_eq_getElem?_getD, List.getElem?_eq_getElem (by omega)]; rfl
        rw [List.getElem?_map, hg1, j2] at hy1
        rw [List.getElem?_map, hg2, p2] at hy2
        cases hy1
        cases hy2
        have hl11' := (l32.trans l50) _ _ hl11
        refine n_item (x := .int ((sortedOf b (lyingOf gs)).getD i g0).y v1) (fro_get (by assumption) hl11') (by omega) (by omega) hw1 ?_ (by with_unfolding_all rfl) (by intro _; with_unfolding_all rfl)
        repeat' (first | walk1 | (dsimp only; walk1))
        refine n_item (x := .int jp tp) (fro_get (by assumption) hD32') (by omega) (by omega) (by rw [show ((i : Int) - 1).toNat = i - 1 from by omega]; exact hjp) ?_ (by with_unfolding_all rfl) (by intro _; with_unfolding_all rfl)
        repeat' (first | walk1 | (dsimp only; walk1))
        refine n_item (x := .int ((sortedOf b (lyingOf gs)).getD (i - 1) g0).y v2) (fro_get (by assumption) hl11') (by omega) (by omega) hw2 ?_ (by with_unfolding_all rfl) (by intro _; with_unfolding_all rfl)
        repeat' (first | walk1 | (dsimp only; walk1))
        · rename_i hne N60 h60 S60 l60 h61 k61 S61
          refine n_itemneg (x := .ref N60) (mu_get (by assumption) (.tail _ (.tail _ (.head _)))) (by decide) (by simp; omega) (by decide) (by rw [show ((-1 : Int) + ((prevs ++ [Value.ref C] ++ [Value.ref N60]).length : Int)).toNat = (prevs ++ [Value.ref C]).length from by simp; omega]; simp) ?_ (by with_unfolding_all rfl)
          repeat' (first | walk1 | (dsimp only; walk1))
          refine n_item (x := gv) (fro_get (by assumption) hD5') (by omega) (by omega) hgv ?_ (by with_unfolding_all rfl) (by intro _; with_unfolding_all rfl)
          repeat' (first | walk1 | (dsimp only; walk1))
          rename_i h62 k62 S62
          have S63 := (S62.perm (List.Perm.swap _ _ _)).freeze
          have l63 : Le σ' (upd σ' C (listOf curs.toArray kC)) := upd_le (S62.mu _ (.tail _ (.head _))).2.2.2
          refine tend S63 l63 ⟨by tb_rel, by tb_rel, _, by tb_rel, .inr ⟨_, prevs ++ [Value.ref C], [gv], _, _, pre ++ [cur], [gg], rfl, ?_, by omega, ?_, .cons (Dg.mono l63) .nil, by simp; omega⟩⟩
          · show (if i = 0 ∨ _ then _ else _) = _
            rw [if_pos (.inr hne), hrows, ← egg]
          · exact papp (rmono l63 hprev) (.cons ⟨_, curs, _, rfl, upd_same _ _ _, gmono l63 hcur⟩ .nil)
        · rename_i heq
          refine n_itemneg (x := .ref C) (mu_get (by assumption) (.tail _ (.head _))) (by decide) (by simp; omega) (by decide) (by rw [show ((-1 : Int) + ((prevs ++ [Value.ref C]).length : Int)).toNat = prevs.length from by simp; omega]; simp) ?_ (by with_unfolding_all rfl)
          repeat' (first | walk1 | (dsimp only; walk1))
          refine n_item (x := gv) (fro_get (by assumption) hD5') (by omega) (by omega) hgv ?_ (by with_unfolding_all rfl) (by intro _; with_unfolding_all rfl)
          repeat' (first | walk1 | (dsimp only; walk1))
          refine tend (by assumption) (by tb_start) ⟨by tb_rel, by tb_rel, _, by tb_rel, .inr ⟨_, prevs, curs ++ [gv], _, _, pre, cur ++ [gg], rfl, ?_, by omega, hprev, papp hcur (.cons Dg .nil), by simp; omega⟩⟩
          show (if i = 0 ∨ _ then _ else _) = _
          rw [if_neg (fun q => q.elim (fun e => by omega) fun e => e heq), hrows, ← egg]
          simp
  · rintro σ' m' μ' h50 tk50 l50 ⟨m1, m2, R, m3, hor⟩ S50
    rw [hol] at hor
    have htab := tab30.mono (l32.trans l50)
    rcases hor with ⟨hz, kR, rfl⟩ | ⟨C, prevs, curs, kR, kC, pre, cur, rfl, hrows, hi0, hprev, hcur, hlc⟩
    · repeat' (first | walk1 | (dsimp only; walk1))
      have S51 := S50.freeze
      have l51 : Le σ' _ := upd_le (o := listOf ([] : List Value).toArray kR) (S50.mu _ (.head _)).2.2.2
      exact h _ [] _ _ _ _ _ S51.leaveX (S51.mu _ (.head _)).1 (htab.mono l51) (upd_same _ _ _) (by rw [hz]; exact .nil)
    · repeat' (first | walk1 | (dsimp only; walk1))
      have S51 := S50.freeze
      have l51 : Le σ' _ := upd_le (o := listOf curs.toArray kC) (S50.mu _ (.head _)).2.2.2
      have S52 := S51.freeze
      have l52 := upd_le (o := listOf (prevs ++ [Value.ref C]).toArray kR) (S51.mu _ (.head _)).2.2.2
      refine h _ (prevs ++ [Value.ref C]) _ _ _ _ _ S52.leaveX (S52.mu _ (.head _)).1 (htab.mono (l51.trans l52)) (upd_same _ _ _) ?_
      rw [hrows]
      exact papp (rmono (l51.trans l52) hprev) (.cons ⟨_, curs, _, rfl, l52 _ _ (upd_same _ _ _), gmono (l51.trans l52) hcur⟩ .nil)
end

local macro_rules | `(tactic| walk_at "call ref") => `(tactic| ((with_reducible show wpAny _ _ (call (Value.ref 241) _ _) _ _ _); (refine at_St (by assumption) (fun B' f' => ?_)); (refine glyph_rows_spec (Rm.call (by assumption) (by decide)) B' f' (by assumption) (by assumption) (by assumption) (mu_get (by assumption) (.head _)) (by assumption) (by assumption) (by assumption) ?_); clear B' f'; intro a' ys' k' h' tk' s' p' G' e' T' hD' P'; (have S' := St.growX (by assumption) G' e'); (have l' := GrowX.sub G')))
local macro_rules | `(tactic| walk_at "call ref") => `(tactic| ((with_reducible show wpAny _ _ (call (Value.ref 265) _ _) _ _ _); (refine at_St (by assumption) (fun B' f' => ?_)); (refine row_words_spec (Rm.call (by assumption) (by decide)) B' f' (by assumption) (by assumption) (by assumption) (by assumption) (by assumption) ?_); clear B' f'; intro a' ys' k' h' tk' s' G' hD' P'; (have S' := St.grow (by assumption) G'); (have l' := Grow.sub G')))

theorem rowsTo_in (os : List G) : ∀ i, i ≤ os.length → (∀ r ∈ rowsTo os i, (∀ g ∈ r, g ∈ os) ∧ r.length ≤ i) ∧ (rowsTo os i).length ≤ i
  | 0, _ => ⟨(fun _ h => nomatch h), Nat.le_refl _⟩
  | i + 1, h => by
    have ih := rowsTo_in os i (by omega)
    have hg : os.getD i g0 ∈ os := by rw [List.getD_eq_getElem?_getD, List.getElem?_eq_getElem (by omega)]; exact List.getElem_mem _
    unfold rowsTo
    split
    · refine ⟨fun r hr => ?_, by rw [List.length_append]; simp; omega⟩
      rcases List.mem_append.mp hr with hr | hr
      · exact ⟨(ih.1 r hr).1, Nat.le_succ_of_le (ih.1 r hr).2⟩
      · rw [List.mem_singleton.mp hr]
        exact ⟨fun g hg' => by rw [List.mem_singleton.mp hg']; exact hg, by simp⟩
    · rename_i hc
      have hne : rowsTo os i ≠ [] := by
        intro e
        cases i with
        | zero => exact hc (.inl rfl)
        | succ j =>
          unfold rowsTo at e
          split at e <;> simp at e
      have hlast : (rowsTo os i).getLastD [] ∈ rowsTo os i := by
        cases q : rowsTo os i with
        | nil => exact absurd q hne
        | cons a r => rw [List.getLastD_cons]; exact List.getLastD_mem_cons
      refine ⟨fun r hr => ?_, by rw [List.length_append, List.length_dropLast]; simp; omega⟩
      rcases List.mem_append.mp hr with hr | hr
      · have := ih.1 r ((List.dropLast_sublist _).subset hr)
        exact ⟨this.1, Nat.le_succ_of_le this.2⟩
      · rw [List.mem_singleton.mp hr]
        have := ih.1 _ hlast
        refine ⟨fun g hg' => ?_, by rw [List.length_append, List.length_singleton]; exact Nat.succ_le_succ this.2⟩
        rcases List.mem_append.mp hg' with hg' | hg'
        · exact this.1 g hg'
        · rw [List.mem_singleton.mp hg']; exact hg
def foundOf (b : Bool) (gs : List G) (tn : Int) : List (Str × Bx) := (rowsTo (sortedOf b (lyingOf gs)) (lyingOf gs).length).flatMap fun r => wordsOf r tn
theorem wordsOf_len {gs : List G} {tn : Int} (hg : ∀ g ∈ gs, g.t.cps.size ≤ 3) : (wordsOf gs tn).length ≤ 4 * gs.length + 1 := by
  unfold wordsOf
  have := (wlen gs (signsTo gs tn gs.length ++ [((" " : Str), (-1 : Int))]) w0).1
  have z := signsTo_len tn hg gs.length
  have e : w0.words.length = 0 := rfl
  rw [List.length_append, List.length_singleton, e] at this
  omega
section
variable {w : World} {A : Around} {E : Value → Shared → Prop} {s : Shared} {σ : PM} {Q : Value → Shared → Prop}

theorem words_of_spec {l : Addr} {vs : List Value} {k : Nat} {gs : List G} {ps : Array Value} {b : Bool} {t0 : Tok} {tn : Int} (hA : Rm A 14) (B : BaseS w σ) (hf : Le σ s.heap.get?) (hl : σ l = some (listOf vs.toArray k)) (hv : Paired (GlyR w σ) vs gs) (hn : vs.length ≤ 15)
    (hk : 0 ≤ tn ∧ tn < 100) (hg : ∀ g ∈ gs, 0 ≤ g.s ∧ g.t.cps.size ≤ 3)
    (hP : s.heap.get? 238 = some (tabObj ps)) (h0 : σ 238 = none) (hT : TabR σ "glyph_rows.<locals>.<lambda>" 124 42 ps)
    (hb : ∀ i, 1 ≤ i → i < (lyingOf gs).length → lexB (keyOf (lyingOf gs) i) (keyOf (lyingOf gs) (i - 1)) = b)
    (h : ∀ a ys k' h' tk σ' ps', GrowX s.heap σ h' σ' 238 → h'.get? 238 = some (tabObj ps') → TabR σ' "glyph_rows.<locals>.<lambda>" 124 42 ps' → σ' a = some (listOf ys.toArray k') →
      Paired (WordR w σ') ys (foundOf b gs tn) → Q (.ref a) { s with heap := h', toks := tk }) :
    wpAny (model PySem.Challenge.rw_pb0474_01.row.prog w) A (call (.ref 271) [.ref l, .int tn t0]) Q E s := by
  refine wpAny_call ?_
  refine' enterC (binds := [("laid", .ref l), ("tenths", .int tn t0)]) (fun L => [("tenths", L + 1)]) (setm m0 "laid" (.ref l)) (setm m0 "tenths" (.int tn t0)) B hf ?ho ?hcd hA.room ?bind ?kind ?nd ?cl ?hm ?hcm ?co ?gen ?k ?_
  case ho => k_is
  case hcd => k_is
  case bind => (refine' binds_K (B.inn hf) ?h1 ?h2 ?h3 ?h4 ?h5; (case h1 => exact rfl); (case h2 => k_is); (case h3 => exact rfl); (case h4 => exact rfl); (case h5 => exact rfl))
  case kind => rfl
  case nd => decide +kernel
  case cl => intro L; rfl
  case hm => intro L; rfl
  case hcm => intro L; rfl
  case co => rfl
  case gen => rfl
  case k => rfl
  intro L h1 tk1 ob S hL hob
  dsimp only [List.map] at S
  have hc : (ob "tenths").data = .cell (some (.int tn t0)) := hob _ (.head _)
  clear hob
  have hlen := hv.length
  replace S : St w _ σ σ L (setm m0 "laid" (.ref l)) [(238, tabObj ps), (L + 1, ob "tenths")] h1 := S.own hP h0
  have hn20 : vs.length ≤ 20 := by omega
  repeat' (first | walk1 | (dsimp only; walk1))
  rename_i a5 ys5 k5 h5 tk5 σ5 ps5 G5 e5 T5 hD5 P5 S5 l5
  have hll : (lyingOf gs).length ≤ gs.length := List.length_filter_le _ _
  have hrows := rowsTo_in (sortedOf b (lyingOf gs)) (lyingOf gs).length (by rw [sorted_len]; exact Nat.le_refl _)
  have hfound : foundOf b gs tn = (rowsTo (sortedOf b (lyingOf gs)) (lyingOf gs).length).flatMap fun r => wordsOf r tn := rfl
  have hrg : ∀ r ∈ rowsTo (sortedOf b (lyingOf gs)) (lyingOf gs).length, ∀ g ∈ r, 0 ≤ g.s ∧ g.t.cps.size ≤ 3 ∧ 0 < g.t.cps.size := fun r hr g hg' => by
    have hm := (hrows.1 r hr).1 g hg'
    have hm2 : g ∈ lyingOf gs := by
      unfold sortedOf at hm; split at hm
      · exact List.mem_reverse.mp hm
      · exact hm
    obtain ⟨m1, m2⟩ := List.mem_filter.mp hm2
    refine ⟨(hg g m1).1, (hg g m1).2, ?_⟩
    rcases Nat.eq_zero_or_pos g.t.cps.size with q | q
    · exfalso
      have : g.t = ("" : Str) := by
        have e := Array.eq_empty_of_size_eq_zero q
        cases hh : g.t; rw [hh] at e; simp at e; rw [e]; rfl
      rw [this] at m2
      exact absurd m2 (by decide)
    · exact q
  generalize rowsTo (sortedOf b (lyingOf gs)) (lyingOf gs).length = rows at P5 hrows hfound hrg
  have z5 := P5.length
  refine comp2S (src_list (hd_deeper hA.hd) S5 hD5) S5 (by decide) rfl (fun i σ' ys => Paired (WordR w σ') ys ((rows.take i).flatMap fun r => wordsOf r tn) ∧ ys.length ≤ 100 * i) ⟨.nil, Nat.le_refl _⟩ ?_ ?_
  · rintro C D i v σ' m'' ys kk κ' h6 tk6 hi hvi hl6 hk6 ⟨hys, hyl⟩ S6
    obtain ⟨r, hr, lr, rv, kr, rfl, hlr, hpr⟩ := pat P5 hvi
    have hmr := List.mem_of_getElem? hr
    have hrg' := hrg r hmr
    have hrlen := (hrows.1 r hmr).2
    replace hlr := hl6 _ _ hlr
    replace hpr := gmono hl6 hpr
    have hrv : rv.length ≤ 15 := by rw [hpr.length]; omega
    have hcell := hk6 _ _ (mu_get S5 (.tail _ (.head _)))
    have eflat : (rows.take (i + 1)).flatMap (fun r => wordsOf r tn) = (rows.take i).flatMap (fun r => wordsOf r tn) ++ wordsOf r tn := by
      rw [take_snoc hr, List.flatMap_append]; simp
    repeat' (first | walk1 | (dsimp only; walk1))
    refine emit_two (by intro _; with_unfolding_all rfl) ?_
    repeat' (first | walk1 | (dsimp only; walk1))
    rename_i h7 S7 a8 ys8 k8 h8 tk8 σ8 G8 hD8 P8 S8 l8
    have z8 := P8.length
    have z9 := wordsOf_len (tn := tn) (fun g hg' => (hrg' g hg').2.1)
    have z10 : ys5.length ≤ 15 := by omega
    replace hys := wmono l8 hys
    refine compInner1 (src_list (hd_deeper hA.hd) S8 hD8) S8 (by omega) (fun j σ' zs => Paired (WordR w σ') zs ((rows.take i).flatMap (fun r => wordsOf r tn) ++ (wordsOf r tn).take j) ∧ zs.length ≤ 100 * i + j) ⟨by simpa using hys, by omega⟩ ?_ ?_
    · rintro j v σ' m9 zs kk9 κ9 h9 tk9 hj hvj hl9 hk9 ⟨hzs, hzl⟩ S9
      obtain ⟨x, hx, hw⟩ := pat P8 hvj
      repeat' (first | walk1 | (dsimp only; walk1))
      refine eend (by assumption) (by tb_start) ⟨?_, by simp; omega⟩
      rw [take_snoc hx, ← List.append_assoc]
      exact papp hzs (.cons (hw.mono hl9) .nil)
    · rintro σ' m9 zs kk9 h9 tk9 hl9 ⟨hzs, hzl⟩ S9
      rw [z8, List.take_length, ← eflat] at hzs
      exact tend' S9 (l8.trans hl9) ⟨_, _, rfl, hzs, by omega⟩
  · rintro D6 σ6' σ6 ys6 kk6 h6 tk6 l6 ⟨hys6, _⟩ hD6 G6 S6
    repeat' (first | walk1 | (dsimp only; walk1))
    rw [z5, List.take_length] at hys6
    exact h _ ys6 _ _ _ _ _ S6.leaveX (S6.mu _ (.head _)).1 (T5.mono G6.sub) hD6 (by rw [hfound]; exact wmono l6 hys6)
end

section
variable {w : World} {A : Around} {E : Value → Shared → Prop} {s : Shared} {σ : PM} {Q : Value → Shared → Prop}

theorem glyph_new {t : Str} {x y gw gs : Int} {vx vy vw vs : Value} {t0 : Tok} (hA : Rm A 2) (B : BaseS w σ) (hf : Le σ s.heap.get?) (D1 : DecR w σ vx x) (D2 : DecR w σ vy y) (D3 : DecR w σ vw gw) (D4 : DecR w σ vs gs)
    (h : ∀ v h' tk σ', Grow s.heap σ h' σ' → GlyR w σ' v ⟨t, x, y, gw, gs⟩ → Q v { s with heap := h', toks := tk }) :
    wpAny (model PySem.Challenge.rw_pb0474_01.row.prog w) A (call (.ref 225) [.str t t0, vx, vy, vw, vs]) Q E s := by
  refine wpAny_call ?_
  obtain ⟨hp, gs, dr, tk, os⟩ := s
  have KX : (hd.heap_1 w.params).In hp := B.inn hf
  refine make_core (makes_of KX ?mk) (looks_findIn KX (r := some (.ref 215)) ?hi) (fun self => bind_fn KX self ?hb) (.inl rfl) ?_
  case mk => k_is
  case hi => k_is
  case hb => rfl
  have l0 : hp.get? hp.objs.size = none := get_none_size (Nat.le_refl _)
  have l1 : hp.get? (hp.objs.size + 1) = none := get_none_size (Nat.le_succ _)
  generalize hH : (hp.push emptyDict).push (instObj 225 hp.objs.size) = H2
  have k2 : Le hp.get? H2.get? := by rw [← hH]; exact (push_le _ _).trans (push_le _ _)
  have e0 : H2.get? hp.objs.size = some emptyDict := by rw [← hH]; exact push_le _ _ _ _ (Heap.get?_push_size _ rfl)
  have e1 : H2.get? (hp.objs.size + 1) = some (instObj 225 hp.objs.size) := by
    rw [← hH]; have := Heap.get?_push_size (hp.push emptyDict) (o := instObj 225 hp.objs.size) rfl; rwa [Heap.size_push] at this
  have sz : H2.objs.size = hp.objs.size + 2 := by rw [← hH, Heap.size_push, Heap.size_push]
  refine' enter (binds := [("self", .ref (hp.objs.size + 1)), ("text", .str t t0), ("x", vx), ("y", vy), ("width", vw), ("size", vs)]) B (hf.trans k2) ?ho ?hcd ?room ?bind ?loc ?cell ?co ?gen ?k ?_
  case ho => k_is
  case hcd => k_is
  case room => exact hA.make
  case bind => exact BindsTo.of_eq rfl
  case loc => exact locs rfl
  case cell => decide
  case co => rfl
  case gen => rfl
  case k => rfl
  intro L h1 S hL
  dsimp only [bindm, List.foldl] at S
  have F : Fr hp L h1 _ := ⟨S.ns, k2.trans S.kk, by rw [hL, sz]; exact Nat.le_add_right _ _⟩
  have N : News hp L h1 [(hp.objs.size + 1, instObj 225 hp.objs.size), (hp.objs.size, dictOf [] 0)] := by
    intro p hp'
    rcases List.mem_cons.mp hp' with rfl | hp'
    · exact ⟨S.kk _ _ e1, Le.ne S.kL e1, l1⟩
    · rcases List.mem_cons.mp hp' with rfl | hp'
      · exact ⟨S.kk _ _ e0, Le.ne S.kL e0, l0⟩
      · cases hp'
  clear S
  repeat' (first | walk1 | (dsimp only; walk1))
  dsimp only
  refine ⟨rfl, ?_⟩
  repeat' (first | walk1 | (dsimp only; walk1))
  rename_i h3 h4 F4 N4
  refine h _ _ _ (upd (upd σ hp.objs.size _) (hp.objs.size + 1) _) (((Grow.of_keep hf F4.keep).add hf l0 (N4 _ (.tail _ (.head _))).1).add hf l1 (N4 _ (.head _)).1) ?_
  have q0 : σ hp.objs.size = none := hf.none_size (Nat.le_refl _)
  have q1 : ∀ o, (upd σ hp.objs.size o) (hp.objs.size + 1) = none := fun o => (if_neg (Nat.ne_of_gt (Nat.lt_succ_self _))).trans (hf.none_size (Nat.le_succ _))
  have q2 : ∀ o1 o2, Le σ (upd (upd σ hp.objs.size o1) (hp.objs.size + 1) o2) := fun o1 o2 => (upd_le q0).trans (upd_le (q1 _))
  exact ⟨_, _, _, _, _, _, _, _, _, _, _, _, _, rfl, upd_same _ _ _, (if_neg (Nat.ne_of_lt (Nat.lt_succ_self _))).trans (upd_same _ _ _), D1.mono (q2 _ _), D2.mono (q2 _ _), D3.mono (q2 _ _), D4.mono (q2 _ _)⟩
end

section
variable {w : World} {A : Around} {E : Value → Shared → Prop} {s : Shared} {σ : PM} {Q : Value → Shared → Prop}

theorem law_draw_spec {T c : Addr} {at_ lim : Int} {ta tl : Tok} {k kc : Nat} {cs : List Value} {ns : List Int} (hA : Rm A 1) (B : BaseS w σ) (hf : Le σ s.heap.get?) (hT : s.heap.get? T = some (listOf [.ref c, .int at_ ta].toArray k)) (hT0 : σ T = none)
    (hc : σ c = some (listOf cs.toArray kc)) (hcs : Paired IntV cs ns) (hn : 0 < ns.length ∧ ns.length ≤ 60) (hat : 0 ≤ at_ ∧ at_ < 1000) (hl : 0 < lim ∧ lim < 100)
    (h : ∀ d t h' tk σ' t' k', 0 ≤ d → d < lim → GrowX s.heap σ h' σ' T → h'.get? T = some (listOf [.ref c, .int (at_ + 1) t'].toArray k') → Q (.int d t) { s with heap := h', toks := tk }) :
    wpAny (model PySem.Challenge.rw_pb0474_01.row.prog w) A (call (.ref 279) [.ref T, .int lim tl]) Q E s := by
  refine wpAny_call ?_
  refine' enter (binds := [("tape", .ref T), ("limit", .int lim tl)]) B hf ?ho ?hcd hA.room ?bind ?loc ?cell ?co ?gen ?k ?_
  case ho => k_is
  case hcd => k_is
  case bind => exact BindsTo.of_eq rfl
  case loc => exact locs rfl
  case cell => decide
  case co => rfl
  case gen => rfl
  case k => rfl
  intro L h1 S hL
  dsimp only [bindm, List.foldl] at S
  have hlen := hcs.length
  replace S := S.own hT hT0
  repeat' (first | walk1 | (dsimp only; walk1))
  refine n_item (x := .ref c) (mu_get (by assumption) (.head _)) (by decide) (by decide) rfl ?_ (by with_unfolding_all rfl) (by intro _; with_unfolding_all rfl)
  repeat' (first | walk1 | (dsimp only; walk1))
  refine n_item (x := .int at_ ta) (mu_get (by assumption) (.head _)) (by decide) (by decide) rfl ?_ (by with_unfolding_all rfl) (by intro _; with_unfolding_all rfl)
  repeat' (first | walk1 | (dsimp only; walk1))
  rename_i h6 S6
  refine n_setitem S6 (by decide) (by decide) (by simp) fun h7 k7 S7 => ?_
  dsimp only [List.set, Int.toNat] at S7
  repeat' (first | walk1 | (dsimp only; walk1))
  have em : at_.fmod (cs.length : Int) = at_ % (cs.length : Int) := Int.fmod_eq_emod_of_nonneg _ (by omega)
  have e0 : 0 ≤ at_.fmod (cs.length : Int) := by rw [em]; exact Int.emod_nonneg _ (by omega)
  have e1 : at_.fmod (cs.length : Int) < cs.length := by rw [em]; exact Int.emod_lt_of_pos _ (by omega)
  obtain ⟨cv, hcv⟩ : ∃ v, cs[(at_.fmod (cs.length : Int)).toNat]? = some v := ⟨cs[(at_.fmod (cs.length : Int)).toNat]'(by omega), by simp⟩
  obtain ⟨cn, _, ct, rfl⟩ := pat hcs hcv
  refine n_item (x := .int cn ct) (fro_get (by assumption) hc) e0 (by omega) hcv ?_ (by with_unfolding_all rfl) (by intro _; with_unfolding_all rfl)
  repeat' (first | walk1 | (dsimp only; walk1))
  have em2 : ∀ z : Int, z.fmod lim = z % lim := fun z => Int.fmod_eq_emod_of_nonneg _ (by omega)
  exact h _ _ _ _ _ _ _ (by rw [em2]; exact Int.emod_nonneg _ (by omega)) (by rw [em2]; exact Int.emod_lt_of_pos _ (by omega)) S7.leaveX (S7.mu _ (.head _)).1
end

local macro_rules | `(tactic| walk_at "call ref") => `(tactic| ((with_reducible show wpAny _ _ (call (Value.ref 279) _ _) _ _ _); (refine at_St (by assumption) (fun B' f' => ?_)); (refine' law_draw_spec (Rm.call (by assumption) (by decide)) B' f' ?hT ?hT0 ?hc ?hcs ?hn ?hat ?hl ?_); (case hT => exact mu_get (by assumption) (by k_mem)); (case hT0 => exact mu_off (by assumption) (by k_mem)); (case hc => first | assumption | (refine' Le.app ?lq ?eq; (case eq => assumption); (case lq => tb_start))); (case hcs => assumption); (case hn => assumption); (case hat => omega); (case hl => decide); clear B' f'; intro d' t' h' tk' s' t2' k' hd0' hdl' G' e'; (have S' := by first | exact St.growX (by assumption) G' e' | exact St.growX1 (by assumption) G' e' | exact St.growX2 (by assumption) G' e'); (have l' := GrowX.sub G')))

def textsL : List Str := ["a", "bc", "-", " ", "d e", "\u00a0f", ""]
def StrV (v : Value) (x : Str) : Prop := ∃ t, v = .str x t
def TupR (σ : PM) (v : Value) (g : G) : Prop := ∃ a t1 t2 t3 t4 t5, v = .ref a ∧ σ a = some ({ cls := .type "tuple", data := .seq #[.str g.t t1, .int g.x t2, .int g.y t3, .int g.w t4, .int g.s t5] } : Obj)
theorem TupR.mono {σ σ' : PM} {v : Value} {g : G} (d : TupR σ v g) (l : Le σ σ') : TupR σ' v g := let ⟨a, t1, t2, t3, t4, t5, e, h⟩ := d; ⟨a, t1, t2, t3, t4, t5, e, l _ _ h⟩
theorem tmono {σ σ' : PM} {vs : List Value} {ns : List G} (l : Le σ σ') (p : Paired (TupR σ) vs ns) : Paired (TupR σ') vs ns := pmono (fun _ _ d => TupR.mono d l) p
def TRowR (σ : PM) (v : Value) (gs : List G) : Prop := ∃ l vs k, v = .ref l ∧ σ l = some (listOf (vs : List Value).toArray k) ∧ Paired (TupR σ) vs gs
theorem TRowR.mono {σ σ' : PM} {v : Value} {x : List G} (d : TRowR σ v x) (l : Le σ σ') : TRowR σ' v x := let ⟨a, t, b, e, h, k⟩ := d; ⟨a, t, b, e, l _ _ h, tmono l k⟩
theorem trmono {σ σ' : PM} {vs : List Value} {ns : List (List G)} (l : Le σ σ') (p : Paired (TRowR σ) vs ns) : Paired (TRowR σ') vs ns := pmono (fun _ _ d => TRowR.mono d l) p
def GOk (y : Int) (g : G) : Prop := g.y = y ∧ g.t ∈ textsL ∧ 8 ≤ g.w ∧ g.w ≤ 10 ∧ 10 ≤ g.s ∧ g.s ≤ 12 ∧ 0 ≤ g.x
def RowOk (y : Int) (gs : List G) : Prop := gs.length ≤ 5 ∧ (∀ g ∈ gs, GOk y g) ∧ gs.Pairwise fun a b => a.x + a.w ≤ b.x
def RowsOk (grs : List (List G)) : Prop := grs.length ≤ 3 ∧ ∀ (i : Nat) r, grs[i]? = some r → RowOk (300 - 40 * (i : Int)) r
theorem seqIdx {k : Int} {n : Nat} (h0 : 0 ≤ k) (h1 : k < n) : seqIndex? k n = some k.toNat := by
  unfold seqIndex?
  simp only [Int.not_lt.mpr h0, if_false]
  rw [if_pos (by simp only [Bool.and_eq_true, decide_eq_true_eq]; omega)]
section
variable {w : World} {A : Around} {E : Value → Shared → Prop} {s : Shared} {σ : PM} {Q : Value → Shared → Prop}
theorem law_texts (B : BaseS w σ) : ∃ vs, σ 272 = some ({ cls := .type "tuple", data := .seq (vs : List Value).toArray } : Obj) ∧ Paired StrV vs textsL := by
  refine ⟨_, B.k 272 _ rfl, ?_⟩
  exact .cons ⟨_, rfl⟩ (.cons ⟨_, rfl⟩ (.cons ⟨_, rfl⟩ (.cons ⟨_, rfl⟩ (.cons ⟨_, rfl⟩ (.cons ⟨_, rfl⟩ (.cons ⟨_, rfl⟩ .nil))))))

theorem law_glyphs_spec {T c : Addr} {ta : Tok} {k kc : Nat} {cs : List Value} {ns : List Int} (hA : Rm A 3) (B : BaseS w σ) (hf : Le σ s.heap.get?) (hT : s.heap.get? T = some (listOf [.ref c, .int 0 ta].toArray k)) (hT0 : σ T = none)
    (hc : σ c = some (listOf cs.toArray kc)) (hcs : Paired IntV cs ns) (hn : 0 < ns.length ∧ ns.length ≤ 60)
    (h : ∀ a ys k1 grs h' tk σ' at' t' k', GrowX s.heap σ h' σ' T → h'.get? T = some (listOf [.ref c, .int at' t'].toArray k') → 0 ≤ at' ∧ at' ≤ 100 → σ' a = some (listOf ys.toArray k1) → Paired (TRowR σ') ys grs → RowsOk grs → Q (.ref a) { s with heap := h', toks := tk }) :
    wpAny (model PySem.Challenge.rw_pb0474_01.row.prog w) A (call (.ref 286) [.ref T]) Q E s := by
  refine wpAny_call ?_
  refine' enter (binds := [("tape", .ref T)]) B hf ?ho ?hcd hA.room ?bind ?loc ?cell ?co ?gen ?k ?_
  case ho => k_is
  case hcd => k_is
  case bind => exact BindsTo.of_eq rfl
  case loc => exact locs rfl
  case cell => decide
  case co => rfl
  case gen => rfl
  case k => rfl
  intro L h1 S hL
  dsimp only [bindm, List.foldl] at S
  have hlen := hcs.length
  replace S := S.own hT hT0
  obtain ⟨tvs, htx, hptx⟩ := law_texts B
  repeat' (first | walk1 | (dsimp only; walk1))
  rename_i d1 t1 h2 tk2 σ2 t12 k2 hd0 hdl G2 e2 S2 l2 r3 h3 tk3 t3 u3 v3 R3 S3 G3
  obtain ⟨n1, en1⟩ : ∃ n : Nat, 1 + d1 = (n : Int) := ⟨(1 + d1).toNat, by omega⟩
  rw [en1] at R3
  refine loopS (src_range0 (hd_deeper hA.hd) R3 (by omega)) S3
    (fun i σ' m' μ' => m' "tape" = some (.ref T) ∧ ∃ R at_ t', m' "rows" = some (.ref R) ∧ 0 ≤ at_ ∧ at_ ≤ 1 + 21 * (i : Int) ∧ ∃ ys kk kT grs, μ' = [(R, listOf (ys : List Value).toArray kk), (T, listOf [Value.ref c, .int at_ t'].toArray kT)] ∧ Paired (TRowR σ') ys grs ∧ grs.length = i ∧
      ∀ (j : Nat) r, grs[j]? = some r → RowOk (300 - 40 * (j : Int)) r)
    ⟨by tb_rel, _, _, _, by tb_rel, by omega, by omega, [], _, _, [], rfl, .nil, rfl, fun j r hr => by simp at hr⟩ ?_ ?_
  · rintro i v σ' m' μ' κ' h4 tk4 hi ⟨ti, rfl⟩ l4 ⟨m1, R, at_, t', m2, ha0, ha1, ys, kk, kT, grs, rfl, hys, hgl, hgr⟩ S4
    have l40 := l2.trans l4
    repeat' (first | walk1 | (dsimp only; walk1))
    rename_i d5 t5 h5 tk5 σ5 t5' k5 hd5 hdl5 G5 e5 S5 l5 r6 h6 tk6 t6 u6 v6 R6 S6 G6
    obtain ⟨n2, en2⟩ : ∃ n : Nat, 1 + d5 = (n : Int) := ⟨(1 + d5).toNat, by omega⟩
    rw [en2] at R6
    refine loopS (src_range0 (hd_deeper hA.hd) R6 (by omega)) S6
      (fun j σ'' m'' μ'' => m'' "tape" = some (.ref T) ∧ m'' "rows" = some (.ref R) ∧ m'' "k" = some (.int (i : Int) ti) ∧ ∃ X tX R2 at2 t2, m'' "x" = some (.int X tX) ∧ m'' "row" = some (.ref R2) ∧ 0 ≤ X ∧ 0 ≤ at2 ∧ at2 ≤ at_ + 1 + 4 * (j : Int) ∧
        ∃ zs kz kT2 gs, μ'' = [(R2, listOf (zs : List Value).toArray kz), (R, listOf ys.toArray kk), (T, listOf [Value.ref c, .int at2 t2].toArray kT2)] ∧ Paired (TupR σ'') zs gs ∧ gs.length = j ∧ (∀ g ∈ gs, GOk (300 - 40 * (i : Int)) g ∧ g.x + g.w ≤ X) ∧ gs.Pairwise fun a b => a.x + a.w ≤ b.x)
      ⟨by tb_rel, by tb_rel, by tb_rel, _, _, _, _, _, by tb_rel, by tb_rel, by omega, by omega, by omega, [], _, _, [], rfl, .nil, rfl, (fun _ hg => nomatch hg), .nil⟩ ?_ ?_
    · rintro j v σ'' m'' μ'' κ'' h7 tk7 hj ⟨tj, rfl⟩ l7 ⟨q1, q2, q3, X, tX, R2, at2, t2, q4, q5, hX, hb0, hb1, zs, kz, kT2, gs, rfl, hzs, hgs, hgok, hgp⟩ S7
      have l70 := l40.trans (l5.trans l7)
      replace htx := l70 _ _ htx
      have hzl := hzs.length
      repeat' (first | walk1 | (dsimp only; walk1))
      rename_i d8 t8 h8 tk8 σ8 t8' k8 hd8 hdl8 G8 e8 S8 l8
      have htl : tvs.length = 7 := hptx.length
      obtain ⟨tv, htv⟩ : ∃ v, tvs[d8.toNat]? = some v := ⟨tvs[d8.toNat]'(by omega), by simp⟩
      obtain ⟨xt, hxt, ut, rfl⟩ := pat hptx htv
      have hmt := List.mem_of_getElem? hxt
      refine n_titem (vs := tvs) (fro_get (by assumption) (l8 _ _ htx)) (by omega) (by omega) (seqIdx hd8 (by omega)) htv ?_ (by with_unfolding_all rfl)
      repeat' (first | walk1 | (dsimp only; walk1))
      rename_i h9 S9 d10 t10 h10 tk10 σ10 q10 k10 hd10 hdl10 G10 e10 S10 l10 h11 S11 d12 t12 h12 tk12 σ12 q12 k12 hd12 hdl12 G12 e12 S12 l12 h13 S13 d14 t14 h14 tk14 σ14 q14 k14 hd14 hdl14 G14 e14 S14 l14 h15 S15 a16 h16 σ16 l16 t16 g16 S16 h17 k17 S17 h18 S18
      refine tend S18 (by tb_start) ⟨by tb_rel, by tb_rel, by tb_rel, X + d10 + (8 + d14), _, R2, _, _, by tb_rel, by tb_rel, by omega, by omega, by omega, zs ++ [Value.ref a16], _, _, gs ++ [⟨xt, X + d10, 300 - 40 * (i : Int), 8 + d14, 10 + d12⟩], rfl,
        papp (tmono (by tb_start) hzs) (.cons ⟨_, _, _, _, _, _, rfl, t16⟩ .nil), by simp [hgs], fun g hg => ?_, ?_⟩
      · rcases List.mem_append.mp hg with hg | hg
        · have := hgok g hg
          exact ⟨this.1, by have := this.2; omega⟩
        · rw [List.mem_singleton.mp hg]
          exact ⟨⟨rfl, hmt, by dsimp only; omega, by dsimp only; omega, by dsimp only; omega, by dsimp only; omega, by dsimp only; omega⟩, Int.le_refl _⟩
      · refine List.pairwise_append.mpr ⟨hgp, by simp, fun a ha b hb => ?_⟩
        rw [List.mem_singleton.mp hb]
        have := (hgok a ha).2
        dsimp only
        omega
    · rintro σ'' m'' μ'' h7 tk7 l7 ⟨q1, q2, q3, X, tX, R2, at2, t2, q4, q5, hX, hb0, hb1, zs, kz, kT2, gs, rfl, hzs, hgs, hgok, hgp⟩ S7
      have hzl := hzs.length
      have hyl := hys.length
      repeat' (first | walk1 | (dsimp only; walk1))
      rename_i h8 k8 S8
      have S9 := (S8.freeze)
      have l9 : Le σ'' _ := upd_le (o := listOf zs.toArray kz) (S7.mu _ (.head _)).2.2.2
      have l90 := (l5.trans l7).trans l9
      refine tend S9 l90 ⟨by tb_rel, _, _, _, by tb_rel, hb0, by omega, ys ++ [Value.ref R2], _, _, grs ++ [gs], rfl, papp (trmono l90 hys) (.cons ⟨_, zs, _, rfl, upd_same _ _ _, tmono l9 hzs⟩ .nil), by simp [hgl], fun j r hr => ?_⟩
      by_cases hj : j < grs.length
      · rw [List.getElem?_append_left hj] at hr; exact hgr j r hr
      · have hj2 : j = i := by
          have := (List.getElem?_eq_some_iff.mp hr).1
          rw [List.length_append, List.length_singleton] at this; omega
        subst hj2
        rw [List.getElem?_append_right (by omega), hgl, Nat.sub_self] at hr
        cases hr
        exact ⟨by omega, fun g hg => (hgok g hg).1, hgp⟩
  · rintro σ' m' μ' h4 tk4 l4 ⟨m1, R, at_, t', m2, ha0, ha1, ys, kk, kT, grs, rfl, hys, hgl, hgr⟩ S4
    repeat' (first | walk1 | (dsimp only; walk1))
    have S5 := S4.freeze
    refine h _ ys _ grs _ _ _ at_ t' kT S5.leaveX (S5.mu _ (.head _)).1 ⟨ha0, by omega⟩ (upd_same _ _ _) (trmono (upd_le (S4.mu _ (.head _)).2.2.2) hys) ⟨by omega, hgr⟩
end



def IsBox (part : List G) (b : Bx) : Prop := (b.a ∈ part.map (·.x) ∧ ∀ z ∈ part.map (·.x), b.a ≤ z) ∧ (∃ g r, part = g :: r ∧ b.b = g.y ∧ b.d ∈ part.map (fun q => g.y + q.s) ∧ ∀ z ∈ part.map (fun q => g.y + q.s), z ≤ b.d) ∧ b.c ∈ part.map (fun q => q.x + q.w) ∧ ∀ z ∈ part.map (fun q => q.x + q.w), z ≤ b.c
def TolR (σ : PM) (v : Value) (n : Int) : Prop := ∃ a t1 t2, v = .ref a ∧ σ a = some ({ cls := .type "tuple", data := .seq #[.int n t1, .int 0 t2] } : Obj)
theorem TolR.mono {σ σ' : PM} {v : Value} {n : Int} (d : TolR σ v n) (l : Le σ σ') : TolR σ' v n := let ⟨a, t1, t2, e, h⟩ := d; ⟨a, t1, t2, e, l _ _ h⟩
def LBoxR (σ : PM) (v : Value) (b : Bx) : Prop := ∃ a vs, v = .ref a ∧ σ a = some ({ cls := .type "tuple", data := .seq (vs : List Value).toArray } : Obj) ∧ Paired (TolR σ) vs [b.a, b.b, b.c, b.d]
theorem LBoxR.mono {σ σ' : PM} {v : Value} {b : Bx} (d : LBoxR σ v b) (l : Le σ σ') : LBoxR σ' v b := let ⟨a, vs, e, h, p⟩ := d; ⟨a, vs, e, l _ _ h, pmono (fun _ _ d => TolR.mono d l) p⟩
section
variable {w : World} {A : Around} {E : Value → Shared → Prop} {s : Shared} {σ : PM} {Q : Value → Shared → Prop}

theorem law_box_spec {l : Addr} {vs : List Value} {k : Nat} {gs : List G} {f la : Int} {tf tl : Tok} (hA : Rm A 4) (B : BaseS w σ) (hf : Le σ s.heap.get?) (hl : σ l = some (listOf vs.toArray k)) (hv : Paired (TupR σ) vs gs) (hn : vs.length ≤ 15) (hr : 0 ≤ f ∧ f ≤ la ∧ la < gs.length)
    (h : ∀ v b h' tk σ', Grow s.heap σ h' σ' → LBoxR σ' v b → IsBox ((gs.drop f.toNat).take (la.toNat + 1 - f.toNat)) b → Q v { s with heap := h', toks := tk }) :
    wpAny (model PySem.Challenge.rw_pb0474_01.row.prog w) A (call (.ref 291) [.ref l, .int f tf, .int la tl]) Q E s := by
  refine wpAny_call ?_
  refine' enterC (binds := [("row", .ref l), ("first", .int f tf), ("last", .int la tl)]) (fun L => [("low", L + 1)]) (setm (setm (setm m0 "row" (.ref l)) "first" (.int f tf)) "last" (.int la tl)) (m0) B hf ?ho ?hcd hA.room ?bind ?kind ?nd ?cl ?hm ?hcm ?co ?gen ?k ?_
  case ho => k_is
  case hcd => k_is
  case bind => exact BindsTo.of_eq rfl
  case kind => rfl
  case nd => decide +kernel
  case cl => intro L; rfl
  case hm => intro L; rfl
  case hcm => intro L; rfl
  case co => rfl
  case gen => rfl
  case k => rfl
  intro L h1 tk1 ob S hL hob
  dsimp only [List.map] at S
  have hc : (ob "low").data = .cell none := hob _ (.head _)
  clear hob
  have hlen := hv.length
  repeat' (first | walk1 | (dsimp only; walk1))
  refine slice_at (by assumption) (fro_get (by assumption) hl) (by omega) (.int f _) (.int (la + 1) _) (slice_run hr.1 hr.2.1 (by omega)) ?_
  intro D2 h2 σ2 l2 hD2 G2 S2
  have hpart : Paired (TupR σ2) ((vs.drop f.toNat).take (la.toNat + 1 - f.toNat)) ((gs.drop f.toNat).take (la.toNat + 1 - f.toNat)) := ptake _ (pdrop _ (tmono l2 hv))
  have hpl : ((vs.drop f.toNat).take (la.toNat + 1 - f.toNat)).length ≤ 15 := by rw [List.length_take, List.length_drop]; omega
  have hpn : (gs.drop f.toNat).take (la.toNat + 1 - f.toNat) ≠ [] := fun e => by
    have := congrArg List.length e
    rw [List.length_take, List.length_drop, List.length_nil] at this
    omega
  generalize (vs.drop f.toNat).take (la.toNat + 1 - f.toNat) = pv at hD2 hpart hpl
  generalize (gs.drop f.toNat).take (la.toNat + 1 - f.toNat) = pg at hpart hpn h
  have hpp := hpart.length
  obtain ⟨v0, vr, g, gr, ev, eg, b0, p1, p2, p3, p4, p5, rfl, hb0⟩ := pcons hpart hpn
  repeat' (first | walk1 | (dsimp only; walk1))
  refine n_item (x := .ref b0) (fro_get (by assumption) hD2) (by decide) (by decide) (by rw [ev]; rfl) ?_ (by with_unfolding_all rfl) (by intro _; with_unfolding_all rfl)
  repeat' (first | walk1 | (dsimp only; walk1))
  refine n_titem (vs := [.str g.t p1, .int g.x p2, .int g.y p3, .int g.w p4, .int g.s p5]) (fro_get (by assumption) hb0) (by decide) (by decide) rfl rfl ?_ (by with_unfolding_all rfl)
  repeat' (first | walk1 | (dsimp only; walk1))
  rename_i h6 o6 d6 S6
  refine comp1S (src_list (hd_deeper hA.hd) S6 hD2) S6 (by decide) rfl (by omega) (fun i σ' ys => σ2 = σ' ∧ Paired IntV ys ((pg.take i).map (·.x))) ⟨rfl, .nil⟩ ?_ ?_
  · rintro C D i v _ m'' ys kk κ' h4 tk4 hi hvi hl4 hk4 ⟨rfl, hys⟩ S4
    obtain ⟨q, hq, a, t1, t2, t3, t4, t5, rfl, ha⟩ := pat hpart hvi
    repeat' (first | walk1 | (dsimp only; walk1))
    refine n_titem (vs := [.str q.t t1, .int q.x t2, .int q.y t3, .int q.w t4, .int q.s t5]) (fro_get (by assumption) ha) (by decide) (by decide) rfl rfl ?_ (by with_unfolding_all rfl)
    refine eend (by assumption) (by tb_start) ⟨rfl, ?_⟩
    rw [take_snoc hq, List.map_append]
    exact papp hys (.cons ⟨_, rfl⟩ .nil)
  rintro D10 _ σ10 ys10 kk10 h10 tk10 lp10 ⟨rfl, hys10⟩ hD10 G10 S10
  rw [take_all hpart] at hys10
  have zg : 0 < pg.length := by rw [eg]; simp
  dsimp only
  repeat' (first | walk1 | (dsimp only; walk1))
  refine' n_min ?S101 ?S102 ?S103 ?S104 ?S105 ?_
  case S101 => exact hd_deeper hA.hd
  case S102 => exact S10
  case S103 => exact hD10
  case S104 => exact hys10
  case S105 => (rw [List.length_map]; exact zg)
  intro h11 M1 t11 tk11 S11 mn1 mn2
  repeat' (first | walk1 | (dsimp only; walk1))
  replace hD2 := lp10 _ _ hD2
  replace hpart := tmono lp10 hpart
  refine comp1S (src_list (hd_deeper hA.hd) S11 hD2) S11 (by decide) rfl (by omega) (fun i σ' ys => Paired IntV ys ((pg.take i).map (fun q => q.x + q.w))) .nil ?_ ?_
  · rintro C D i v σ' m'' ys kk κ' h4 tk4 hi hvi hl4 hk4 hys S4
    obtain ⟨q, hq, a, t1, t2, t3, t4, t5, rfl, ha⟩ := pat hpart hvi
    repeat' (first | walk1 | (dsimp only; walk1))
    refine n_titem (vs := [.str q.t t1, .int q.x t2, .int q.y t3, .int q.w t4, .int q.s t5]) (fro_get (by assumption) (hl4 _ _ ha)) (by decide) (by decide) rfl rfl ?_ (by with_unfolding_all rfl)
    repeat' (first | walk1 | (dsimp only; walk1))
    refine n_titem (vs := [.str q.t t1, .int q.x t2, .int q.y t3, .int q.w t4, .int q.s t5]) (fro_get (by assumption) (hl4 _ _ ha)) (by decide) (by decide) rfl rfl ?_ (by with_unfolding_all rfl)
    repeat' (first | walk1 | (dsimp only; walk1))
    refine eend (by assumption) (by tb_start) ?_
    rw [take_snoc hq, List.map_append]
    exact papp hys (.cons ⟨_, rfl⟩ .nil)
  intro D20 σp20 σ20 ys20 kk20 h20 tk20 lp20 hys20 hD20 G20 S20
  rw [take_all hpart] at hys20
  have l20 := G20.sub
  dsimp only
  repeat' (first | walk1 | (dsimp only; walk1))
  refine' n_max ?S201 ?S202 ?S203 ?S204 ?S205 ?_
  case S201 => exact hd_deeper hA.hd
  case S202 => exact S20
  case S203 => exact hD20
  case S204 => exact hys20
  case S205 => (rw [List.length_map]; exact zg)
  intro h21 M2 t21 tk21 S21 mx1 mx2
  repeat' (first | walk1 | (dsimp only; walk1))
  replace hD2 := l20 _ _ hD2
  replace hpart := tmono l20 hpart
  refine comp1S (src_list (hd_deeper hA.hd) S21 hD2) S21 (by decide) rfl (by omega) (fun i σ' ys => Paired IntV ys ((pg.take i).map (fun q => g.y + q.s))) .nil ?_ ?_
  · rintro C D i v σ' m'' ys kk κ' h4 tk4 hi hvi hl4 hk4 hys S4
    obtain ⟨q, hq, a, t1, t2, t3, t4, t5, rfl, ha⟩ := pat hpart hvi
    have hcell := hk4 _ _ (mu_get S21 (.head _))
    repeat' (first | walk1 | (dsimp only; walk1))
    refine n_titem (vs := [.str q.t t1, .int q.x t2, .int q.y t3, .int q.w t4, .int q.s t5]) (fro_get (by assumption) (hl4 _ _ ha)) (by decide) (by decide) rfl rfl ?_ (by with_unfolding_all rfl)
    repeat' (first | walk1 | (dsimp only; walk1))
    refine eend (by assumption) (by tb_start) ?_
    rw [take_snoc hq, List.map_append]
    exact papp hys (.cons ⟨_, rfl⟩ .nil)
  intro D30 σp30 σ30 ys30 kk30 h30 tk30 lp30 hys30 hD30 G30 S30
  rw [take_all hpart] at hys30
  have l30 := G30.sub
  dsimp only
  repeat' (first | walk1 | (dsimp only; walk1))
  refine' n_max ?S301 ?S302 ?S303 ?S304 ?S305 ?_
  case S301 => exact hd_deeper hA.hd
  case S302 => exact S30
  case S303 => exact hD30
  case S304 => exact hys30
  case S305 => (rw [List.length_map]; exact zg)
  intro h31 M3 t31 tk31 S31 my1 my2
  repeat' (first | walk1 | (dsimp only; walk1))
  rename_i a40 h40 σ40 l40 t40 g40 S40 h41 S41
  have hfour : Paired IntV [Value.int M1 t11, Value.int g.y p3, Value.int M2 t21, Value.int M3 t31] [M1, g.y, M2, M3] := .cons ⟨_, rfl⟩ (.cons ⟨_, rfl⟩ (.cons ⟨_, rfl⟩ (.cons ⟨_, rfl⟩ .nil)))
  refine comp1S (src_tuple (vs := [Value.int M1 t11, Value.int g.y p3, Value.int M2 t21, Value.int M3 t31]) (hd_deeper hA.hd) S41 t40) S41 (by decide) rfl (by simp) (fun i σ' ys => Paired (TolR σ') ys ([M1, g.y, M2, M3].take i)) .nil ?_ ?_
  · rintro C D i v σ' m'' ys kk κ' h4 tk4 hi hvi hl4 hk4 hys S4
    obtain ⟨q, hq, t1, rfl⟩ := pat hfour hvi
    repeat' (first | walk1 | (dsimp only; walk1))
    rename_i t50 S50 l50
    refine eend (by assumption) (by tb_start) ?_
    rw [take_snoc hq]
    exact papp (pmono (fun _ _ d => TolR.mono d (by tb_start)) hys) (.cons ⟨_, _, _, rfl, t50⟩ .nil)
  intro D50 σp50 σ50 ys50 kk50 h50 tk50 lp50 hys50 hD50 G50 S50
  replace hys50 : Paired (TolR σ50) ys50 [M1, g.y, M2, M3] := pmono (fun _ _ d => TolR.mono d lp50) hys50
  have z50 := hys50.length
  dsimp only
  repeat' (first | walk1 | (dsimp only; walk1))
  refine n_tuplel (by assumption) (fro_get (by assumption) hD50) (by rw [z50]; simp) ?_
  intro D60 h60 σ60 l60 hD60 G60 S60
  refine h _ ⟨M1, g.y, M2, M3⟩ _ _ _ S60.leave ⟨_, _, rfl, hD60, pmono (fun _ _ d => TolR.mono d l60) hys50⟩ ⟨⟨mn1, mn2⟩, ⟨g, gr, eg, rfl, my1, my2⟩, mx1, mx2⟩
end

def LSgR (σ : PM) (v : Value) (x : Str × Int) : Prop := ∃ a t u, v = .ref a ∧ σ a = some ({ cls := .type "tuple", data := .seq #[.str x.1 t, .int x.2 u] } : Obj)
theorem LSgR.mono {σ σ' : PM} {v : Value} {x : Str × Int} (d : LSgR σ v x) (l : Le σ σ') : LSgR σ' v x := let ⟨a, t, u, e, h⟩ := d; ⟨a, t, u, e, l _ _ h⟩
theorem lmono {σ σ' : PM} {vs : List Value} {ns : List (Str × Int)} (l : Le σ σ') (p : Paired (LSgR σ) vs ns) : Paired (LSgR σ') vs ns := pmono (fun _ _ d => LSgR.mono d l) p
theorem LSgR.mk {σ : PM} {a : Addr} {x : Str} {i : Int} {t u : Tok} (h : σ a = some ({ cls := .type "tuple", data := .seq [.str x t, .int i u].toArray } : Obj)) : LSgR σ (.ref a) (x, i) := ⟨a, t, u, rfl, h⟩
def ltext (g : G) : Str := Txt.replace g.t ("\u00a0" : Str) (" " : Str)
def lfresh (g : G) (i : Int) : List (Str × Int) := (ltext g).cps.toList.map fun c => ((⟨#[c]⟩ : Str), i)
def lgap (b g : G) (tn : Int) : Bool := decide (tn * b.s < 10 * (g.x - b.x - b.w))
def lineTo (gs : List G) (tn : Int) : Nat → List (Str × Int)
  | 0 => []
  | i + 1 => lineTo gs tn i ++ (if 0 < i ∧ lgap (gs.getD (i - 1) g0) (gs.getD i g0) tn = true then [((" " : Str), (i : Int))] else []) ++ lfresh (gs.getD i g0) i
theorem lineTo_len {gs : List G} (tn : Int) (hg : ∀ g ∈ gs, (ltext g).cps.size ≤ 3) : ∀ i, i ≤ gs.length → (lineTo gs tn i).length ≤ 4 * i
  | 0, _ => Nat.le_refl _
  | i + 1, h => by
    have ih := lineTo_len tn hg i (by omega)
    have hd : (ltext (gs.getD i g0)).cps.size ≤ 3 := by
      rw [List.getD_eq_getElem?_getD, List.getElem?_eq_getElem (by omega)]; exact hg _ (List.getElem_mem _)
    unfold lineTo
    rw [List.length_append, List.length_append]
    have e : (lfresh (gs.getD i g0) i).length = (ltext (gs.getD i g0)).cps.size := by simp [lfresh]
    have : (if 0 < i ∧ lgap (gs.getD (i - 1) g0) (gs.getD i g0) tn = true then [((" " : Str), (i : Int))] else []).length ≤ 1 := by split <;> simp
    omega
structure LWt where
  words : List (Str × List G)
  run : List (Str × Int)
def lpart (gs : List G) (run : List (Str × Int)) : List G := (gs.drop (run.headD ((" " : Str), 0)).2.toNat).take ((run.getLastD ((" " : Str), 0)).2.toNat + 1 - (run.headD ((" " : Str), 0)).2.toNat)
def lStep (gs : List G) (st : LWt) (x : Str × Int) : LWt :=
  if (x.1 != (" " : Str)) = true then ⟨st.words, st.run ++ [x]⟩
  else if st.run = [] then st else ⟨st.words ++ [(Txt.join ("" : Str) (st.run.map (·.1)), lpart gs st.run)], []⟩
def lw0 : LWt := ⟨[], []⟩
def lwordsOf (gs : List G) (tn : Int) : List (Str × List G) := ((lineTo gs tn gs.length ++ [((" " : Str), (0 : Int))]).foldl (lStep gs) lw0).words
def LWordR (σ : PM) (v : Value) (x : Str × List G) : Prop := ∃ a t vb b, v = .ref a ∧ σ a = some ({ cls := .type "tuple", data := .seq #[.str x.1 t, vb] } : Obj) ∧ LBoxR σ vb b ∧ IsBox x.2 b
theorem LWordR.mono {σ σ' : PM} {v : Value} {x : Str × List G} (d : LWordR σ v x) (l : Le σ σ') : LWordR σ' v x := let ⟨a, t, vb, b, e, h, k, z⟩ := d; ⟨a, t, vb, b, e, l _ _ h, k.mono l, z⟩
theorem lwmono {σ σ' : PM} {vs : List Value} {ns : List (Str × List G)} (l : Le σ σ') (p : Paired (LWordR σ) vs ns) : Paired (LWordR σ') vs ns := pmono (fun _ _ d => LWordR.mono d l) p
theorem rise_line (gs : List G) (tn : Int) : ∀ i, Rise i (lineTo gs tn i)
  | 0 => ⟨.nil, fun _ h => nomatch h⟩
  | i + 1 => by
    have ih := rise_line gs tn i
    have fr : ∀ x ∈ lfresh (gs.getD i g0) i, x.2 = i := fun x hx => by
      obtain ⟨c, _, rfl⟩ := List.mem_map.mp hx; rfl
    unfold lineTo
    have gap : ∀ x ∈ (if 0 < i ∧ lgap (gs.getD (i - 1) g0) (gs.getD i g0) tn = true then [((" " : Str), (i : Int))] else []), x.1 = (" " : Str) := fun x hx => by
      split at hx
      · rw [List.mem_singleton.mp hx]
      · cases hx
    refine ⟨List.pairwise_append.mpr ⟨List.pairwise_append.mpr ⟨ih.1, ?_, ?_⟩, ?_, ?_⟩, ?_⟩
    · split <;> simp
    · intro a _ b hb _ q; exact absurd (gap b hb) q
    · refine List.pairwise_iff_getElem.mpr fun a b ha hb _ _ _ => ?_
      rw [fr _ (List.getElem_mem ha), fr _ (List.getElem_mem hb)]; exact Int.le_refl _
    · intro a ha b hb qa qb
      rw [fr b hb]
      rcases List.mem_append.mp ha with ha | ha
      · have := (ih.2 a ha qa).2; omega
      · exact absurd (gap a ha) qa
    · intro x hx qx
      rcases List.mem_append.mp hx with hx | hx
      · rcases List.mem_append.mp hx with hx | hx
        · have := ih.2 x hx qx; omega
        · exact absurd (gap x hx) qx
      · rw [fr x hx]; omega
theorem rise_end {n : Nat} {xs : List (Str × Int)} {y : Int} (r : Rise n xs) : Rise n (xs ++ [((" " : Str), y)]) :=
  ⟨List.pairwise_append.mpr ⟨r.1, by simp, fun a _ b hb _ q => by rw [List.mem_singleton.mp hb] at q; exact absurd rfl q⟩, fun x hx q => by
    rcases List.mem_append.mp hx with hx | hx
    · exact r.2 x hx q
    · rw [List.mem_singleton.mp hx] at q; exact absurd rfl q⟩
structure LOk (xs : List (Str × Int)) (st : LWt) : Prop where
  from_ : ∀ p ∈ st.run, p ∈ xs ∧ p.1 ≠ (" " : Str)
  pw : st.run.Pairwise fun a b => a.2 ≤ b.2
theorem lok_step {n : Nat} {xs : List (Str × Int)} {x : Str × Int} {st : LWt} (gs : List G) (o : LOk xs st) (r : Rise n (xs ++ [x])) : LOk (xs ++ [x]) (lStep gs st x) := by
  unfold lStep
  split
  · rename_i q
    have q' : x.1 ≠ (" " : Str) := by simpa using q
    refine ⟨fun p hp => ?_, ?_⟩
    · rcases List.mem_append.mp hp with hp | hp
      · exact ⟨List.mem_append_left _ (o.from_ p hp).1, (o.from_ p hp).2⟩
      · rw [List.mem_singleton.mp hp]; exact ⟨by simp, q'⟩
    · refine List.pairwise_append.mpr ⟨o.pw, by simp, fun p hp b hb => ?_⟩
      rw [List.mem_singleton.mp hb]
      exact (List.pairwise_append.mp r.1).2.2 p (o.from_ p hp).1 x (by simp) (o.from_ p hp).2 q'
  · split
    · exact ⟨fun p hp => ⟨List.mem_append_left _ (o.from_ p hp).1, (o.from_ p hp).2⟩, o.pw⟩
    · exact ⟨fun p hp => (nomatch hp), List.Pairwise.nil⟩
theorem lok_take {n : Nat} {xs : List (Str × Int)} (gs : List G) (r : Rise n xs) : ∀ i, i ≤ xs.length → LOk (xs.take i) ((xs.take i).foldl (lStep gs) lw0)
  | 0, _ => ⟨fun p hp => by simp [lw0] at hp, by simp [lw0]⟩
  | i + 1, h => by
    have ih := lok_take gs r i (by omega)
    have e : xs.take (i + 1) = xs.take i ++ [xs[i]'(by omega)] := take_snoc (by simp)
    rw [e, List.foldl_append]
    refine lok_step gs ih (n := n) ?_
    rw [← e]
    exact ⟨r.1.sublist (List.take_sublist _ _), fun x hx => r.2 x (List.mem_of_mem_take hx)⟩
theorem lok_part {n : Nat} {xs ys : List (Str × Int)} {st : LWt} {p q : Str × Int} {ps qs : List (Str × Int)} (o : LOk xs st) (r : Rise n (xs ++ ys)) (e1 : st.run = p :: ps) (e2 : st.run = qs ++ [q]) : 0 ≤ p.2 ∧ p.2 ≤ q.2 ∧ q.2 < n := by
  have mem : ∀ p ∈ st.run, 0 ≤ p.2 ∧ p.2 < n := fun p hp => r.2 p (List.mem_append_left _ (o.from_ p hp).1) (o.from_ p hp).2
  have pw := o.pw
  have hm : q ∈ st.run := by rw [e2]; simp
  refine ⟨(mem p (by rw [e1]; exact .head _)).1, ?_, (mem _ hm).2⟩
  rw [e1] at pw hm
  rcases List.mem_cons.mp hm with rfl | hm
  · exact Int.le_refl _
  · exact List.rel_of_pairwise_cons pw hm
theorem llen (gs : List G) : ∀ (xs : List (Str × Int)) (st : LWt), (xs.foldl (lStep gs) st).words.length ≤ xs.length + st.words.length ∧ (xs.foldl (lStep gs) st).run.length ≤ xs.length + st.run.length
  | [], st => by simp
  | x :: r, st => by
    have ih := llen gs r (lStep gs st x)
    have e : (lStep gs st x).words.length ≤ st.words.length + 1 ∧ (lStep gs st x).run.length ≤ st.run.length + 1 := by
      unfold lStep
      split
      · simp
      · split <;> simp
    rw [List.foldl_cons, List.length_cons]
    omega
theorem perm4 {α : Type} (a b c d : α) : [c, a, d, b].Perm [a, b, c, d] :=
  (List.Perm.swap a c [d, b]).trans (List.Perm.cons a (List.perm_append_comm (l₁ := [c, d]) (l₂ := [b])))
theorem line_one (gs : List G) (tn : Int) : ∀ i, ∀ x ∈ lineTo gs tn i, x.1.length ≤ 1
  | 0, _, h => nomatch h
  | i + 1, x, h => by
    unfold lineTo at h
    rcases List.mem_append.mp h with h | h
    · rcases List.mem_append.mp h with h | h
      · exact line_one gs tn i x h
      · split at h
        · rw [List.mem_singleton.mp h]; exact (by decide : (" " : Str).length ≤ 1)
        · cases h
    · obtain ⟨c, _, rfl⟩ := List.mem_map.mp h
      exact Nat.le_refl _
theorem sum_one : ∀ (l : List Str), (∀ x ∈ l, x.length ≤ 1) → (l.map (·.length)).sum ≤ l.length
  | [], _ => Nat.le_refl _
  | x :: r, h => by
    have := sum_one r fun y hy => h y (.tail _ hy)
    have := h x (.head _)
    rw [List.map_cons, List.sum_cons, List.length_cons]; omega
theorem strs_of : ∀ {vs : List Value} {ys : List Str}, Paired StrV vs ys → StrsAre vs ys
  | _, _, .nil => .nil
  | _, _, .cons ⟨t, e⟩ r => e ▸ .cons _ t (strs_of r)

local macro_rules | `(tactic| walk_at "call ref") => `(tactic| ((with_reducible show wpAny _ _ (call (Value.ref 291) _ _) _ _ _); (refine at_St (by assumption) (fun B' f' => ?_)); (refine law_box_spec (Rm.call (by assumption) (by decide)) B' f' (by assumption) (by assumption) (by assumption) (by assumption) ?_); clear B' f'; intro v' b' h' tk' s' G' D' b2'; (have S' := St.grow (by assumption) G'); (have l' := Grow.sub G')))

section
variable {w : World} {A : Around} {E : Value → Shared → Prop} {s : Shared} {σ : PM} {Q : Value → Shared → Prop}

theorem law_words_spec {l : Addr} {vs : List Value} {k : Nat} {gs : List G} {t0 : Tok} {tn : Int} (hA : Rm A 6) (B : BaseS w σ) (hf : Le σ s.heap.get?) (hl : σ l = some (listOf vs.toArray k)) (hv : Paired (TupR σ) vs gs) (hn : vs.length ≤ 15)
    (hk : 0 ≤ tn ∧ tn < 100) (hg : ∀ g ∈ gs, g.t.cps.size ≤ 3 ∧ (ltext g).cps.size ≤ 3)
    (h : ∀ a ys k' h' tk σ', Grow s.heap σ h' σ' → σ' a = some (listOf (ys : List Value).toArray k') → Paired (LWordR σ') ys (lwordsOf gs tn) → Q (.ref a) { s with heap := h', toks := tk }) :
    wpAny (model PySem.Challenge.rw_pb0474_01.row.prog w) A (call (.ref 296) [.ref l, .int tn t0]) Q E s := by
  refine wpAny_call ?_
  refine' enterC (binds := [("row", .ref l), ("tenths", .int tn t0)]) (fun L => [("at", L + 1)]) (setm (setm m0 "row" (.ref l)) "tenths" (.int tn t0)) (m0) B hf ?ho ?hcd hA.room ?bind ?kind ?nd ?cl ?hm ?hcm ?co ?gen ?k ?_
  case ho => k_is
  case hcd => k_is
  case bind => exact BindsTo.of_eq rfl
  case kind => rfl
  case nd => decide +kernel
  case cl => intro L; rfl
  case hm => intro L; rfl
  case hcm => intro L; rfl
  case co => rfl
  case gen => rfl
  case k => rfl
  intro L h1 tk1 ob S hL hob
  dsimp only [List.map] at S
  have hc : (ob "at").data = .cell none := hob _ (.head _)
  clear hob
  have hlen := hv.length
  repeat' (first | walk1 | (dsimp only; walk1))
  refine loopS (src_range0 (hd_deeper hA.hd) (by assumption) (by omega)) (by assumption) (fun i σ' m' μ' => m' "row" = some (.ref l) ∧ m' "tenths" = some (.int tn t0) ∧ ∃ Ln ys kk o1 v1, m' "line" = some (.ref Ln) ∧ μ' = [(Ln, listOf (ys : List Value).toArray kk), (L + 1, o1)] ∧ o1.data = .cell v1 ∧ Paired (LSgR σ') ys (lineTo gs tn i))
    ⟨by tb_rel, by tb_rel, _, [], _, _, _, by tb_rel, rfl, hc, .nil⟩ ?_ ?_
  · rintro i v σ' m' μ' κ' h3 tk3 hi ⟨ti, rfl⟩ hl3 ⟨m1, m2, Ln, ys, kk, o1, v1, m3, rfl, d1, hys⟩ S3
    obtain ⟨v, hvi⟩ : ∃ v, vs[i]? = some v := ⟨vs[i]'(by omega), by simp⟩
    obtain ⟨g, hg', a0, p1, p2, p3, p4, p5, rfl, hb0⟩ := pat hv hvi
    have hgm := hg g (List.mem_of_getElem? hg')
    have hl' := hl3 _ _ hl
    have hb1 := hl3 _ _ hb0
    have z1 := hys.length
    have z2 := lineTo_len tn (fun g hg' => (hg g hg').2) i (by omega)
    have eg : gs.getD i g0 = g := by rw [List.getD_eq_getElem?_getD, hg']; rfl
    have grow : lineTo gs tn (i + 1) = lineTo gs tn i ++ (if 0 < i ∧ lgap (gs.getD (i - 1) g0) g tn = true then [((" " : Str), (i : Int))] else []) ++ lfresh g i := by rw [← eg]; rfl
    repeat' (first | walk1 | (dsimp only; walk1))
    refine n_item (x := .ref a0) (fro_get (by assumption) hl') (by omega) (by omega) (by simpa using hvi) ?_ (by with_unfolding_all rfl) (by intro _; with_unfolding_all rfl)
    repeat' (first | walk1 | (dsimp only; walk1))
    refine n_titem (vs := [.str g.t p1, .int g.x p2, .int g.y p3, .int g.w p4, .int g.s p5]) (fro_get (by assumption) hb1) (by decide) (by decide) rfl rfl ?_ (by with_unfolding_all rfl)
    repeat' (first | walk1 | (dsimp only; walk1))
    refine' SC.replace ?ru ?rv ?ruv ?ryz ?rb ?_
    case ru => exact Nat.succ_ne_zero _
    case rv => exact Nat.succ_ne_zero _
    case ruv => exact Nat.ne_of_lt (Nat.lt_succ_self _)
    case ryz => decide
    case rb =>
      have := hgm.1
      show g.t.cps.size + (g.t.cps.size + 1) * 1 ≤ _
      omega
    intro t7 k7
    repeat' (first | walk1 | (dsimp only; walk1))
    · have hi0 : 0 < i := by omega
      obtain ⟨vp, hvp⟩ : ∃ v, vs[i - 1]? = some v := ⟨vs[i - 1]'(by omega), by simp⟩
      obtain ⟨gp, hgp', ap, q1, q2, q3, q4, q5, rfl, hbp⟩ := pat hv hvp
      replace hbp := hl3 _ _ hbp
      have egp : gs.getD (i - 1) g0 = gp := by rw [List.getD_eq_getElem?_getD, hgp']; rfl
      rw [egp] at grow
      refine n_item (x := .ref a0) (fro_get (by assumption) hl') (by omega) (by omega) (by simpa using hvi) ?_ (by with_unfolding_all rfl) (by intro _; with_unfolding_all rfl)
      repeat' (first | walk1 | (dsimp only; walk1))
      refine n_titem (vs := [.str g.t p1, .int g.x p2, .int g.y p3, .int g.w p4, .int g.s p5]) (fro_get (by assumption) hb1) (by decide) (by decide) rfl rfl ?_ (by with_unfolding_all rfl)
      repeat' (first | walk1 | (dsimp only; walk1))
      refine n_item (x := .ref ap) (fro_get (by assumption) hl') (by omega) (by omega) (by rw [show ((i : Int) - 1).toNat = i - 1 from by omega]; exact hvp) ?_ (by with_unfolding_all rfl) (by intro _; with_unfolding_all rfl)
      repeat' (first | walk1 | (dsimp only; walk1))
      refine n_titem (vs := [.str gp.t q1, .int gp.x q2, .int gp.y q3, .int gp.w q4, .int gp.s q5]) (fro_get (by assumption) hbp) (by decide) (by decide) rfl rfl ?_ (by with_unfolding_all rfl)
      repeat' (first | walk1 | (dsimp only; walk1))
      refine n_item (x := .ref ap) (fro_get (by assumption) hl') (by omega) (by omega) (by rw [show ((i : Int) - 1).toNat = i - 1 from by omega]; exact hvp) ?_ (by with_unfolding_all rfl) (by intro _; with_unfolding_all rfl)
      repeat' (first | walk1 | (dsimp only; walk1))
      refine n_titem (vs := [.str gp.t q1, .int gp.x q2, .int gp.y q3, .int gp.w q4, .int gp.s q5]) (fro_get (by assumption) hbp) (by decide) (by decide) rfl rfl ?_ (by with_unfolding_all rfl)
      repeat' (first | walk1 | (dsimp only; walk1))
      refine n_item (x := .ref ap) (fro_get (by assumption) hl') (by omega) (by omega) (by rw [show ((i : Int) - 1).toNat = i - 1 from by omega]; exact hvp) ?_ (by with_unfolding_all rfl) (by intro _; with_unfolding_all rfl)
      repeat' (first | walk1 | (dsimp only; walk1))
      refine n_titem (vs := [.str gp.t q1, .int gp.x q2, .int gp.y q3, .int gp.w q4, .int gp.s q5]) (fro_get (by assumption) hbp) (by decide) (by decide) rfl rfl ?_ (by with_unfolding_all rfl)
      repeat' (first | walk1 | (dsimp only; walk1))
      · rename_i hcmp ax hax σax lax tax gax Sax hay kay Say
        have hgap : lgap gp g tn = true := decide_eq_true (by omega)
        refine comp1S (src_str (hd_deeper hA.hd)) (by assumption) (by decide) rfl (by have := hgm.2; show (ltext g).cps.size ≤ 1000; omega) (fun j σ'' zs => Paired (LSgR σ'') zs ((lfresh g i).take j)) .nil ?_ ?_
        · rintro C D j v σ'' m'' zs kk2 κ'' h4 tk4 hj ⟨c, u, hc', rfl⟩ hl4 hk4 hzs S4
          have hcA := hk4 _ _ (mu_get (by assumption) (.tail _ (.head _)))
          repeat' (first | walk1 | (dsimp only; walk1))
          refine eend (by assumption) (by tb_start) ?_
          rw [take_snoc (x := ((⟨#[c]⟩ : Str), (i : Int))) (by have hc2 : (ltext g).cps[j]? = some c := hc'; simp [lfresh, hc2])]
          exact papp (lmono (by tb_start) hzs) (.cons (LSgR.mk (by assumption)) .nil)
        intro D20 σp20 σ20 zs20 kk20 h20 tk20 lp20 hzs20 hD20 G20 S20
        have hz20 : Paired (LSgR σ20) zs20 (lfresh g i) := by
          have e : (lfresh g i).length = (ltext g).cps.size := by simp [lfresh]
          rw [← List.take_length (l := lfresh g i), e]
          exact lmono lp20 hzs20
        have l20 := G20.sub
        have z20 : zs20.length ≤ 3 := by rw [hz20.length]; have := hgm.2; simp [lfresh]; exact this
        dsimp only
        refine' n_addlM ?qS ?qa ?qb ?qz ?_
        case qS => exact S20
        case qa => exact mu_get S20 (.head _)
        case qb => exact fro_get S20 hD20
        case qz => (simp; omega)
        intro D30 h30 S30 k30
        repeat' (first | walk1 | (dsimp only; walk1))
        rename_i h31 S31
        refine tend S31.drop1 (by tb_start) ⟨by tb_rel, by tb_rel, _, _, _, _, _, by tb_rel, rfl, by assumption, ?_⟩
        rw [grow, if_pos ⟨hi0, hgap⟩]
        exact papp (papp (lmono (lax.trans l20) hys) (.cons (LSgR.mk (l20 _ _ tax)) .nil)) hz20
      · rename_i hcmp
        have hgap : lgap gp g tn = false := decide_eq_false (by omega)
        refine comp1S (src_str (hd_deeper hA.hd)) (by assumption) (by decide) rfl (by have := hgm.2; show (ltext g).cps.size ≤ 1000; omega) (fun j σ'' zs => Paired (LSgR σ'') zs ((lfresh g i).take j)) .nil ?_ ?_
        · rintro C D j v σ'' m'' zs kk2 κ'' h4 tk4 hj ⟨c, u, hc', rfl⟩ hl4 hk4 hzs S4
          have hcA := hk4 _ _ (mu_get (by assumption) (.tail _ (.head _)))
          repeat' (first | walk1 | (dsimp only; walk1))
          refine eend (by assumption) (by tb_start) ?_
          rw [take_snoc (x := ((⟨#[c]⟩ : Str), (i : Int))) (by have hc2 : (ltext g).cps[j]? = some c := hc'; simp [lfresh, hc2])]
          exact papp (lmono (by tb_start) hzs) (.cons (LSgR.mk (by assumption)) .nil)
        intro D20 σp20 σ20 zs20 kk20 h20 tk20 lp20 hzs20 hD20 G20 S20
        have hz20 : Paired (LSgR σ20) zs20 (lfresh g i) := by
          have e : (lfresh g i).length = (ltext g).cps.size := by simp [lfresh]
          rw [← List.take_length (l := lfresh g i), e]
          exact lmono lp20 hzs20
        have l20 := G20.sub
        have z20 : zs20.length ≤ 3 := by rw [hz20.length]; have := hgm.2; simp [lfresh]; exact this
        dsimp only
        refine' n_addlM ?qS ?qa ?qb ?qz ?_
        case qS => exact S20
        case qa => exact mu_get S20 (.head _)
        case qb => exact fro_get S20 hD20
        case qz => omega
        intro D30 h30 S30 k30
        repeat' (first | walk1 | (dsimp only; walk1))
        rename_i h31 S31
        refine tend S31.drop1 (by tb_start) ⟨by tb_rel, by tb_rel, _, _, _, _, _, by tb_rel, rfl, by assumption, ?_⟩
        rw [grow, if_neg (fun q => by have := q.2; simp_all), List.append_nil]
        exact papp (lmono l20 hys) hz20
    · refine comp1S (src_str (hd_deeper hA.hd)) (by assumption) (by decide) rfl (by have := hgm.2; show (ltext g).cps.size ≤ 1000; omega) (fun j σ'' zs => Paired (LSgR σ'') zs ((lfresh g i).take j)) .nil ?_ ?_
      · rintro C D j v σ'' m'' zs kk2 κ'' h4 tk4 hj ⟨c, u, hc', rfl⟩ hl4 hk4 hzs S4
        have hcA := hk4 _ _ (mu_get (by assumption) (.tail _ (.head _)))
        repeat' (first | walk1 | (dsimp only; walk1))
        refine eend (by assumption) (by tb_start) ?_
        rw [take_snoc (x := ((⟨#[c]⟩ : Str), (i : Int))) (by have hc2 : (ltext g).cps[j]? = some c := hc'; simp [lfresh, hc2])]
        exact papp (lmono (by tb_start) hzs) (.cons (LSgR.mk (by assumption)) .nil)
      intro D20 σp20 σ20 zs20 kk20 h20 tk20 lp20 hzs20 hD20 G20 S20
      have hz20 : Paired (LSgR σ20) zs20 (lfresh g i) := by
        have e : (lfresh g i).length = (ltext g).cps.size := by simp [lfresh]
        rw [← List.take_length (l := lfresh g i), e]
        exact lmono lp20 hzs20
      have l20 := G20.sub
      have z20 : zs20.length ≤ 3 := by rw [hz20.length]; have := hgm.2; simp [lfresh]; exact this
      dsimp only
      refine' n_addlM ?qS ?qa ?qb ?qz ?_
      case qS => exact S20
      case qa => exact mu_get S20 (.head _)
      case qb => exact fro_get S20 hD20
      case qz => omega
      intro D30 h30 S30 k30
      repeat' (first | walk1 | (dsimp only; walk1))
      rename_i h31 S31
      refine tend S31.drop1 (by tb_start) ⟨by tb_rel, by tb_rel, _, _, _, _, _, by tb_rel, rfl, by assumption, ?_⟩
      rw [grow, if_neg (by omega), List.append_nil]
      exact papp (lmono l20 hys) hz20
  rintro σ' m' μ' h3 tk3 hl3 ⟨m1, m2, Ln, ys, kk, o1, v1, m3, rfl, d1, hys⟩ S3
  have z1 := hys.length
  have z2 := lineTo_len tn (fun g hg' => (hg g hg').2) vs.length (by omega)
  repeat' (first | walk1 | (dsimp only; walk1))
  rename_i aW hW1 SW1 lW1 hW2 SW2 aR hR1 SR1 lR1 hR2 SR2 a1 h1' s1 l1 t1 g1 S1 a0 h0 S0 l0
  refine' n_addl ?qS ?qa ?qb ?qz ?_
  case qS => exact S0
  case qa => exact mu_get S0 (.tail _ (.tail _ (.tail _ (.head _))))
  case qb => exact mu_get S0 (.head _)
  case qz => (simp; omega)
  intro D4 h4 σ4 l4 hD4 G4 S4
  replace S4 := (St.perm S4.drop0 (perm4 _ _ _ _)).drop0
  have hxs : Paired (LSgR σ4) (ys ++ [.ref a1]) (lineTo gs tn gs.length ++ [((" " : Str), (0 : Int))]) := by
    rw [← hlen]
    exact papp (lmono (l1.trans l4) hys) (.cons (LSgR.mk (l4 _ _ t1)) .nil)
  have hrise := rise_end (y := 0) (rise_line gs tn gs.length)
  have hone : ∀ x ∈ lineTo gs tn gs.length ++ [((" " : Str), (0 : Int))], x.1.length ≤ 1 := fun x hx => by
    rcases List.mem_append.mp hx with hx | hx
    · exact line_one gs tn _ x hx
    · rw [List.mem_singleton.mp hx]; decide
  have hwords : lwordsOf gs tn = ((lineTo gs tn gs.length ++ [((" " : Str), (0 : Int))]).foldl (lStep gs) lw0).words := rfl
  generalize lineTo gs tn gs.length ++ [((" " : Str), (0 : Int))] = xs at hxs hrise hwords hone
  have z3 : (ys ++ [Value.ref a1]).length ≤ 61 := by rw [List.length_append, z1]; simp; omega
  generalize ys ++ [Value.ref a1] = sg at hxs hD4 z3
  have z4 := hxs.length
  replace hl := (hl3.trans (l1.trans l4)) _ _ hl
  replace hv := tmono (hl3.trans (l1.trans l4)) hv
  refine loopS (src_list (hd_deeper hA.hd) S4 hD4) S4 (fun i σ' m' μ' => m' "row" = some (.ref l) ∧ ∃ R W ws kW rv kR o2 v2, m' "run" = some (.ref R) ∧ m' "words" = some (.ref W) ∧
      μ' = [(R, listOf (rv : List Value).toArray kR), (L + 1, o2), (W, listOf (ws : List Value).toArray kW)] ∧ o2.data = .cell v2 ∧ Paired (LWordR σ') ws ((xs.take i).foldl (lStep gs) lw0).words ∧ Paired (LSgR σ') rv ((xs.take i).foldl (lStep gs) lw0).run)
    ⟨by tb_rel, _, _, [], _, [], _, _, _, by tb_rel, by tb_rel, rfl, d1, .nil, .nil⟩ ?_ ?_
  · rintro i v σ' m' μ' κ' h5 tk5 hi hvi hl5 ⟨m1, R, W, ws, kW, rv, kR, o2, v2, m2, m3, rfl, d2, hws, hrv⟩ S5
    obtain ⟨x, hx, a5, t5, u5, rfl, h5'⟩ := pat hxs hvi
    replace h5' := hl5 _ _ h5'
    have est : (xs.take (i + 1)).foldl (lStep gs) lw0 = lStep gs ((xs.take i).foldl (lStep gs) lw0) x := by rw [take_snoc hx, List.foldl_append]; rfl
    have hok := lok_take gs hrise i (by omega)
    have hln := llen gs (xs.take i) lw0
    have hln2 : (xs.take i).length ≤ 61 := by rw [List.length_take]; omega
    generalize (xs.take i).foldl (lStep gs) lw0 = st at *
    have z5 := hws.length
    have z6 := hrv.length
    have z7 : lw0.words.length = 0 := rfl
    have z8 : lw0.run.length = 0 := rfl
    repeat' (first | walk1 | (dsimp only; walk1))
    · have hne : (x.1 != (" " : Str)) = true := by assumption
      rename_i hne2 a6 h6 σ6 l6 t6 g6 S6 h7 k7 S7
      refine tend S7 (by tb_start) ⟨by tb_rel, _, _, _, _, _, _, _, _, by tb_rel, by tb_rel, rfl, by assumption, ?_, ?_⟩
      · rw [est]; unfold lStep; rw [if_pos hne]; exact lwmono (by tb_start) hws
      · rw [est]; unfold lStep; rw [if_pos hne]; exact papp (lmono (by tb_start) hrv) (.cons (LSgR.mk t6) .nil)
    have hne : (x.1 != (" " : Str)) = false := by assumption
    rename_i hne2 aE hE SE lE
    refine n_ne_nil (mu_get (by assumption) (.tail _ (.head _))) (mu_get (by assumption) (.head _)) ?hun ?_
    case hun => exact (hA.call (j := 5) (by decide)).units
    replace SE := SE.drop0
    repeat' (first | walk1 | (dsimp only; walk1))
    · rename_i hemp
      have hrv0 : rv = [] := by simpa using hemp
      have hrun : st.run = [] := List.eq_nil_of_length_eq_zero (by rw [← z6, hrv0]; rfl)
      have e : lStep gs st x = st := by unfold lStep; rw [if_neg (by simp [hne]), if_pos hrun]
      refine tend SE (Le.refl _) ⟨by tb_rel, _, _, _, _, _, _, _, _, by tb_rel, by tb_rel, rfl, by assumption, ?_, ?_⟩
      · rw [est, e]; exact hws
      · rw [est, e]; exact hrv
    · rename_i hemp
      have hrv0 : rv ≠ [] := by simpa using hemp
      have hrun : st.run ≠ [] := fun e => hrv0 (List.eq_nil_of_length_eq_zero (by rw [z6, e]; rfl))
      have offR : σ' R = none := (SE.mu _ (.head _)).2.2.2
      have SF := SE.freeze
      have lF : Le σ' _ := upd_le (o := listOf rv.toArray kR) offR
      have hR := upd_same σ' R (listOf rv.toArray kR)
      generalize upd σ' R (listOf rv.toArray kR) = σF at SF lF hR
      replace hrv := lmono lF hrv
      replace hws := lwmono lF hws
      replace hl := (hl5.trans lF) _ _ hl
      replace hv := tmono (hl5.trans lF) hv
      refine comp1S (src_list (hd_deeper hA.hd) SF hR) SF (by decide) rfl (by omega) (fun j σ'' zs => Paired StrV zs ((st.run.take j).map (·.1))) .nil ?_ ?_
      · rintro C D j v σ'' m'' zs kk2 κ'' h4 tk4 hj hvj hl4 hk4 hzs S4
        obtain ⟨y, hy, ay, ty, uy, rfl, hay⟩ := pat hrv hvj
        repeat' (first | walk1 | (dsimp only; walk1))
        refine n_titem (vs := [.str y.1 ty, .int y.2 uy]) (fro_get (by assumption) (hl4 _ _ hay)) (by decide) (by decide) rfl rfl ?_ (by with_unfolding_all rfl)
        refine eend (by assumption) (by tb_start) ?_
        rw [take_snoc hy, List.map_append]
        exact papp hzs (.cons ⟨_, rfl⟩ .nil)
      intro D20 σp20 σ20 zs20 kk20 h20 tk20 lp20 hzs20 hD20 G20 S20
      rw [take_all hrv] at hzs20
      have l20 := G20.sub
      dsimp only
      repeat' (first | walk1 | (dsimp only; walk1))
      refine join_list ⟨_, fro_get S20 hD20, rfl, kk20, rfl⟩ (strs_of hzs20) ?hok ?_
      case hok =>
        have h1 := sum_one (st.run.map (·.1)) fun y hy => by
          obtain ⟨p, hp, rfl⟩ := List.mem_map.mp hy
          exact hone p (List.mem_of_mem_take (hok.from_ p hp).1)
        rw [List.length_map] at h1 ⊢
        have h2 : (("" : Str)).length = 0 := rfl
        rw [h2]
        omega
      intro t21 k21
      obtain ⟨v0, vr, p, pr, ev, ep, ap, tp, up, rfl, hap⟩ := pcons hrv hrun
      obtain ⟨vqs, vq, qs, q, ev2, eq2, aq, tq, uq, rfl, haq⟩ := psnoc hrv hrun
      have hpq := lok_part (ys := xs.drop i) hok (by rw [List.take_append_drop]; exact hrise) ep eq2
      have epart : lpart gs st.run = (gs.drop p.2.toNat).take (q.2.toNat + 1 - p.2.toNat) := by
        unfold lpart
        rw [show st.run.headD ((" " : Str), 0) = p from by rw [ep]; rfl, show st.run.getLastD ((" " : Str), 0) = q from by rw [eq2]; simp]
      replace hl := l20 _ _ hl
      replace hv := tmono l20 hv
      replace hR := l20 _ _ hR
      replace hap := l20 _ _ hap
      replace haq := l20 _ _ haq
      repeat' (first | walk1 | (dsimp only; walk1))
      refine n_item (x := .ref ap) (fro_get (by assumption) hR) (by decide) (by decide) (by rw [ev]; rfl) ?_ (by with_unfolding_all rfl) (by intro _; with_unfolding_all rfl)
      repeat' (first | walk1 | (dsimp only; walk1))
      refine n_titem (vs := [.str p.1 tp, .int p.2 up]) (fro_get (by assumption) hap) (by decide) (by decide) rfl rfl ?_ (by with_unfolding_all rfl)
      repeat' (first | walk1 | (dsimp only; walk1))
      refine n_itemneg (x := .ref aq) (fro_get (by assumption) hR) (by decide) (by rw [ev2]; simp; omega) (by decide) (by rw [ev2, show ((-1 : Int) + ((vqs ++ [Value.ref aq]).length : Int)).toNat = vqs.length from by simp; omega]; simp) ?_ (by with_unfolding_all rfl)
      repeat' (first | walk1 | (dsimp only; walk1))
      refine n_titem (vs := [.str q.1 tq, .int q.2 uq]) (fro_get (by assumption) haq) (by decide) (by decide) rfl rfl ?_ (by with_unfolding_all rfl)
      repeat' (first | walk1 | (dsimp only; walk1))
      rename_i vB bB hB tkB sB GB DB bB2 SB lB aT hT sT lT tT gT ST hP kP SP aN hN SN lN hZ SZ
      refine tend SZ (by tb_start) ⟨by tb_rel, _, _, _, _, [], _, _, _, by tb_rel, by tb_rel, rfl, by assumption, ?_, ?_⟩
      · rw [est]; unfold lStep; rw [if_neg (by simp [hne]), if_neg hrun]
        exact papp (lwmono (by tb_start) hws) (.cons ⟨aT, _, vB, bB, rfl, tT, DB.mono lT, by show IsBox (lpart gs st.run) bB; rw [epart]; exact bB2⟩ .nil)
      · rw [est]; unfold lStep; rw [if_neg (by simp [hne]), if_neg hrun]; exact .nil
  · rintro σ' m' μ' h5 tk5 hl5 ⟨m1, R, W, ws, kW, rv, kR, o2, v2, m2, m3, rfl, d2, hws, hrv⟩ S5
    repeat' (first | walk1 | (dsimp only; walk1))
    rw [z4, List.take_length] at hws
    have S6 := St.drop (μ' := [_, _]) S5
    exact h _ ws _ _ _ _ S6.freeze.leave (upd_same _ _ _) (by rw [hwords]; exact lwmono (upd_le (S6.mu _ (.head _)).2.2.2) hws)
end

open PySem.SeqAt

theorem fresh_all : ∀ t ∈ textsL, (t.cps.toList.map fun c => plainS ⟨#[c]⟩) = ((Txt.replace t ("\u00a0" : Str) (" " : Str)).cps.toList.map fun c => (⟨#[c]⟩ : Str)) := by decide +kernel
theorem texts_size : ∀ t ∈ textsL, t.cps.size ≤ 3 ∧ (Txt.replace t ("\u00a0" : Str) (" " : Str)).cps.size ≤ 3 := by decide +kernel
theorem texts_pos : ∀ t ∈ textsL, t ≠ ("" : Str) → 0 < t.cps.size := by decide +kernel
theorem fresh_eq {g : G} (h : g.t ∈ textsL) (i : Int) : freshOf g i = lfresh g i := by
  have e := congrArg (List.map fun x : Str => (x, i)) (fresh_all g.t h)
  rw [List.map_map, List.map_map] at e
  exact e
theorem gap_eq (b g : G) (k : Int) : apartB b g k = lgap b g k := by
  unfold apartB lgap
  rw [Int.mul_comm b.s k, Int.mul_comm (g.x - b.x - b.w) 10]
theorem jn (l : List Str) : Txt.join ("" : Str) l = Str.join ("" : Str) l := StrLaws.glued_eq_join _ _
theorem jn_cons (x : Str) (l : List Str) : Str.join ("" : Str) (x :: l) = x ++ Str.join ("" : Str) l := by
  cases l with
  | nil => exact (Str.append_empty x).symm
  | cons y r =>
    show x ++ ("" : Str) ++ _ = _
    rw [show ("" : Str) = Str.empty from rfl, Str.append_empty]
theorem jn_snoc (x : Str) : ∀ l : List Str, Str.join ("" : Str) (l ++ [x]) = Str.join ("" : Str) l ++ x
  | [] => (Str.empty_append x).symm
  | y :: r => by rw [List.cons_append, jn_cons, jn_cons, jn_snoc x r, Str.append_assoc]
theorem ap_ne {a b : Str} (h : a ≠ ("" : Str)) : a ++ b ≠ ("" : Str) := fun e => h (by
  have e' := congrArg (fun z : Str => z.cps.size) e
  simp only [Str.cps_append, Array.size_append] at e'
  have z : (("" : Str)).cps.size = 0 := rfl
  have : a.cps.size = 0 := by omega
  exact Str.ext' (Array.eq_empty_of_size_eq_zero this))
/-- the two machines stand alike -/
structure Sim (a : WSt) (b : LWt) : Prop where
  words : a.words = b.words.map fun y => (y.1, boxOf y.2)
  text : a.text = Str.join ("" : Str) (b.run.map (·.1))
  places : a.places = b.run.map (·.2)
  ne : ∀ p ∈ b.run, p.1 ≠ ("" : Str)
theorem sim_empty {a : WSt} {b : LWt} (s : Sim a b) : a.text = ("" : Str) ↔ b.run = [] := by
  rw [s.text]
  cases h : b.run with
  | nil => exact ⟨fun _ => rfl, fun _ => rfl⟩
  | cons p r =>
    refine ⟨fun e => ?_, fun e => (nomatch e)⟩
    rw [List.map_cons, jn_cons] at e
    exact absurd e (ap_ne (s.ne p (by rw [h]; exact .head _)))
theorem part_eq (gs : List G) (run : List (Str × Int)) : partOf gs (run.map (·.2)) = lpart gs run := by
  have e1 : (run.map (·.2)).headD 0 = (run.headD ((" " : Str), 0)).2 := by cases run <;> rfl
  have e2 : (run.map (·.2)).getLastD 0 = (run.getLastD ((" " : Str), 0)).2 := by
    rw [List.getLastD_eq_getLast?, List.getLastD_eq_getLast?, List.getLast?_map]
    cases run.getLast? <;> rfl
  unfold partOf lpart
  rw [e1, e2]
theorem sim_step {gs : List G} {a : WSt} {b : LWt} {x y : Str × Int} (s : Sim a b) (e : x.1 = y.1) (p : x.1 ≠ (" " : Str) → x.2 = y.2) (n : y.1 ≠ ("" : Str)) : Sim (wStep gs a x) (lStep gs b y) := by
  unfold wStep lStep
  rw [e]
  by_cases h : (y.1 != (" " : Str)) = true
  · rw [if_pos h, if_pos h]
    have h' : x.1 ≠ (" " : Str) := by rw [e]; simpa using h
    refine ⟨s.words, ?_, ?_, fun q hq => ?_⟩
    · show a.text ++ y.1 = _
      rw [s.text, List.map_append]; exact (jn_snoc _ _).symm
    · show a.places ++ [x.2] = _
      rw [s.places, p h', List.map_append]; rfl
    · rcases List.mem_append.mp hq with hq | hq
      · exact s.ne q hq
      · rw [List.mem_singleton.mp hq]; exact n
  · rw [if_neg h, if_neg h]
    by_cases r : b.run = []
    · rw [if_pos r, if_neg (by have := (sim_empty s).mpr r; simpa using this)]
      exact s
    · rw [if_neg r, if_pos (by have := fun q => r ((sim_empty s).mp q); simpa using this)]
      refine ⟨?_, rfl, rfl, fun q hq => (nomatch hq)⟩
      show a.words ++ [(a.text, boxOf (partOf gs a.places))] = _
      rw [List.map_append, s.words, s.text, s.places, part_eq, ← jn]; rfl
theorem sim_fold {gs : List G} : ∀ {F : List (Str × Int)} {a : WSt} {b : LWt}, Sim a b → (∀ x ∈ F, x.1 ≠ ("" : Str)) → Sim (F.foldl (wStep gs) a) (F.foldl (lStep gs) b)
  | [], _, _, s, _ => s
  | x :: r, _, _, s, h => sim_fold (F := r) (sim_step s rfl (fun _ => rfl) (h x (.head _))) fun y hy => h y (.tail _ hy)
theorem l_blank {gs : List G} {b : LWt} {i : Int} (h : b.run = []) : lStep gs b ((" " : Str), i) = b := by
  unfold lStep; rw [if_neg (by simp), if_pos h]
theorem l_run {gs : List G} {b : LWt} (x : Str × Int) : x.1 = (" " : Str) ↔ (lStep gs b x).run = [] := by
  unfold lStep
  by_cases h : x.1 = (" " : Str)
  · refine ⟨fun _ => ?_, fun _ => h⟩
    rw [if_neg (by simp [h])]
    split
    · assumption
    · rfl
  · refine ⟨fun q => absurd q h, fun q => ?_⟩
    rw [if_pos (by simpa using h)] at q
    exact absurd q (by simp)
theorem l_twice {gs : List G} {b : LWt} {i : Int} {x : Str × Int} (h : x.1 = (" " : Str)) : lStep gs (lStep gs b ((" " : Str), i)) x = lStep gs b x := by
  have e : lStep gs b ((" " : Str), i) = lStep gs b x := by
    have q : (x.1 != (" " : Str)) = false := by rw [h]; simp
    unfold lStep
    rw [q]
    simp only [Bool.false_eq_true, if_false, bne_self_eq_false]
  rw [e]
  have r := (l_run (gs := gs) (b := b) x).mp h
  obtain ⟨x1, x2⟩ := x
  cases h
  exact l_blank r
theorem lfresh_ne {g : G} (h : g.t ∈ textsL) (h0 : g.t ≠ ("" : Str)) (i : Int) : lfresh g i ≠ [] := by
  rw [← fresh_eq h]; exact freshOf_ne (texts_pos _ h h0)
theorem sign_ne (g : G) (i : Int) : ∀ x ∈ lfresh g i, x.1 ≠ ("" : Str) := fun x hx => by
  obtain ⟨c, _, rfl⟩ := List.mem_map.mp hx
  intro e
  have := congrArg (fun z : Str => z.cps.size) e
  simp at this
  exact absurd this (by decide)
theorem last_app {α : Type} (xs ys : List α) (d : α) (h : ys ≠ []) : (xs ++ ys).getLastD d = ys.getLastD d := by
  rw [List.getLastD_eq_getLast?, List.getLastD_eq_getLast?, List.getLast?_append]
  cases q : ys.getLast? with
  | none => exact absurd (List.getLast?_eq_none_iff.mp q) h
  | some v => rfl
theorem last_run {gs : List G} {xs : List (Str × Int)} {b : LWt} (h : xs ≠ []) : (xs.getLastD (" ", 0)).1 = (" " : Str) ↔ (xs.foldl (lStep gs) b).run = [] := by
  obtain ⟨ys, y, rfl⟩ : ∃ ys y, xs = ys ++ [y] := ⟨xs.dropLast, xs.getLast h, (List.dropLast_concat_getLast h).symm⟩
  rw [List.foldl_append, last_app _ _ _ (by simp)]
  exact l_run y
theorem sp_ne : (" " : Str) ≠ ("" : Str) := by decide
theorem sim_rows {gs : List G} (tn : Int) (ht : ∀ g ∈ gs, g.t ∈ textsL ∧ g.t ≠ ("" : Str)) : ∀ i, i ≤ gs.length →
    Sim ((signsTo gs tn i).foldl (wStep gs) w0) ((lineTo gs tn i).foldl (lStep gs) lw0) ∧
    (0 < i → (((signsTo gs tn i).getLastD (" ", 0)).1 = (" " : Str) ↔ ((lineTo gs tn i).foldl (lStep gs) lw0).run = []))
  | 0, _ => ⟨⟨rfl, rfl, rfl, fun p hp => (nomatch hp)⟩, fun h => absurd h (Nat.lt_irrefl _)⟩
  | i + 1, h => by
    obtain ⟨ih, il⟩ := sim_rows tn ht i (by omega)
    have hm : gs.getD i g0 ∈ gs := by rw [List.getD_eq_getElem?_getD, List.getElem?_eq_getElem (by omega)]; exact List.getElem_mem _
    have hg := ht _ hm
    have hF := lfresh_ne hg.1 hg.2 (i : Int)
    have hN := sign_ne (gs.getD i g0) (i : Int)
    unfold signsTo lineTo
    rw [fresh_eq hg.1]
    refine ⟨?_, fun _ => ?_⟩
    · generalize signsTo gs tn i = A at *
      generalize lineTo gs tn i = B at *
      generalize gs.getD i g0 = g at *
      generalize gs.getD (i - 1) g0 = b at *
      rw [List.foldl_append, List.foldl_append, List.foldl_append, List.foldl_append]
      by_cases hc : 0 < i ∧ lgap b g tn = true
      · rw [if_pos hc]
        by_cases hd : 0 < i ∧ gapB A (lfresh g i) b g tn = true
        · rw [if_pos hd]
          exact sim_fold (sim_step (x := ((" " : Str), (-1 : Int))) (y := ((" " : Str), (i : Int))) ih rfl (fun q => absurd rfl q) sp_ne) hN
        · rw [if_neg hd]
          by_cases hl : (A.getLastD (" ", 0)).1 = (" " : Str)
          · have hr := (il hc.1).mp hl
            rw [show [((" " : Str), (i : Int))].foldl (lStep gs) (B.foldl (lStep gs) lw0) = B.foldl (lStep gs) lw0 from l_blank (i := (i : Int)) hr]
            exact sim_fold ih hN
          · have hh : ((lfresh g i).headD (" ", 0)).1 = (" " : Str) := by
              refine Classical.byContradiction fun q => hd ⟨hc.1, ?_⟩
              unfold gapB
              rw [gap_eq, hc.2]
              simp only [Bool.and_true, Bool.and_eq_true]
              exact ⟨by simpa using hl, by simpa using q⟩
            generalize lfresh g i = F at *
            cases F with
            | nil => exact absurd rfl hF
            | cons f r =>
              have e : (f :: r).foldl (lStep gs) ([((" " : Str), (i : Int))].foldl (lStep gs) (B.foldl (lStep gs) lw0)) = (f :: r).foldl (lStep gs) (B.foldl (lStep gs) lw0) := by
                rw [List.foldl_cons, List.foldl_cons]
                exact congrArg (List.foldl (lStep gs) · r) (l_twice hh)
              rw [e]
              exact sim_fold ih hN
      · rw [if_neg hc, if_neg (fun q => hc ⟨q.1, by
          have := q.2
          unfold gapB at this
          simp only [Bool.and_eq_true] at this
          rw [← gap_eq]; exact this.2.2⟩)]
        exact sim_fold ih hN
    · rw [last_app _ _ _ hF, ← last_app (lineTo gs tn i ++ (if 0 < i ∧ lgap (gs.getD (i - 1) g0) (gs.getD i g0) tn = true then [((" " : Str), (i : Int))] else [])) _ _ hF]
      exact last_run (fun q => hF (List.append_eq_nil_iff.mp q).2)
theorem words_eq {gs : List G} (tn : Int) (ht : ∀ g ∈ gs, g.t ∈ textsL ∧ g.t ≠ ("" : Str)) : wordsOf gs tn = (lwordsOf gs tn).map fun y => (y.1, boxOf y.2) := by
  unfold wordsOf lwordsOf
  rw [List.foldl_append, List.foldl_append]
  exact (sim_step (x := ((" " : Str), (-1 : Int))) (y := ((" " : Str), (0 : Int))) (sim_rows tn ht gs.length (Nat.le_refl _)).1 rfl (fun q => absurd rfl q) sp_ne).words

/-- the words' parts lie in the row -/
theorem parts_in {gs : List G} : ∀ {xs : List (Str × Int)} {st : LWt}, (∀ x ∈ st.words, ∀ g ∈ x.2, g ∈ gs) → ∀ x ∈ (xs.foldl (lStep gs) st).words, ∀ g ∈ x.2, g ∈ gs
  | [], _, h => h
  | y :: r, st, h => parts_in (xs := r) (st := lStep gs st y) (fun x hx => by
      unfold lStep at hx
      split at hx
      · exact h x hx
      · split at hx
        · exact h x hx
        · rcases List.mem_append.mp hx with hx | hx
          · exact h x hx
          · rw [List.mem_singleton.mp hx]
            exact fun g hg => List.mem_of_mem_drop (List.mem_of_mem_take hg))
theorem lwords_in {gs : List G} {tn : Int} : ∀ x ∈ lwordsOf gs tn, ∀ g ∈ x.2, g ∈ gs := parts_in (fun x hx => (nomatch hx))

theorem leastI_is (n : Int) : ∀ ns : List Int, leastI n ns ∈ n :: ns ∧ ∀ z ∈ n :: ns, leastI n ns ≤ z := fun ns => by
  unfold leastI
  induction ns generalizing n with
  | nil => exact ⟨.head _, fun z hz => by rw [List.mem_singleton.mp hz]; exact Int.le_refl _⟩
  | cons x r ih =>
    rw [List.foldl_cons]
    by_cases h : x < n
    · rw [if_pos h]
      refine ⟨.tail _ (ih x).1, fun z hz => ?_⟩
      rcases List.mem_cons.mp hz with rfl | hz
      · exact Int.le_trans ((ih x).2 x (.head _)) (Int.le_of_lt h)
      · exact (ih x).2 z hz
    · rw [if_neg h]
      refine ⟨?_, fun z hz => ?_⟩
      · rcases List.mem_cons.mp (ih n).1 with q | q
        · rw [q]; exact .head _
        · exact .tail _ (.tail _ q)
      · rcases List.mem_cons.mp hz with rfl | hz
        · exact (ih _).2 _ (.head _)
        · rcases List.mem_cons.mp hz with rfl | hz
          · exact Int.le_trans ((ih n).2 n (.head _)) (Int.not_lt.mp h)
          · exact (ih n).2 z (.tail _ hz)
theorem greatI_is (n : Int) : ∀ ns : List Int, greatI n ns ∈ n :: ns ∧ ∀ z ∈ n :: ns, z ≤ greatI n ns := fun ns => by
  unfold greatI
  induction ns generalizing n with
  | nil => exact ⟨.head _, fun z hz => by rw [List.mem_singleton.mp hz]; exact Int.le_refl _⟩
  | cons x r ih =>
    rw [List.foldl_cons]
    by_cases h : n < x
    · rw [if_pos h]
      refine ⟨.tail _ (ih x).1, fun z hz => ?_⟩
      rcases List.mem_cons.mp hz with rfl | hz
      · exact Int.le_trans (Int.le_of_lt h) ((ih x).2 x (.head _))
      · exact (ih x).2 z hz
    · rw [if_neg h]
      refine ⟨?_, fun z hz => ?_⟩
      · rcases List.mem_cons.mp (ih n).1 with q | q
        · rw [q]; exact .head _
        · exact .tail _ (.tail _ q)
      · rcases List.mem_cons.mp hz with rfl | hz
        · exact (ih _).2 _ (.head _)
        · rcases List.mem_cons.mp hz with rfl | hz
          · exact Int.le_trans (Int.not_lt.mp h) ((ih n).2 n (.head _))
          · exact (ih n).2 z (.tail _ hz)
theorem lst_is {l : List Int} (h : l ≠ []) : lstL l ∈ l ∧ ∀ z ∈ l, lstL l ≤ z := by
  cases l with
  | nil => exact absurd rfl h
  | cons n r => exact leastI_is n r
theorem grt_is {l : List Int} (h : l ≠ []) : grtL l ∈ l ∧ ∀ z ∈ l, z ≤ grtL l := by
  cases l with
  | nil => exact absurd rfl h
  | cons n r => exact greatI_is n r
theorem box_eq {part : List G} {b : Bx} {y : Int} (h : IsBox part b) (hy : ∀ g ∈ part, g.y = y ∧ 0 ≤ g.w ∧ 0 ≤ g.s) : b = boxOf part := by
  obtain ⟨⟨a1, a2⟩, ⟨g, r, e, b1, d1, d2⟩, c1, c2⟩ := h
  have hg : g ∈ part := by rw [e]; exact .head _
  have hn : part ≠ [] := by rw [e]; simp
  have n1 : acrossOf part ≠ [] := by rw [e]; simp [acrossOf]
  have n2 : upOf part ≠ [] := by rw [e]; simp [upOf]
  obtain ⟨p1, p2⟩ := lst_is n1
  obtain ⟨q1, q2⟩ := grt_is n1
  obtain ⟨u1, u2⟩ := lst_is n2
  obtain ⟨v1, v2⟩ := grt_is n2
  have y0 := (hy g hg).1
  unfold boxOf
  obtain ⟨ba, bb, bc, bd⟩ := b
  dsimp only at a1 a2 b1 c1 c2 d1 d2
  refine (Bx.mk.injEq ..).mpr ⟨?_, ?_, ?_, ?_⟩
  · refine Int.le_antisymm ?_ (p2 _ (List.mem_append_left _ a1))
    rcases List.mem_append.mp p1 with p1 | p1
    · exact a2 _ p1
    · obtain ⟨z, hz, ez⟩ := List.mem_map.mp p1
      have := a2 _ (List.mem_map.mpr ⟨z, hz, rfl⟩)
      have := (hy z hz).2.1
      omega
  · refine Int.le_antisymm ?_ (u2 _ (List.mem_append_left _ (List.mem_map.mpr ⟨g, hg, b1.symm⟩)))
    rcases List.mem_append.mp u1 with u1 | u1
    · obtain ⟨z, hz, ez⟩ := List.mem_map.mp u1
      have := (hy z hz).1
      omega
    · obtain ⟨z, hz, ez⟩ := List.mem_map.mp u1
      have := hy z hz
      omega
  · refine Int.le_antisymm (q2 _ (List.mem_append_right _ c1)) ?_
    rcases List.mem_append.mp q1 with q1 | q1
    · obtain ⟨z, hz, ez⟩ := List.mem_map.mp q1
      have := c2 _ (List.mem_map.mpr ⟨z, hz, rfl⟩)
      have := (hy z hz).2.1
      omega
    · exact c2 _ q1
  · refine Int.le_antisymm (v2 _ (List.mem_append_right _ ?_)) ?_
    · obtain ⟨z, hz, ez⟩ := List.mem_map.mp d1
      exact List.mem_map.mpr ⟨z, hz, by have := (hy z hz).1; omega⟩
    · rcases List.mem_append.mp v1 with v1 | v1
      · obtain ⟨z, hz, ez⟩ := List.mem_map.mp v1
        have := d2 _ (List.mem_map.mpr ⟨z, hz, rfl⟩)
        have := hy z hz
        omega
      · obtain ⟨z, hz, ez⟩ := List.mem_map.mp v1
        have := d2 _ (List.mem_map.mpr ⟨z, hz, rfl⟩)
        have := hy z hz
        omega

/-- the rows -/
def rowsAll (os : List G) : List (List G) := rowsTo os os.length
theorem rowsTo_app (os xs : List G) : ∀ i, i ≤ os.length → rowsTo (os ++ xs) i = rowsTo os i
  | 0, _ => rfl
  | i + 1, h => by
    have ih := rowsTo_app os xs i (by omega)
    have e1 : (os ++ xs).getD i g0 = os.getD i g0 := by rw [List.getD_eq_getElem?_getD, List.getElem?_append_left (by omega), ← List.getD_eq_getElem?_getD]
    have e2 : (os ++ xs).getD (i - 1) g0 = os.getD (i - 1) g0 := by rw [List.getD_eq_getElem?_getD, List.getElem?_append_left (by omega), ← List.getD_eq_getElem?_getD]
    unfold rowsTo
    rw [ih, e1, e2]
theorem rows_new {os : List G} {g : G} (h : ∀ z, os.getLast? = some z → g.y ≠ z.y) : rowsAll (os ++ [g]) = rowsAll os ++ [[g]] := by
  unfold rowsAll
  rw [List.length_append, List.length_singleton]
  have e1 : (os ++ [g]).getD os.length g0 = g := by simp [List.getD_eq_getElem?_getD]
  have e2 := rowsTo_app os [g] os.length (Nat.le_refl _)
  show (if os.length = 0 ∨ ((os ++ [g]).getD os.length g0).y ≠ ((os ++ [g]).getD (os.length - 1) g0).y then _ else _) = _
  rw [e1, e2]
  refine if_pos ?_
  by_cases h0 : os.length = 0
  · exact .inl h0
  · refine .inr ?_
    have e3 : (os ++ [g]).getD (os.length - 1) g0 = os[os.length - 1]'(by omega) := by
      rw [List.getD_eq_getElem?_getD, List.getElem?_append_left (by omega), List.getElem?_eq_getElem (by omega)]; rfl
    rw [e3]
    exact h _ (by rw [List.getLast?_eq_getElem?, List.getElem?_eq_getElem (by omega)])
theorem rows_on {os : List G} {g z : G} (hz : os.getLast? = some z) (h : g.y = z.y) : rowsAll (os ++ [g]) = (rowsAll os).dropLast ++ [(rowsAll os).getLastD [] ++ [g]] := by
  unfold rowsAll
  rw [List.length_append, List.length_singleton]
  have h0 : os.length ≠ 0 := fun e => by rw [List.eq_nil_of_length_eq_zero e] at hz; cases hz
  have e1 : (os ++ [g]).getD os.length g0 = g := by simp [List.getD_eq_getElem?_getD]
  have e2 := rowsTo_app os [g] os.length (Nat.le_refl _)
  have e3 : (os ++ [g]).getD (os.length - 1) g0 = z := by
    rw [List.getD_eq_getElem?_getD, List.getElem?_append_left (by omega), ← List.getLast?_eq_getElem?, hz]; rfl
  show (if os.length = 0 ∨ ((os ++ [g]).getD os.length g0).y ≠ ((os ++ [g]).getD (os.length - 1) g0).y then _ else _) = _
  rw [e1, e2, e3]
  exact if_neg (fun q => q.elim h0 fun q => q h)
theorem rows_row {os : List G} {g : G} (hn : ∀ z, os.getLast? = some z → g.y ≠ z.y) (r : List G) (hr : ∀ z ∈ r, z.y = g.y) : rowsAll (os ++ g :: r) = rowsAll os ++ [g :: r] := by
  have gen : ∀ (n : Nat) (r : List G), r.length = n → (∀ z ∈ r, z.y = g.y) → rowsAll (os ++ g :: r) = rowsAll os ++ [g :: r] := by
    intro n
    induction n with
    | zero => intro r e _; rw [List.eq_nil_of_length_eq_zero e]; exact rows_new hn
    | succ n ih =>
      intro r e hr
      have hne : r ≠ [] := fun q => by rw [q] at e; cases e
      obtain ⟨r', x, rfl⟩ : ∃ ys y, r = ys ++ [y] := ⟨r.dropLast, r.getLast hne, (List.dropLast_concat_getLast hne).symm⟩
      have ih' := ih r' (by simpa using e) fun z hz => hr z (List.mem_append_left _ hz)
      have hx := hr x (by simp)
      rw [show os ++ g :: (r' ++ [x]) = (os ++ g :: r') ++ [x] from by simp]
      cases hq : (os ++ g :: r').getLast? with
      | none => simp at hq
      | some z =>
        have hzy : z.y = g.y := by
          have : z ∈ g :: r' := by
            rw [List.getLast?_append] at hq
            cases hl : (g :: r').getLast? with
            | none => simp at hl
            | some z' =>
              rw [hl] at hq; cases hq
              exact List.mem_of_getLast? hl
          rcases List.mem_cons.mp this with rfl | q
          · rfl
          · exact hr z (List.mem_append_left _ q)
        rw [rows_on hq (hx.trans hzy.symm), ih']
        simp
  exact gen _ r rfl hr
theorem rows_flat : ∀ (n : Nat) (rs : List (List G)), rs.length = n → (∀ r ∈ rs, r ≠ []) → (∀ r ∈ rs, ∀ a ∈ r, ∀ b ∈ r, a.y = b.y) → rs.Pairwise (fun r q => ∀ a ∈ r, ∀ b ∈ q, b.y < a.y) → rowsAll rs.flatten = rs
  | 0, rs, e, _, _, _ => by rw [List.eq_nil_of_length_eq_zero e]; rfl
  | n + 1, rs, e, h1, h2, h3 => by
    have hne : rs ≠ [] := fun q => by rw [q] at e; cases e
    obtain ⟨rs', r, rfl⟩ : ∃ ys y, rs = ys ++ [y] := ⟨rs.dropLast, rs.getLast hne, (List.dropLast_concat_getLast hne).symm⟩
    obtain ⟨p1, _, p3⟩ := List.pairwise_append.mp h3
    have ih := rows_flat n rs' (by simpa using e) (fun r hr => h1 r (List.mem_append_left _ hr)) (fun r hr => h2 r (List.mem_append_left _ hr)) p1
    have hr : r ∈ rs' ++ [r] := by simp
    cases r with
    | nil => exact absurd rfl (h1 _ hr)
    | cons g r =>
      rw [List.flatten_append, show [g :: r].flatten = g :: r from by simp, rows_row ?_ r fun z hz => h2 _ hr z (.tail _ hz) g (.head _), ih]
      intro z hz
      obtain ⟨q, hq, hz'⟩ := List.mem_flatten.mp (List.mem_of_getLast? hz)
      have := p3 q hq (g :: r) (by simp) z hz' g (.head _)
      omega

/-- the law's rows -/
def dueOf (grs : List (List G)) (tn : Int) : List (Str × List G) := (grs.map lyingOf).flatMap fun r => lwordsOf r tn
theorem lying_flat : ∀ grs : List (List G), lyingOf grs.flatten = (grs.map lyingOf).flatten
  | [] => rfl
  | r :: rs => by rw [List.flatten_cons, List.map_cons, List.flatten_cons, ← lying_flat rs]; exact List.filter_append _ _
theorem flat_full : ∀ rs : List (List G), rs.flatten = (rs.filter fun r => !r.isEmpty).flatten
  | [] => rfl
  | [] :: rs => by rw [List.filter_cons, if_neg (by simp), List.flatten_cons, List.nil_append]; exact flat_full rs
  | (g :: r) :: rs => by rw [List.filter_cons, if_pos (by simp), List.flatten_cons, List.flatten_cons, ← flat_full rs]
theorem words_nil (tn : Int) : lwordsOf [] tn = [] := rfl
theorem flatMap_full (tn : Int) : ∀ rs : List (List G), (rs.filter fun r => !r.isEmpty).flatMap (fun r => lwordsOf r tn) = rs.flatMap fun r => lwordsOf r tn
  | [] => rfl
  | [] :: rs => by rw [List.filter_cons, if_neg (by simp), List.flatMap_cons, words_nil, List.nil_append]; exact flatMap_full tn rs
  | (g :: r) :: rs => by rw [List.filter_cons, if_pos (by simp), List.flatMap_cons, List.flatMap_cons, flatMap_full tn rs]
theorem rows_pw {grs : List (List G)} (ok : RowsOk grs) : grs.Pairwise fun r q => ∀ a ∈ r, ∀ b ∈ q, b.y < a.y := by
  refine List.pairwise_iff_getElem.mpr fun i j hi hj hij a ha b hb => ?_
  have o1 := (ok.2 i _ (List.getElem?_eq_getElem hi)).2.1 a ha
  have o2 := (ok.2 j _ (List.getElem?_eq_getElem hj)).2.1 b hb
  have := o1.1
  have := o2.1
  omega
theorem lying_mem {g : G} {r : List G} : g ∈ lyingOf r ↔ g ∈ r ∧ g.t ≠ ("" : Str) := by
  unfold lyingOf; rw [List.mem_filter]; simp
theorem lying_pw {grs : List (List G)} (ok : RowsOk grs) : (grs.map lyingOf).Pairwise fun r q => ∀ a ∈ r, ∀ b ∈ q, b.y < a.y :=
  List.pairwise_map.mpr ((rows_pw ok).imp fun h a ha b hb => h a (lying_mem.mp ha).1 b (lying_mem.mp hb).1)
theorem rows_plain {grs : List (List G)} (ok : RowsOk grs) : rowsTo (lyingOf grs.flatten) (lyingOf grs.flatten).length = (grs.map lyingOf).filter fun r => !r.isEmpty := by
  rw [lying_flat, flat_full]
  refine rows_flat _ _ rfl (fun r hr => ?_) (fun r hr a ha b hb => ?_) ((lying_pw ok).sublist List.filter_sublist)
  · have := (List.mem_filter.mp hr).2
    intro q; rw [q] at this; exact absurd this (by simp)
  · obtain ⟨q, hq, rfl⟩ := List.mem_map.mp (List.mem_filter.mp hr).1
    obtain ⟨i, hi, rfl⟩ := List.getElem_of_mem hq
    have o := (ok.2 i _ (List.getElem?_eq_getElem hi)).2.1
    rw [(o a (lying_mem.mp ha).1).1, (o b (lying_mem.mp hb).1).1]
/-- the reading order -/
def Rd (a b : G) : Prop := b.y < a.y ∨ (a.y = b.y ∧ a.x < b.x)
theorem read_pw {grs : List (List G)} (ok : RowsOk grs) : (lyingOf grs.flatten).Pairwise Rd := by
  refine List.Pairwise.sublist List.filter_sublist (List.pairwise_flatten.mpr ⟨fun r hr => ?_, (rows_pw ok).imp fun h a ha b hb => .inl (h a ha b hb)⟩)
  obtain ⟨i, hi, rfl⟩ := List.getElem_of_mem hr
  obtain ⟨_, o, p⟩ := ok.2 i _ (List.getElem?_eq_getElem hi)
  refine List.Pairwise.imp_of_mem ?_ p
  intro a b ha hb h
  have oa := o a ha
  have ob := o b hb
  exact .inr ⟨oa.1.trans ob.1.symm, by have := oa.2.2.1; omega⟩
theorem lex_no {a b : G} {i j : Int} (h : Rd a b) : lexB (-b.y, b.x, i) (-a.y, a.x, j) = false := by
  unfold lexB
  dsimp only
  rcases h with h | ⟨h1, h2⟩
  · rw [if_neg (by simp; omega)]; exact decide_eq_false (by omega)
  · rw [if_pos (by simp; omega), if_neg (by simp; omega)]; exact decide_eq_false (by omega)
theorem lex_yes {a b : G} {i j : Int} (h : Rd a b) : lexB (-a.y, a.x, i) (-b.y, b.x, j) = true := by
  unfold lexB
  dsimp only
  rcases h with h | ⟨h1, h2⟩
  · rw [if_neg (by simp; omega)]; exact decide_eq_true (by omega)
  · rw [if_pos (by simp; omega), if_neg (by simp; omega)]; exact decide_eq_true (by omega)
theorem keys_up {gs : List G} (p : (lyingOf gs).Pairwise Rd) : ∀ i, 1 ≤ i → i < (lyingOf gs).length → lexB (keyOf (lyingOf gs) i) (keyOf (lyingOf gs) (i - 1)) = false := fun i h1 h2 => by
  unfold keyOf
  have e1 : (lyingOf gs).getD i g0 = (lyingOf gs)[i] := by rw [List.getD_eq_getElem?_getD, List.getElem?_eq_getElem h2]; rfl
  have e2 : (lyingOf gs).getD (i - 1) g0 = (lyingOf gs)[i - 1]'(by omega) := by rw [List.getD_eq_getElem?_getD, List.getElem?_eq_getElem (by omega)]; rfl
  rw [e1, e2]
  exact lex_no (List.pairwise_iff_getElem.mp p (i - 1) i (by omega) h2 (by omega))
theorem keys_down {gs : List G} (p : (lyingOf gs).Pairwise fun a b => Rd b a) : ∀ i, 1 ≤ i → i < (lyingOf gs).length → lexB (keyOf (lyingOf gs) i) (keyOf (lyingOf gs) (i - 1)) = true := fun i h1 h2 => by
  unfold keyOf
  have e1 : (lyingOf gs).getD i g0 = (lyingOf gs)[i] := by rw [List.getD_eq_getElem?_getD, List.getElem?_eq_getElem h2]; rfl
  have e2 : (lyingOf gs).getD (i - 1) g0 = (lyingOf gs)[i - 1]'(by omega) := by rw [List.getD_eq_getElem?_getD, List.getElem?_eq_getElem (by omega)]; rfl
  rw [e1, e2]
  exact lex_yes (List.pairwise_iff_getElem.mp p (i - 1) i (by omega) h2 (by omega))
theorem lying_rev (gs : List G) : lyingOf gs.reverse = (lyingOf gs).reverse := List.filter_reverse ..
theorem read_rev {grs : List (List G)} (ok : RowsOk grs) : (lyingOf grs.flatten.reverse).Pairwise fun a b => Rd b a := by
  rw [lying_rev]; exact List.pairwise_reverse.mpr (read_pw ok)
theorem found_up {grs : List (List G)} (ok : RowsOk grs) (tn : Int) : foundOf false grs.flatten tn = (dueOf grs tn).map fun y => (y.1, boxOf y.2) := by
  unfold foundOf sortedOf dueOf
  rw [if_neg (by simp), rows_plain ok, ← flatMap_full, List.map_flatMap]
  refine congrArg List.flatten (List.map_congr_left fun r hr => words_eq tn fun g hg => ?_)
  obtain ⟨q, hq, rfl⟩ := List.mem_map.mp (List.mem_filter.mp hr).1
  obtain ⟨i, hi, rfl⟩ := List.getElem_of_mem hq
  exact ⟨((ok.2 i _ (List.getElem?_eq_getElem hi)).2.1 g (lying_mem.mp hg).1).2.1, (lying_mem.mp hg).2⟩
theorem found_down {grs : List (List G)} (ok : RowsOk grs) (tn : Int) : foundOf true grs.flatten.reverse tn = (dueOf grs tn).map fun y => (y.1, boxOf y.2) := by
  rw [← found_up ok]
  unfold foundOf sortedOf
  rw [if_pos rfl, if_neg (by simp), lying_rev, List.reverse_reverse, List.length_reverse]
/-- the boxes told are the boxes found -/
theorem due_box {grs : List (List G)} (ok : RowsOk grs) {tn : Int} {x : Str × List G} (hx : x ∈ dueOf grs tn) {b : Bx} (h : IsBox x.2 b) : b = boxOf x.2 := by
  obtain ⟨r, hr, hx⟩ := List.mem_flatMap.mp hx
  obtain ⟨q, hq, rfl⟩ := List.mem_map.mp hr
  obtain ⟨i, hi, rfl⟩ := List.getElem_of_mem hq
  refine box_eq h (y := 300 - 40 * (i : Int)) fun g hg => ?_
  have o := (ok.2 i _ (List.getElem?_eq_getElem hi)).2.1 g (lying_mem.mp (lwords_in x hx g hg)).1
  exact ⟨o.1, by have := o.2.2.1; omega, by have := o.2.2.2.2.1; omega⟩

/-- a word told: its text and its box's ints -/
def DueR (σ : PM) (v : Value) (x : Str × Bx) : Prop := ∃ a t vb, v = .ref a ∧ σ a = some ({ cls := .type "tuple", data := .seq #[.str x.1 t, vb] } : Obj) ∧ LBoxR σ vb x.2
theorem DueR.mono {σ σ' : PM} {v : Value} {x : Str × Bx} (d : DueR σ v x) (l : Le σ σ') : DueR σ' v x := let ⟨a, t, vb, e, h, k⟩ := d; ⟨a, t, vb, e, l _ _ h, k.mono l⟩
theorem dumono {σ σ' : PM} {vs : List Value} {ns : List (Str × Bx)} (l : Le σ σ') (p : Paired (DueR σ) vs ns) : Paired (DueR σ') vs ns := pmono (fun _ _ d => DueR.mono d l) p
section
variable {prog : Program} {w : World} {A : Around} {E : Value → Shared → Prop} {s : Shared} {κ σ₀ σ : PM} {L : Addr} {m : Str → Option Value} {μ : List (Addr × Obj)}
theorem all_tt (n : Nat) : (List.range n).all (fun _ => true) = true := List.all_eq_true.mpr fun _ _ => rfl
theorem eqat_tuples {l b : Addr} {vs ws : List Value} {k k' : Nat} (hf : Le σ s.heap.get?) (hl : σ l = some ({ cls := .type "tuple", data := .seq vs.toArray k } : Obj)) (hb : σ b = some ({ cls := .type "tuple", data := .seq ws.toArray k' } : Obj))
    (hz : vs.length = ws.length) (hu : A.units < cLine) (he : ∀ (j : Nat) x y, vs[j]? = some x → ws[j]? = some y → EqAt A.in1 s x y true) : EqAt A s (.ref l) (.ref b) true := by
  by_cases e : l = b
  · rw [e]; exact EqAt.same _
  · refine EqAt.of_refs e ?_
    have h := RcAt.tuples (A := A) (s := s) (e := fun _ => true) ⟨_, hf _ _ hl, rfl, k, rfl⟩ ⟨_, hf _ _ hb, rfl, k', rfl⟩ hu fun j h1 h2 => he j _ _ (by simp at h1; simp [h1]) (by simp at h2; simp [h2])
    rw [all_tt] at h
    simpa [hz] using h
theorem eqat_tol {v u : Value} {n : Int} (hf : Le σ s.heap.get?) (hu : A.units < cLine) (d1 : TolR σ v n) (d2 : TolR σ u n) : EqAt A s v u true := by
  obtain ⟨a, t1, t2, rfl, h1⟩ := d1
  obtain ⟨b, u1, u2, rfl, h2⟩ := d2
  refine eqat_tuples (vs := [.int n t1, .int 0 t2]) (ws := [.int n u1, .int 0 u2]) hf h1 h2 rfl hu fun j x y hx hy => ?_
  match j with
  | 0 => cases hx; cases hy; have := EqAt.int_int (A := A.in1) (s := s) n t1 n u1; simpa using this
  | 1 => cases hx; cases hy; have := EqAt.int_int (A := A.in1) (s := s) 0 t2 0 u2; simpa using this
  | j + 2 => cases hx
theorem eqat_box {v u : Value} {b : Bx} (hf : Le σ s.heap.get?) (hu : A.units + 1 < cLine) (d1 : LBoxR σ v b) (d2 : LBoxR σ u b) : EqAt A s v u true := by
  obtain ⟨a, vs, rfl, h1, p1⟩ := d1
  obtain ⟨c, ws, rfl, h2, p2⟩ := d2
  refine eqat_tuples hf h1 h2 (p1.length.trans p2.length.symm) (by omega) fun j x y hx hy => ?_
  obtain ⟨n, hn, t1⟩ := pat p1 hx
  obtain ⟨n', hn', t2⟩ := pat p2 hy
  rw [hn] at hn'; cases hn'
  exact eqat_tol hf (by show A.units + 1 < cLine; exact hu) t1 t2
theorem eqat_due {v u : Value} {x : Str × Bx} (hf : Le σ s.heap.get?) (hu : A.units + 2 < cLine) (d1 : DueR σ v x) (d2 : DueR σ u x) : EqAt A s v u true := by
  obtain ⟨a, t1, v1, rfl, h1, b1⟩ := d1
  obtain ⟨c, t2, v2, rfl, h2, b2⟩ := d2
  refine eqat_tuples (vs := [.str x.1 t1, v1]) (ws := [.str x.1 t2, v2]) hf h1 h2 rfl (by omega) fun j p q hp hq => ?_
  match j with
  | 0 => cases hp; cases hq; have := EqAt.str_str (A := A.in1) (s := s) x.1 t1 x.1 t2; simpa using this
  | 1 => cases hp; cases hq; exact eqat_box hf (by show A.units + 1 + 1 < cLine; exact hu) b1 b2
  | j + 2 => cases hp
theorem n_ne_due {l b : Addr} {vs ws : List Value} {k k' : Nat} {xs : List (Str × Bx)} {Q : Value → Shared → Prop} (hl : s.heap.get? l = some (listOf vs.toArray k)) (hb : s.heap.get? b = some (listOf ws.toArray k')) (hf : Le σ s.heap.get?) (hu : A.units + 3 < cLine)
    (p1 : Paired (DueR σ) vs xs) (p2 : Paired (DueR σ) ws xs) (h : Q (.bool false) s) :
    wpAny (model prog w) A (compareOp .NotEq (.ref l) (.ref b)) Q E s := by
  show wpAny (model prog w) A (richCompare .NotEq (.ref l) (.ref b)) Q E s
  have hz : vs.length = ws.length := p1.length.trans p2.length.symm
  refine RcNeAt.lists (e := fun _ => true) ⟨_, hl, rfl, k, rfl⟩ ⟨_, hb, rfl, k', rfl⟩ (by simpa using hz) (by omega) (fun j h1 h2 => ?_) prog w E Q (by rw [all_tt]; exact h)
  simp at h1 h2
  obtain ⟨x, hx, d1⟩ := pat p1 (List.getElem?_eq_getElem h1)
  obtain ⟨x', hx', d2⟩ := pat p2 (List.getElem?_eq_getElem h2)
  rw [hx] at hx'; cases hx'
  have := eqat_due (A := A.in1) hf (by show A.units + 1 + 2 < cLine; omega) d1 d2
  simpa using this
/-- the due words, their boxes found -/
theorem due_found {grs : List (List G)} (ok : RowsOk grs) {tn : Int} {ws : List Value} (p : Paired (LWordR σ) ws (dueOf grs tn)) : Paired (DueR σ) ws ((dueOf grs tn).map fun y => (y.1, boxOf y.2)) := by
  refine paired_of (by rw [List.length_map]; exact p.length) fun i v x hv hx => ?_
  obtain ⟨y, hy, a, t, vb, b, rfl, h1, h2, h3⟩ := pat p hv
  rw [List.getElem?_map, hy] at hx
  cases hx
  have hb := due_box ok (List.mem_of_getElem? hy) h3
  rw [hb] at h2
  exact ⟨a, t, vb, rfl, h1, h2⟩
def Slice3At (Q : Value → Shared → Prop) (o vl vu vk : Value) (s₃ : Shared) : Prop :=
  ∃ l items lo hi st, o = .ref l ∧ s₃.heap.IsList l items ∧ items.size ≤ sizeLine ∧ IsPart vl lo ∧ IsPart vu hi ∧ IsPart vk st ∧ st ≠ some 0 ∧
    Q (.ref (s₃.heap.objs.size + 1)) { s₃ with heap := (s₃.heap.push { cls := .type "slice", data := .fields #[vl, vu, vk] }).push { cls := .type "list", data := .seq (slicePick items lo hi st) } }
theorem sub_slice3 {env : Env} {value : Expr} {lower upper : Option Expr} {st : Expr} {p pos : Pos} {Q : Value → Shared → Prop}
    (h : wpAny (model prog w) A (eval value env) (fun o s₁ => wpAny (model prog w) A (evalPart lower env) (fun vl s₂ => wpAny (model prog w) A (evalPart upper env) (fun vu s₃ => wpAny (model prog w) A (evalPart (some st) env) (fun vk s₄ => Slice3At Q o vl vu vk s₄) E s₃) E s₂) E s₁) E s)
    (ht : ∀ o r, letTemporaryGo value o r = pure ()) : wpAny (model prog w) A (eval (.Subscript value (.Slice lower upper (some st) p) pos) env) Q E s := by
  refine wpAny_Subscript_Slice_step (T := "list") list_getitem_lookup (wpAny_mono h (fun o s₁ h₁ => wpAny_Slice (wpAny_mono h₁ (fun vl s₂ h₂ => wpAny_mono h₂ (fun vu s₃ h₃ => wpAny_mono h₃ (fun vk s₄ h₄ => ?_) fun _ _ e => e) fun _ _ e => e) fun _ _ e => e)) fun _ _ e => e) ht
  obtain ⟨l, items, lo, hi, st, rfl, hl, hsz, pl, pu, pk, h0, hQ⟩ := h₄
  refine ⟨(hl.push _).typeIs, wpAny_getItem_list_slice (hl.push _) (Heap.IsSliceOf.new ..) pl pu pk h0 ?_ hsz⟩
  rw [Heap.size_push]
  exact hQ
theorem slice_rev {Q : Value → Shared → Prop} {l : Addr} {vs : List Value} {k : Nat} {t : Tok} (S : St w κ σ₀ σ L m μ s.heap) (hl : s.heap.get? l = some (listOf vs.toArray k)) (hsz : vs.length ≤ 1000)
    (h : ∀ D h' σ', Le σ σ' → σ' D = some (listOf vs.reverse.toArray 0) → Grow s.heap σ h' σ' → St w κ σ₀ σ' L m μ h' → Q (.ref D) { s with heap := h' }) : Slice3At Q (.ref l) .none .none (.int (-1) t) s := by
  refine ⟨l, vs.toArray, none, none, some (-1), rfl, ⟨_, hl, rfl, k, rfl⟩, by rw [List.size_toArray, sizeLine_eq]; omega, .none, .none, .int _ _, by decide, ?_⟩
  rw [krv_pick]
  have S1 := S.keeps (push_le s.heap { cls := .type "slice", data := .fields #[.none, .none, .int (-1) t] })
  have S2 := S1.pushF (o := listOf vs.reverse.toArray 0) rfl
  rw [Heap.size_push] at S2
  have hn : σ (s.heap.objs.size + 1) = none := S.fro.none_size (Nat.le_succ _)
  refine h _ _ _ (upd_le hn) (upd_same _ _ _) ⟨(push_le _ _).trans (push_le _ _), upd_le hn, S2.fro, fun a o e => ?_⟩ S2
  unfold upd at e; split at e
  · rename_i q; exact .inr (q ▸ get_none_size (Nat.le_succ _))
  · exact .inl e
/-- the script's first sixty -/
theorem slice_to {Q : Value → Shared → Prop} {l : Addr} {vs : List Value} {n : Nat} {t : Tok} (S : St w κ σ₀ σ L m μ s.heap) (hl : s.heap.IsList l vs.toArray) (hsz : vs.length ≤ 1000)
    (h : ∀ D h' σ', Le σ σ' → σ' D = some (listOf (vs.take n).toArray 0) → Grow s.heap σ h' σ' → St w κ σ₀ σ' L m μ h' → Q (.ref D) { s with heap := h' }) : SliceAt Q (.ref l) .none (.int n t) s := by
  refine ⟨l, vs.toArray, none, some (n : Int), rfl, hl, by rw [List.size_toArray, sizeLine_eq]; omega, .none, .int _ _, ?_⟩
  have e : slicePick vs.toArray none (some (n : Int)) none = (vs.take n).toArray := slicePick_upto' vs.toArray n
  rw [e]
  have S1 := S.keeps (push_le s.heap { cls := .type "slice", data := .fields #[.none, .int n t, .none] })
  have S2 := S1.pushF (o := listOf (vs.take n).toArray 0) rfl
  rw [Heap.size_push] at S2
  have hn : σ (s.heap.objs.size + 1) = none := S.fro.none_size (Nat.le_succ _)
  refine h _ _ _ (upd_le hn) (upd_same _ _ _) ⟨(push_le _ _).trans (push_le _ _), upd_le hn, S2.fro, fun a o e => ?_⟩ S2
  unfold upd at e; split at e
  · rename_i q; exact .inr (q ▸ get_none_size (Nat.le_succ _))
  · exact .inl e
theorem n_listl {l : Addr} {vs : List Value} {k : Nat} {Q : Value → Shared → Prop} (S : St w κ σ₀ σ L m μ s.heap) (hl : s.heap.get? l = some (listOf vs.toArray k)) (hz : vs.length ≤ 1000)
    (h : ∀ D h' σ' k', Le σ σ' → σ' D = some (listOf vs.toArray k') → Grow s.heap σ h' σ' → St w κ σ₀ σ' L m μ h' → Q (.ref D) { s with heap := h' }) :
    wpAny (model prog w) A (call (.type "list") [.ref l]) Q E s := by
  refine call_list_seq l (.inl rfl) hl rfl rfl (fun h' c' hk hD => ?_) (by rw [List.size_toArray, sizeLine_eq]; omega)
  have hle : Le s.heap.get? h'.get? := hk
  have hn : σ s.heap.objs.size = none := S.fro.none_size (Nat.le_refl _)
  have G : Grow s.heap σ h' (upd σ s.heap.objs.size (listOf vs.toArray c')) := (Grow.of_keep S.fro hle).add S.fro (get_none_size (Nat.le_refl _)) hD
  exact h _ _ _ c' (upd_le hn) (upd_same _ _ _) G (S.grow G)
theorem wcut {α : Type} {M : Model} {t : Sem α} {Q Q' : α → Shared → Prop} (h1 : wpAny M A t Q' Zf s) (h2 : ∀ v s', Q' v s' → Q v s') : wpAny M A t Q E s :=
  wpAny_mono h1 h2 fun _ _ x => x.elim
end
theorem law_post (ns : List Int) : Challenge.rw_pb0474_01.row.claim.post [ofPy (PyData.list (List.map PyData.int ns))] (WData.bool true) [ofPy (PyData.list (List.map PyData.int ns))] = true := by wrow_post
/-- the drawn cells stand -/
def OrEnd (w : World) (κ σ₀ σ : PM) (L : Addr) (m : Str → Option Value) (μ : List (Addr × Obj)) (s : Shared) (v : Value) (s' : Shared) : Prop :=
  ∃ c cs kc ns h' tk σ', v = .ref c ∧ s' = { s with heap := h', toks := tk } ∧ Le σ σ' ∧ σ' c = some (listOf (cs : List Value).toArray kc) ∧ Paired IntV cs (ns : List Int) ∧ (0 < ns.length ∧ ns.length ≤ 60) ∧ St w κ σ₀ σ' L m μ h'
section
variable {w : World} {M : Model} {A : Around} {E : Value → Shared → Prop} {s : Shared} {κ σ₀ σ : PM} {L : Addr} {m : Str → Option Value} {μ : List (Addr × Obj)}
theorem n_or {t : Sem Value} {Q : Value → Shared → Prop} (S : St w κ σ₀ σ L m μ s.heap) (h1 : wpAny M A t (OrEnd w κ σ₀ σ L m μ s) Zf s)
    (h2 : ∀ c cs kc ns h' tk σ', Le σ σ' → σ' c = some (listOf (cs : List Value).toArray kc) → Paired IntV cs (ns : List Int) → (0 < ns.length ∧ ns.length ≤ 60) → St w κ σ₀ σ' L m μ h' → Q (.ref c) { s with heap := h', toks := tk }) : wpAny M A t Q E s :=
  wcut h1 fun v s' ⟨c, cs, kc, ns, h', tk, σ', e1, e2, l, hc, hp, hn, S'⟩ => by rw [e1, e2]; exact h2 c cs kc ns h' tk σ' l hc hp hn S'
theorem paired_ints : ∀ {vs : List Value} {ns : List Int}, IntsAre vs ns → Paired IntV vs ns
  | _, _, .nil => .nil
  | _, _, .cons n t r => .cons ⟨t, rfl⟩ (paired_ints r)
theorem ptk {α β : Type} {F : α → β → Prop} : ∀ (n : Nat) {vs : List α} {xs : List β}, Paired F vs xs → Paired F (vs.take n) (xs.take n)
  | 0, _, _, _ => .nil
  | _ + 1, _, _, .nil => .nil
  | n + 1, _, _, .cons d t => .cons d (ptk n t)
end

/-- the walk halts here -/
def Hold (P : Prop) : Prop := P
theorem hold_ {P : Prop} (h : Hold P) : P := h
theorem unhold {P : Prop} (h : P) : Hold P := h

theorem flat_len : ∀ l : List (List G), (∀ r ∈ l, r.length ≤ 5) → l.flatten.length ≤ 5 * l.length
  | [], _ => Nat.le_refl _
  | r :: rs, h => by
    have := flat_len rs fun q hq => h q (.tail _ hq)
    have := h r (.head _)
    rw [List.flatten_cons, List.length_append, List.length_cons]; omega
theorem rows_five {grs : List (List G)} (ok : RowsOk grs) : ∀ r ∈ grs, r.length ≤ 5 := fun r hr => by
  obtain ⟨i, hi, rfl⟩ := List.getElem_of_mem hr
  exact (ok.2 i _ (List.getElem?_eq_getElem hi)).1
theorem rows_len {grs : List (List G)} (ok : RowsOk grs) (i : Nat) : (grs.take i).flatten.length ≤ 15 := by
  have h := flat_len (grs.take i) fun r hr => rows_five ok r (List.mem_of_mem_take hr)
  have h1 := ok.1
  rw [List.length_take] at h
  omega
theorem rows_text {grs : List (List G)} (ok : RowsOk grs) {r : List G} (hr : r ∈ grs) : ∀ g ∈ r, 0 ≤ g.s ∧ g.t.cps.size ≤ 3 ∧ (ltext g).cps.size ≤ 3 := fun g hg => by
  obtain ⟨i, hi, rfl⟩ := List.getElem_of_mem hr
  have o := (ok.2 i _ (List.getElem?_eq_getElem hi)).2.1 g hg
  exact ⟨by have := o.2.2.2.2.1; omega, texts_size _ o.2.1⟩
theorem lwords_len {gs : List G} {tn : Int} (hg : ∀ g ∈ gs, (ltext g).cps.size ≤ 3) : (lwordsOf gs tn).length ≤ 4 * gs.length + 1 := by
  unfold lwordsOf
  have := (llen gs (lineTo gs tn gs.length ++ [((" " : Str), (0 : Int))]) lw0).1
  have z := lineTo_len tn hg gs.length (Nat.le_refl _)
  have e : lw0.words.length = 0 := rfl
  rw [List.length_append, List.length_singleton, e] at this
  omega

section
variable {w : World} {σ : PM}
theorem two_lists {Md Rv : Addr} {ms : List Value} {k : Nat} {grs : List (List G)} {tn : Int} (ok : RowsOk grs) (hM : σ Md = some (listOf ms.toArray k)) (hR : σ Rv = some (listOf ms.reverse.toArray 0)) (hms : Paired (GlyR w σ) ms grs.flatten) (hz : ms.length ≤ 15) :
    ∀ (j : Nat) v, [Value.ref Md, Value.ref Rv][j]? = some v → ∃ l lv k gs b, v = .ref l ∧ σ l = some (listOf (lv : List Value).toArray k) ∧ Paired (GlyR w σ) lv gs ∧ lv.length ≤ 15 ∧ (∀ g ∈ gs, 0 ≤ g.s ∧ g.t.cps.size ≤ 3) ∧
      (∀ i, 1 ≤ i → i < (lyingOf gs).length → lexB (keyOf (lyingOf gs) i) (keyOf (lyingOf gs) (i - 1)) = b) ∧ foundOf b gs tn = (dueOf grs tn).map fun y => (y.1, boxOf y.2) := fun j v hv => by
  have ht : ∀ g ∈ grs.flatten, 0 ≤ g.s ∧ g.t.cps.size ≤ 3 := fun g hg => by
    obtain ⟨r, hr, hg⟩ := List.mem_flatten.mp hg
    have := rows_text ok hr g hg
    exact ⟨this.1, this.2.1⟩
  match j with
  | 0 => cases hv; exact ⟨Md, ms, k, grs.flatten, false, rfl, hM, hms, hz, ht, keys_up (read_pw ok), found_up ok tn⟩
  | 1 => cases hv; exact ⟨Rv, ms.reverse, 0, grs.flatten.reverse, true, rfl, hR, prev hms, by rw [List.length_reverse]; exact hz, fun g hg => ht g (List.mem_reverse.mp hg), keys_down (read_rev ok), found_down ok tn⟩
  | j + 2 => cases hv
theorem four_decs {v1 v2 v3 v4 : Value} {b : Bx} (d1 : DecR w σ v1 b.a) (d2 : DecR w σ v2 b.b) (d3 : DecR w σ v3 b.c) (d4 : DecR w σ v4 b.d) : Paired (DecR w σ) [v1, v2, v3, v4] [b.a, b.b, b.c, b.d] := .cons d1 (.cons d2 (.cons d3 (.cons d4 .nil)))
theorem tolmono {σ σ' : PM} {vs : List Value} {ns : List Int} (l : Le σ σ') (p : Paired (TolR σ) vs ns) : Paired (TolR σ') vs ns := pmono (fun _ _ d => TolR.mono d l) p
end

local macro_rules | `(tactic| walk_at "call ref") => `(tactic| ((with_reducible show wpAny _ _ (call (Value.ref 286) _ _) _ _ _); (refine at_St (by assumption) (fun B' f' => ?_)); (refine' law_glyphs_spec (Rm.call (by assumption) (by decide)) B' f' ?hT ?hT0 ?hc ?hcs ?hn ?_); (case hT => exact mu_get (by assumption) (by k_mem)); (case hT0 => exact mu_off (by assumption) (by k_mem)); (case hc => assumption); (case hcs => assumption); (case hn => assumption); clear B' f'; intro a' ys' k1' grs' h' tk' s' at' t2' k' G' e' hat' hD' P' ok'; (have S' := by first | exact St.growX (by assumption) G' e' | exact St.growX1 (by assumption) G' e' | exact St.growX2 (by assumption) G' e'); (have l' := GrowX.sub G')))
local macro_rules | `(tactic| walk_at "call ref") => `(tactic| ((with_reducible show wpAny _ _ (call (Value.ref 225) _ _) _ _ _); (refine at_St (by assumption) (fun B' f' => ?_)); (refine glyph_new (Rm.call (by assumption) (by decide)) B' f' (by ktr_rel) (by ktr_rel) (by ktr_rel) (by ktr_rel) ?_); clear B' f'; intro v' h' tk' s' G' D'; (have S' := St.grow (by assumption) G'); (have l' := Grow.sub G')))
local macro_rules | `(tactic| walk_at "call ref") => `(tactic| ((with_reducible show wpAny _ _ (call (Value.ref 296) _ _) _ _ _); (refine at_St (by assumption) (fun B' f' => ?_)); (refine law_words_spec (Rm.call (by assumption) (by decide)) B' f' (by assumption) (by assumption) (by assumption) (by assumption) (by assumption) ?_); clear B' f'; intro a' ys' k' h' tk' s' G' hD' P'; (have S' := St.grow (by assumption) G'); (have l' := Grow.sub G')))
local macro_rules | `(tactic| walk_at "call ref") => `(tactic| ((with_reducible show wpAny _ _ (call (Value.ref 271) _ _) _ _ _); (refine at_St (by assumption) (fun B' f' => ?_)); (refine words_of_spec (Rm.call (by assumption) (by decide)) B' f' (by assumption) (by assumption) (by assumption) (by assumption) (by assumption) (mu_get (by assumption) (by k_mem)) (mu_off (by assumption) (by k_mem)) (by assumption) (by assumption) ?_); clear B' f'; intro a' ys' k' h' tk' s' p' G' e' T' hD' P'; (have S' := by first | exact St.growX (by assumption) G' e' | exact St.growX1 (by assumption) G' e' | exact St.growX2 (by assumption) G' e'); (have l' := GrowX.sub G')))
local macro_rules | `(tactic| walk_at "eval BoolOp") => `(tactic| ((fail_if_success (with_reducible show wpAny _ _ _ (OrEnd _ _ _ _ _ _ _ _) _ _)); (refine' n_or ?S ?h1 ?h2); (case S => assumption); (case' h2 => intro c' cs' kc' ns' h' tk' s2' l' hc' hcs' hn' S')))
local macro_rules | `(tactic| walk_at "call type:list") => `(tactic| ((refine' n_listl ?S ?hl ?hz ?_); (case S => assumption); (case hl => exact fro_get (by assumption) (by assumption)); (case hz => first | assumption | omega | (simp; omega)); intro D' h' s' k' l' hD' G' S'))
local macro_rules | `(tactic| walk_at "pyIter ref") => `(tactic| (refine hold_ ?_))
local macro_rules | `(tactic| walk_at "exec For Name Name cons nil") => `(tactic| ((refine' for_ ?hs ?_); (case hs => (intro _; with_unfolding_all rfl))))
local macro_rules | `(tactic| walk_at "exec For Name Name cons") => `(tactic| ((refine' for_ ?hs ?_); (case hs => (intro _; with_unfolding_all rfl))))
local macro_rules | `(tactic| walk_at "exec For Name Name") => `(tactic| ((refine' for_ ?hs ?_); (case hs => (intro _; with_unfolding_all rfl))))
local macro_rules | `(tactic| walk_at "exec For Name Tuple cons cons nil") => `(tactic| ((refine' for_ ?hs ?_); (case hs => (intro _; with_unfolding_all rfl))))
local macro_rules | `(tactic| walk_at "exec For Name Tuple cons cons") => `(tactic| ((refine' for_ ?hs ?_); (case hs => (intro _; with_unfolding_all rfl))))
local macro_rules | `(tactic| walk_at "exec For Name Tuple cons") => `(tactic| ((refine' for_ ?hs ?_); (case hs => (intro _; with_unfolding_all rfl))))
local macro_rules | `(tactic| walk_at "exec For Name Tuple") => `(tactic| ((refine' for_ ?hs ?_); (case hs => (intro _; with_unfolding_all rfl))))
local macro_rules | `(tactic| walk_at "compareOp NotEq ref ref") => `(tactic| (refine hold_ ?_))
local macro_rules | `(tactic| walk_at "call type:tuple") => `(tactic| (refine hold_ ?_))
local macro_rules | `(tactic| walk_at "eval Subscript") => `(tactic| ((with_reducible show wpAny _ _ (eval (Expr.Subscript _ (Expr.Slice none none (some _) _) _) _) _ _ _); (refine' sub_slice3 ?_ ?ht); (case ht => (intro _ _; with_unfolding_all rfl))))
local macro_rules | `(tactic| walk_at "subscriptTail Name Constant ref int") => `(tactic| (refine hold_ ?_))
local macro_rules | `(tactic| walk_at "binaryOp Add ref ref") => `(tactic| (refine hold_ ?_))

theorem law_start {w : World} {hg h₁ : Heap} {L : Addr} {o : Obj} {m mg mb : Str → Option Value} {p : Program} {loose : List Str} {mean : ExcName → Option Value} (X : (hd.heap_1 w.params).In hg) (T : Top p loose mean mg mb hg) (F : Fr hg L h₁ m) (N : News hg L h₁ [(238, o)]) :
    St w hg.get? hg.get? hg.get? L m [(238, o)] h₁ where
  base := ⟨X, ⟨mg, T.g⟩, ⟨mb, T.b, T.builtins⟩, T.nolimit, let ⟨bm, ob, a1, a2, a3, r⟩ := T.bmain; ⟨mg, bm, ob, T.g, a1, a2, a3, r⟩⟩
  kk := F.keep
  fro := F.keep
  ns := F.ns
  kL := get_none_size F.above
  sL := get_none_size F.above
  mu := fun p hp => ⟨(N p hp).1, (N p hp).2.1, (N p hp).2.2, (N p hp).2.2⟩
  nd := by simp
  sub := Le.refl _
  new := fun a o e => .inl e
def LEnd (hg : Heap) (L : Addr) (s : Shared) (f : Flow) (s' : Shared) : Prop := f = .ret (.bool true) ∧ s'.gens = s.gens ∧ s'.os = s.os ∧ ∃ m ps, Fr hg L s'.heap m ∧ s'.heap.get? 238 = some (tabObj ps)
theorem rm_three {A : Around} (h : Rm A 1) : A.units + 3 < cLine := by have := h.un; show A.units + 3 < 9900; omega
theorem rm_caller : Rm callerA 40 := ⟨rfl, by decide, by decide⟩

theorem law_holds : PySem.Challenge.rw_pb0474_01.Holds := by
  refine holds_law said fun k1 => ?_
  refine PySem.W.holds_open (r := OpenLaw.row PySem.Challenge.rw_pb0474_01) (q := vw) (loose := lo) (Xt := xt) (XP := XL vw []) (Yf := Hook.obs (kmHook Mine.hd.heap_1 ads ads_at [238])) (Ya := Hook.val (kmHook Mine.hd.heap_1 ads ads_at [238])) (YP := Hook.says (kmHook Mine.hd.heap_1 ads ads_at [238])) (N := 3722) left_ (Hook.of (kmHook Mine.hd.heap_1 ads ads_at [238])) (Hook.keeps (kmHook Mine.hd.heap_1 ads ads_at [238])) (fun s e => xl_of s (Bool.and_eq_true_iff.mp e).1) XL.keeps (by rfl) (by rfl) (by rfl) (fun s e => recFacts_of (Bool.and_eq_true_iff.mp e).2) (by rfl) k1 oks ⟨rfl, rfl, rfl, rfl, rfl, by decide +kernel⟩ ?hw ?hc
  case hw => w_witness2
  clear k1
  k_go0
  rename_i w s0 s1 mg mb G0 Y0 fa o0 pm0 cd0 doc0 kV0 ho0 hcd0 hgens X0 V0 T0 B0 TE0 TW0 ns0 hs0 hlay0 hL0 hr0 hl2 w4 w3 sc vs0 w0 hL1 ra0 wl0 rd0 hI hr1 hlen hco hD0 h1 X1 T1 K1 F1 N1 lt1
  have S := law_start X1 T1 F1 N1
  have hA := rm_caller
  refine wcut (Q' := LEnd (ghostOf s1.heap [(240, 238)]) s1.heap.objs.size s1) ?_ ?_
  case refine_2 =>
    rintro f s' ⟨rfl, e1, e2, m', ps, F2, hp⟩
    exact ⟨goodW_bool F2 (e1.trans hgens) (fun _ => rfl) (law_post _) e2, ⟨ps, hp⟩, trivial⟩
  have e0 := lookup_rev [(Str.ofString "script", Value.ref sc)]
  replace S : St w (ghostOf s1.heap [(240, 238)]).get? (ghostOf s1.heap [(240, 238)]).get? (ghostOf s1.heap [(240, 238)]).get? s1.heap.objs.size (setm m0 "script" (.ref sc)) [(238, tabObj #[])] h1 := by
    have e := S
    rw [e0] at e
    exact e
  have lst := lifted
  have hLs : (ghostOf s1.heap [(240, 238)]).objs.size ≤ s1.heap.objs.size := F1.above
  generalize (ghostOf s1.heap [(240, 238)]) = hg at S lst hLs ⊢
  clear G0 Y0 ho0 hcd0 hT8 X0 V0 T0 B0 TE0 TW0 hT9 hs0 hlay0 hL0 hr0 hl2 ra0 wl0 rd0 hr1 hco hD0 X1 T1 K1 F1 N1 lt1 codeHd lifted e0 hL1
  dsimp only
  have zl : vs0.length = ns0.length := hI.length
  iterate 5 (first | walk1 | (dsimp only; walk1))
  rotate_left
  · iterate 10 (first | walk1 | (dsimp only; walk1))
    have zt : (vs0.take 60).length ≤ 60 := by rw [List.length_take]; omega
    have pt : Paired IntV (vs0.take 60) (ns0.take 60) := ptk 60 (paired_ints hI)
    have zt2 : (vs0.take 60).length ≤ 1000 := by omega
    refine slice_to (n := 60) S (by obtain ⟨o, ho, r⟩ := lst; exact ⟨o, S.kk _ _ ho, r⟩) (by omega) ?_
    generalize vs0.take 60 = vs1 at zt pt zt2
    generalize ns0.take 60 = ns1 at pt
    intro D2 h2 σ2 l2 hD2 G2 S2
    iterate 2 (first | walk1 | (dsimp only; walk1))
    rename_i D3 h3 s3 k3 l3 hD3 G3 S3
    refine wpAny_truthy_list ⟨_, fro_get S3 hD3, rfl, _, rfl⟩ (by rw [List.size_toArray]; omega) ?_
    cases vs1 with
    | nil =>
      dsimp only [List.size_toArray, List.length_nil]
      rw [if_neg (by simp)]
      iterate 6 (first | walk1 | (dsimp only; walk1))
      rename_i a4 h4 S4 l4
      exact ⟨a4, [.int 0 _], _, [0], _, _, _, rfl, rfl, (l2.trans l3).trans (upd_le (S4.mu _ (.head _)).2.2.2), upd_same _ _ _, .cons ⟨_, rfl⟩ .nil, ⟨by decide, by decide⟩, S4.freeze⟩
    | cons v1 vr =>
      dsimp only [List.size_toArray]
      rw [if_pos (by simp)]
      cases ns1 with
      | nil => cases pt
      | cons n1 nr =>
      exact ⟨_, _, _, n1 :: nr, _, _, _, rfl, rfl, l2.trans l3, hD3, pt, ⟨by simp, by rw [← pt.length]; exact zt⟩, S3⟩
  · repeat' (first | walk1 | (dsimp only; walk1))
    refine unhold ?_
    rename_i c2 cs2 kc2 ns2 h2 tk2 σ2 l2 hc2 hcs2 hn2 S2 T h3 S3 l3 h4 S4 R rv kR grs h5 tk5 σ5 at5 t5 k5 G5 e5 hat5 hR P5 ok5 S5 l5 h6 S6 tn tt h7 tk7 σ7 t7 k7 tn0 tn1 G7 e7 S7 l7 h8 S8 Md h9 S9 l9 h10 S10
    replace S10 := S10.drop1
    replace hR := l7 _ _ hR
    replace P5 := trmono l7 P5
    have l10 := l2.trans (l5.trans l7)
    clear S2 S3 S4 S5 S6 S7 S8 S9 G5 e5 G7 e7 hc2 hcs2 l2 l3 l5 l7 l9
    have zR : rv.length = grs.length := P5.length
    refine loopS (src_list (hd_deeper hA.hd) S10 hR) S10 (fun i σ' m' μ' => m' "rows" = some (.ref R) ∧ m' "tenths" = some (.int tn tt) ∧ m' "made" = some (.ref Md) ∧ ∃ ms k, μ' = [(Md, listOf (ms : List Value).toArray k), (238, tabObj #[])] ∧ Paired (GlyR w σ') ms (grs.take i).flatten)
      ⟨by tb_rel, by tb_rel, by tb_rel, [], _, rfl, .nil⟩ ?_ ?_
    · rintro i v σ' m' μ' κ' h11 tk11 hi hvi hl11 ⟨m1, m2, m3, ms, kM, rfl, hms⟩ S11
      obtain ⟨r, hr, lr, vr, kr, rfl, hlr, hpr⟩ := pat P5 hvi
      replace hlr := hl11 _ _ hlr
      replace hpr := tmono hl11 hpr
      repeat' (first | walk1 | (dsimp only; walk1))
      refine unhold ?_
      rename_i h12 S12
      have zr : vr.length = r.length := hpr.length
      have zr5 := rows_five ok5 r (List.mem_of_getElem? hr)
      have zm := rows_len ok5 i
      have hflat : (grs.take (i + 1)).flatten = (grs.take i).flatten ++ r := by rw [take_snoc hr, List.flatten_append]; simp
      refine loopS (src_list (hd_deeper hA.hd) S12 hlr) S12 (fun j σ'' m'' μ'' => m'' "rows" = some (.ref R) ∧ m'' "tenths" = some (.int tn tt) ∧ m'' "made" = some (.ref Md) ∧ ∃ ms k, μ'' = [(Md, listOf (ms : List Value).toArray k), (238, tabObj #[])] ∧ Paired (GlyR w σ'') ms ((grs.take i).flatten ++ r.take j))
        ⟨by tb_rel, by tb_rel, by tb_rel, ms, _, rfl, by simpa using hms⟩ ?_ ?_
      · rintro j v σ'' m'' μ'' κ'' h13 tk13 hj hvj hl13 ⟨q1, q2, q3, ms2, kM2, rfl, hms2⟩ S13
        obtain ⟨g, hg', a0, p1, p2, p3, p4, p5, rfl, hb0⟩ := pat hpr hvj
        replace hb0 := hl13 _ _ hb0
        have zm2 := hms2.length
        rw [List.length_append, List.length_take] at zm2
        repeat' (first | walk1 | (dsimp only; walk1))
        refine unhold ?_
        refine n_titem (vs := [.str g.t p1, .int g.x p2, .int g.y p3, .int g.w p4, .int g.s p5]) (fro_get (by assumption) hb0) (by decide) (by decide) rfl rfl ?_ (by with_unfolding_all rfl)
        repeat' (first | walk1 | (dsimp only; walk1))
        refine unhold ?_
        refine n_titem (vs := [.str g.t p1, .int g.x p2, .int g.y p3, .int g.w p4, .int g.s p5]) (fro_get (by assumption) hb0) (by decide) (by decide) rfl rfl ?_ (by with_unfolding_all rfl)
        repeat' (first | walk1 | (dsimp only; walk1))
        rename_i v1 h14 tk14 σ14 G14 D14 S14 l14
        replace hb0 := l14 _ _ hb0
        refine unhold ?_
        refine n_titem (vs := [.str g.t p1, .int g.x p2, .int g.y p3, .int g.w p4, .int g.s p5]) (fro_get (by assumption) hb0) (by decide) (by decide) rfl rfl ?_ (by with_unfolding_all rfl)
        repeat' (first | walk1 | (dsimp only; walk1))
        rename_i v2 h15 tk15 σ15 G15 D15 S15 l15
        replace hb0 := l15 _ _ hb0
        refine unhold ?_
        refine n_titem (vs := [.str g.t p1, .int g.x p2, .int g.y p3, .int g.w p4, .int g.s p5]) (fro_get (by assumption) hb0) (by decide) (by decide) rfl rfl ?_ (by with_unfolding_all rfl)
        repeat' (first | walk1 | (dsimp only; walk1))
        rename_i v3 h16 tk16 σ16 G16 D16 S16 l16
        replace hb0 := l16 _ _ hb0
        refine unhold ?_
        refine n_titem (vs := [.str g.t p1, .int g.x p2, .int g.y p3, .int g.w p4, .int g.s p5]) (fro_get (by assumption) hb0) (by decide) (by decide) rfl rfl ?_ (by with_unfolding_all rfl)
        repeat' (first | walk1 | (dsimp only; walk1))
        rename_i v4 h17 tk17 σ17 G17 D17 S17 l17 v5 h18 tk18 σ18 G18 D18 S18 l18 h19 k19 S19
        refine tend S19 (by tb_start) ⟨by tb_rel, by tb_rel, by tb_rel, _, _, rfl, ?_⟩
        rw [take_snoc hg', ← List.append_assoc]
        exact papp (gmono (by tb_start) hms2) (.cons D18 .nil)
      · rintro σ'' m'' μ'' h13 tk13 hl13 ⟨q1, q2, q3, ms2, kM2, rfl, hms2⟩ S13
        rw [zr, List.take_length, ← hflat] at hms2
        repeat' (first | walk1 | (dsimp only; walk1))
        exact tend S13 hl13 ⟨q1, q2, q3, _, _, rfl, hms2⟩
    · rintro σ' m' μ' h11 tk11 hl11 ⟨m1, m2, m3, ms, kM, rfl, hms⟩ S11
      rw [zR, List.take_length] at hms
      have SM := S11.freeze
      have lM : Le σ' _ := upd_le (o := listOf ms.toArray kM) (S11.mu _ (.head _)).2.2.2
      have hM := upd_same σ' Md (listOf ms.toArray kM)
      generalize upd σ' Md (listOf ms.toArray kM) = σM at SM lM hM
      replace hms := gmono lM hms
      replace hR := (hl11.trans lM) _ _ hR
      replace P5 := trmono (hl11.trans lM) P5
      clear S11 S10 hl11 lM
      repeat' (first | walk1 | (dsimp only; walk1))
      refine unhold ?_
      rename_i Du h20 S20 l20 h21 S21
      have SD := S21.freeze
      have lD : Le σM _ := upd_le (o := listOf ([] : List Value).toArray 0) (S21.mu _ (.head _)).2.2.2
      have hD := upd_same σM Du (listOf ([] : List Value).toArray 0)
      replace SD : St w _ _ (upd σM Du (listOf ([] : List Value).toArray 0)) _ _ _ _ := SD
      generalize upd σM Du (listOf ([] : List Value).toArray 0) = σD at SD lD hD
      replace hms := gmono lD hms
      replace hM := lD _ _ hM
      replace hR := lD _ _ hR
      replace P5 := trmono lD P5
      clear S20 S21 SM l20 lD
      have hk : 0 ≤ tn ∧ tn < 100 := ⟨tn0, by omega⟩
      refine loopS (src_list (hd_deeper hA.hd) SD hR) SD (fun i σ' m' μ' => μ' = [(238, tabObj #[])] ∧ m' "rows" = some (.ref R) ∧ m' "tenths" = some (.int tn tt) ∧ m' "made" = some (.ref Md) ∧ ∃ D ys k, m' "due" = some (.ref D) ∧ σ' D = some (listOf (ys : List Value).toArray k) ∧ ys.length ≤ 30 * i ∧
          Paired (LWordR σ') ys (((grs.take i).map lyingOf).flatMap fun r => lwordsOf r tn))
        ⟨rfl, by tb_rel, by tb_rel, by tb_rel, Du, [], _, by tb_rel, hD, Nat.le_refl _, .nil⟩ ?_ ?_
      · rintro i v σ' m' μ' κ' h22 tk22 hi hvi hl22 ⟨rfl, m1, m2, m3, D, ys, kD, m4, hDu, zy, hys⟩ S22
        obtain ⟨r, hr, lr, vr, kr, rfl, hlr, hpr⟩ := pat P5 hvi
        replace hlr := hl22 _ _ hlr
        replace hpr := tmono hl22 hpr
        have zr : vr.length = r.length := hpr.length
        have zr5 := rows_five ok5 r (List.mem_of_getElem? hr)
        have ht := rows_text ok5 (List.mem_of_getElem? hr)
        have hdue : ((grs.take (i + 1)).map lyingOf).flatMap (fun r => lwordsOf r tn) = ((grs.take i).map lyingOf).flatMap (fun r => lwordsOf r tn) ++ lwordsOf (lyingOf r) tn := by rw [take_snoc hr]; simp
        repeat' (first | walk1 | (dsimp only; walk1))
        refine comp1S (src_list (hd_deeper hA.hd) (by assumption) hlr) (by assumption) (by decide) rfl (by omega) (fun j σ'' zs => Paired (TupR σ'') zs (lyingOf (r.take j)) ∧ zs.length ≤ j) ⟨.nil, Nat.le_refl _⟩ ?_ ?_
        · rintro C DD j v σ'' m'' zs kk2 κ'' h23 tk23 hj hvj hl23 hk23 ⟨hzs, zz⟩ S23
          obtain ⟨g, hg', a0, p1, p2, p3, p4, p5, rfl, hb0⟩ := pat hpr hvj
          replace hb0 := hl23 _ _ hb0
          have hfil : lyingOf (r.take (j + 1)) = lyingOf (r.take j) ++ (if (g.t != ("" : Str)) = true then [g] else []) := by
            rw [take_snoc hg']; unfold lyingOf; rw [List.filter_append]; simp [List.filter_cons]
          repeat' (first | walk1 | (dsimp only; walk1))
          refine unhold ?_
          refine n_titem (vs := [.str g.t p1, .int g.x p2, .int g.y p3, .int g.w p4, .int g.s p5]) (fro_get (by assumption) hb0) (by decide) (by decide) rfl rfl ?_ (by with_unfolding_all rfl)
          repeat' (first | walk1 | (dsimp only; walk1))
          · refine eend (by assumption) (by tb_start) ⟨?_, by simp; omega⟩
            rw [hfil, if_pos (by assumption)]
            exact papp hzs (.cons ⟨a0, p1, p2, p3, p4, p5, rfl, hb0⟩ .nil)
          · rename_i hne
            refine eend (by assumption) (by tb_start) ⟨?_, by omega⟩
            rw [hfil, if_neg (fun e => by rw [show (g.t != ("" : Str)) = false from hne] at e; cases e), List.append_nil]
            exact hzs
        · rintro D30 σp30 σ30 zs30 kk30 h30 tk30 lp30 ⟨hzs30, zz30⟩ hD30 G30 S30
          rw [take_all hpr] at hzs30
          replace hzs30 := tmono lp30 hzs30
          have l30 := G30.sub
          have zl30 : zs30.length ≤ 15 := by omega
          have ht2 : ∀ g ∈ lyingOf r, g.t.cps.size ≤ 3 ∧ (ltext g).cps.size ≤ 3 := fun g hg => (ht g (lying_mem.mp hg).1).2
          repeat' (first | walk1 | (dsimp only; walk1))
          refine unhold ?_
          rename_i a40 ys40 k40 h40 tk40 σ40 G40 hD40 P40 S40 l40
          have zq := P40.length
          have zq2 := lwords_len (tn := tn) fun g hg => (ht2 g hg).2
          have zq3 : (lyingOf r).length ≤ r.length := List.length_filter_le _ _
          have zi : i < 3 := by have := ok5.1; omega
          refine n_addl S40 (fro_get S40 ((l30.trans l40) _ _ hDu)) (fro_get S40 hD40) (by omega) ?_
          intro D41 h41 σ41 l41 hD41 G41 S41
          repeat' (first | walk1 | (dsimp only; walk1))
          rename_i h42 S42
          refine tend S42 (by tb_start) ⟨rfl, by tb_rel, by tb_rel, by tb_rel, D41, _, _, by tb_rel, hD41, by rw [List.length_append]; omega, ?_⟩
          rw [hdue]
          exact papp (lwmono (by tb_start) hys) (lwmono l41 P40)
      · rintro σ' m' μ' h22 tk22 hl22 ⟨rfl, m1, m2, m3, D, ys, kD, m4, hDu, zy, hys⟩ S22
        rw [zR, List.take_length] at hys
        have hdf := due_found ok5 (tn := tn) hys
        replace hM := hl22 _ _ hM
        replace hms := gmono hl22 hms
        have zms := hms.length
        have zfl := rows_len ok5 grs.length
        rw [List.take_length] at zfl
        clear hR P5 hD SD hys
        repeat' (first | walk1 | (dsimp only; walk1))
        refine slice_rev (by assumption) (fro_get (by assumption) hM) (by omega) ?_
        intro Rv h50 σ50 l50 hRv G50 S50
        repeat' (first | walk1 | (dsimp only; walk1))
        refine unhold ?_
        rename_i tA h51 σ51 l51 htA G51 S51
        have hMs := two_lists (tn := tn) ok5 ((l50.trans l51) _ _ hM) (l51 _ _ hRv) (gmono (l50.trans l51) hms) (by omega)
        replace hdf := dumono (l50.trans l51) hdf
        replace hDu := (l50.trans l51) _ _ hDu
        have zdf := hdf.length
        have zg3 := ok5.1
        clear hM hRv hms G50 G51 S22 S50 hl22
        generalize (dueOf grs tn).map (fun y => (y.1, boxOf y.2)) = FD at hMs hdf zdf
        refine loopS (src_tuple (vs := [.ref Md, .ref Rv]) (hd_deeper hA.hd) S51 htA) S51 (fun i σ' m' μ' => m' "tenths" = some (.int tn tt) ∧ m' "due" = some (.ref D) ∧ ∃ ps, μ' = [(238, tabObj ps)] ∧ TabR σ' "glyph_rows.<locals>.<lambda>" 124 42 ps) ⟨m2, m4, _, rfl, .inl rfl⟩ ?_ ?_
        · rintro i v σ' m' μ' κ' h60 tk60 hi hvi hl60 ⟨q1, q2, ps, rfl, hT⟩ S60
          obtain ⟨lq, lv, kq, gq, b, rfl, hlq, hpq, zq, hgq, hbq, hfq⟩ := hMs i v hvi
          replace hlq := hl60 _ _ hlq
          replace hpq := gmono hl60 hpq
          replace hdf := dumono hl60 hdf
          replace hDu := hl60 _ _ hDu
          repeat' (first | walk1 | (dsimp only; walk1))
          rename_i h61 S61 a62 ys62 k62 h62 tk62 σ62 ps62 G62 e62 T62 hD62 P62 S62 l62 h63 S63
          rw [hfq] at P62
          have z62 := P62.length
          replace hdf := dumono l62 hdf
          replace hDu := l62 _ _ hDu
          refine comp1S (src_list (hd_deeper hA.hd) S63 hD62) S63 (by decide) rfl (by omega) (fun j σ'' zs => Paired (DueR σ'') zs (FD.take j)) .nil ?_ ?_
          · rintro C DD j v σ'' m'' zs kk2 κ'' h64 tk64 hj hvj hl64 hk64 hzs S64
            obtain ⟨x, hx, aw, tw, bw, rfl, haw, ab, v1, v2, v3, v4, rfl, hab, d1, d2, d3, d4⟩ := pat P62 hvj
            replace haw := hl64 _ _ haw
            replace hab := hl64 _ _ hab
            have h4 := dmono hl64 (four_decs d1 d2 d3 d4)
            repeat' (first | walk1 | (dsimp only; walk1))
            rename_i h65 S65 h66 S66 h67 S67
            refine comp1S (src_tuple (vs := [v1, v2, v3, v4]) (hd_deeper hA.hd) S67 hab) S67 (by decide) rfl (by simp) (fun n σ3 ws => Paired (TolR σ3) ws ([x.2.a, x.2.b, x.2.c, x.2.d].take n)) .nil ?_ ?_
            · rintro C3 D3 n v σ3 m3 ws kk3 κ3 h68 tk68 hn hvn hl68 hk68 hws S68
              obtain ⟨q, hq, dq⟩ := pat h4 hvn
              replace dq := dq.mono hl68
              repeat' (first | walk1 | (dsimp only; walk1))
              refine eend (by assumption) (by tb_start) ?_
              rw [take_snoc hq]
              exact papp (tolmono (by tb_start) hws) (.cons ⟨_, _, _, rfl, by assumption⟩ .nil)
            · intro D70 σp70 σ70 ws70 kk70 h70 tk70 lp70 hws70 hD70 G70 S70
              rw [take_all h4] at hws70
              replace hws70 := tolmono lp70 hws70
              have l70 := G70.sub
              have z70 : ws70.length = 4 := hws70.length
              repeat' (first | walk1 | (dsimp only; walk1))
              refine unhold ?_
              refine n_tuplel S70 (fro_get S70 hD70) (by omega) ?_
              intro D71 h71 σ71 l71 hD71 G71 S71
              repeat' (first | walk1 | (dsimp only; walk1))
              rename_i a72 h72 σ72 l72 t72 g72 S72
              refine eend (by assumption) (by tb_start) ?_
              rw [take_snoc hx]
              exact papp (dumono (by tb_start) hzs) (.cons ⟨a72, tw, .ref D71, rfl, t72, D71, ws70, rfl, l72 _ _ hD71, tolmono (l71.trans l72) hws70⟩ .nil)
          · intro D80 σp80 σ80 zs80 kk80 h80 tk80 lp80 hzs80 hD80 G80 S80
            rw [take_all P62] at hzs80
            replace hzs80 := dumono lp80 hzs80
            have l80 := G80.sub
            replace hdf := dumono l80 hdf
            replace hDu := l80 _ _ hDu
            replace T62 := T62.mono l80
            repeat' (first | walk1 | (dsimp only; walk1))
            refine unhold ?_
            refine n_ne_due (fro_get S80 hD80) (fro_get S80 hDu) S80.fro (rm_three (Rm.call hA (by decide))) hzs80 hdf ?_
            repeat' (first | walk1 | (dsimp only; walk1))
            exact tend S80 (l62.trans l80) ⟨by tb_rel, by tb_rel, _, rfl, T62⟩
        · rintro σ' m' μ' h60 tk60 hl60 ⟨q1, q2, ps, rfl, hT⟩ S60
          repeat' (first | walk1 | (dsimp only; walk1))
          exact ⟨rfl, rfl, rfl, m', ps, ⟨S60.ns, S60.kk, hLs⟩, (S60.mu _ (.head _)).1⟩

end Mine

theorem PySem.Challenge.cw_pb0474_01_holds : PySem.Challenge.rw_pb0474_01.Holds :=
  Mine.law_holds
