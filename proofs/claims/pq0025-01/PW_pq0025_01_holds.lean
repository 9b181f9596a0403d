import PyProof.Rows.All
import Wide.All
import OpenK.AllK
import Wide.FinOn
import PySem.Challenge.RW_pq0025_01
set_option Elab.async false

section
open PySem PySem.W PyProof.Rows
set_option maxRecDepth 100000
set_option maxHeartbeats 8000000
namespace Mine
theorem left_of {p q : Program} {loose : List Str} {Xt : Shared → Bool} {α : Type} {Yf : Shared → α} {Ya : World → α} {N : Nat} {g0 : Bool} (row : String)
    (e : opening p = plainProg p.main.scope.names) (hN : Nat.ble 600 N = true) (f : ∀ s, fenceModules? p s = some s)
    (hf : ∀ (w : World), (fun os => (topFrom treeTable p (w.withFollow row false) N ⟨boot_heap w.params, #[], boot_drawn, boot_toks, os⟩).map (fun s => (openSeen q loose (importedModules p.main.body) Xt g0 s, Yf s))) = fun _ => some (openGood q loose, Ya (w.withFollow row false)))
    (ht : ∀ (w : World), (fun os => (topFrom treeTable p (w.withFollow row true) N ⟨boot_heap w.params, #[], boot_drawn, boot_toks, os⟩).map (fun s => (openSeen q loose (importedModules p.main.body) Xt g0 s, Yf s))) = fun _ => some (openGood q loose, Ya (w.withFollow row true))) : LeftO p q loose Xt Yf Ya N g0 := fun w => by
  obtain ⟨⟨h, gs, d, k, os⟩, e1, e2⟩ := Option.map_eq_some_iff.mp (boot_open e hN f w)
  obtain ⟨rfl, rfl, rfl, rfl⟩ : h = boot_heap w.params ∧ gs = #[] ∧ d = boot_drawn ∧ k = boot_toks := by simpa using e2
  unfold openEnds
  rw [e1]
  have e3 := World.withFollow_self w row
  show (topFrom treeTable p w N ⟨boot_heap w.params, #[], boot_drawn, boot_toks, os⟩).map _ = _
  cases hb : w.params.followText row <;> rw [hb] at e3
  · have := congrFun (hf w) os
    rw [e3] at this
    exact this
  · have := congrFun (ht w) os
    rw [e3] at this
    exact this
noncomputable def keepS : List Bool → List Stmt → List Stmt
  | true :: bs, x :: xs => x :: keepS bs xs
  | false :: bs, _ :: xs => keepS bs xs
  | _, _ => []
noncomputable def view : Program := { PySem.Challenge.pw_pq0025_01 with main := { PySem.Challenge.pw_pq0025_01.main with body := keepS [true, false, true, true, false, true, true, true, false, true, true, true, false, true, false, true, true, true, true, false, true, true, true, true, true, true, true, true] PySem.Challenge.pw_pq0025_01.main.body } }
noncomputable def viewVals : List (Str × WData) := [(Str.ofString "A", .tuple [.str { cps := #[63, 97] }]), (Str.ofString "B", .tuple [.str { cps := #[63, 98] }]), (Str.ofString "C", .tuple [.str { cps := #[63, 99] }])]
theorem said : OpenLaw.wellSaid PySem.Challenge.rw_pq0025_01 = true := by
  rw [PySem.W.Fast.te9446332074065402090]
  kernel_rfl
noncomputable abbrev looksL (s : Shared) : Bool := xlAt view viewVals s && recOk (RowW.records (OpenRow.toRowW (OpenLaw.row PySem.Challenge.rw_pq0025_01))) s
abbrev looseL : List Str := [Str.ofString "A", Str.ofString "B", Str.ofString "C"]
theorem headL (H : Hook) {d : DefRec} {kwd : List (Str × PySem.Expr)} (e1 : defOf view (OpenLaw.row PySem.Challenge.rw_pq0025_01).name = some (d, kwd)) (e2 : (OpenLaw.row PySem.Challenge.rw_pq0025_01).prog.theDef (OpenLaw.row PySem.Challenge.rw_pq0025_01).name = some (d.params, d.body, d.scope)) (e3 : kwWritten? d.params.kwonlyargs d.params.kw_defaults = some kwd)
    (hw : (OpenLaw.row PySem.Challenge.rw_pq0025_01).promised) (x : LeftO (OpenLaw.row PySem.Challenge.rw_pq0025_01).prog view looseL looksL H.obs H.val 3790 ∧ WalkO view looseL (XL view viewVals) H.says (OpenLaw.row PySem.Challenge.rw_pq0025_01).toRowW d kwd fun f vs => call f vs) : (OpenLaw.row PySem.Challenge.rw_pq0025_01).Holds :=
  holds_open (q := view) (loose := looseL) (Xt := looksL) (XP := XL view viewVals) (Yf := H.obs) (Ya := H.val) (YP := H.says) (N := 3790) x.1 H.of H.keeps (fun s e => xl_of s (Bool.and_eq_true_iff.mp e).1) XL.keeps e1 e2 e3
    (fun s e => recFacts_of (Bool.and_eq_true_iff.mp e).2) (by rfl) (row_said said) (by decide +kernel) ⟨rfl, rfl, rfl, rfl, rfl, by decide +kernel⟩ hw x.2
section
local macro_rules | `(tactic| o_law) => `(tactic| refine holds_law said fun _ => ?_)
local macro_rules | `(tactic| o_head $H) => `(tactic| refine headL $H (by rfl) (by rfl) (by rfl) ?hw ?hc)
open_top hd for PySem.Challenge.rw_pq0025_01
end
noncomputable def heapAs : List Addr := [2, 3, 15, 17, 18, 20, 21, 22, 25, 26, 27, 30, 35, 36, 38, 39, 41, 42, 43, 45, 46, 48, 49, 50, 51, 52, 53, 56, 63, 64, 65, 68, 75, 76, 77, 80, 82, 83, 85, 86, 87, 90, 91, 92, 95, 96, 104, 107, 108, 109, 111, 112, 114, 115, 116, 117, 118, 119, 120, 123, 124, 125, 130, 132, 133, 135, 136, 137, 139, 140, 142, 143, 151, 153, 154, 156, 157, 158, 160, 161, 163, 164, 165, 168, 169, 170, 171, 172, 173, 174, 177, 178, 180, 181, 183, 184, 185, 187, 188, 190, 191, 192, 194, 195, 197, 198, 199, 202, 203, 204, 206, 207, 209, 210, 211, 213, 214, 216, 217, 218, 221, 222]
noncomputable abbrev progL := RowW.prog (OpenRow.toRowW (OpenLaw.row PySem.Challenge.rw_pq0025_01))
abbrev TopsOut (b : Bool) : Prop := ∀ w : World, (fun os => (topFrom treeTable progL (w.withFollow "special-get-raises" b) 3790 ⟨boot_heap w.params, #[], boot_drawn, boot_toks, os⟩).map (fun s => (openSeen view looseL (importedModules progL.main.body) looksL true s, heapAs.map s.heap.get?))) = fun _ => some (openGood view looseL, (hd.heap_1 (w.withFollow "special-get-raises" b).params).map fun p => some p.2)
theorem left_f : TopsOut false := by intro w; kernel_rfl
theorem left_t : TopsOut true := by intro w; kernel_rfl
theorem left_e : opening progL = plainProg progL.main.scope.names := by kernel_rfl
theorem left_m (s : Shared) : fenceModules? progL s = some s := by kernel_rfl
theorem left : LeftO progL view looseL looksL (fun s => heapAs.map s.heap.get?) (fun w => (hd.heap_1 w.params).map fun p => some p.2) 3790 := left_of "special-get-raises" left_e rfl left_m left_f left_t
end Mine
end

theorem Mine.reset_S1 : True := by
  w_top off
  k_with_none
  exact trivial
section
open PySem
set_option maxRecDepth 100000
set_option maxHeartbeats 4000000
namespace Mine
theorem orStandIn_keeps (t : SetTable) (n : Nat) : (t.orStandIn n).led = t.led ∧ ((t.orStandIn n).plain = true → t.plain = true) := by
  unfold SetTable.orStandIn
  split
  · exact ⟨rfl, id⟩
  · exact ⟨rfl, fun q => by cases q⟩
theorem layNew_keeps (t : SetTable) (es : Array (Int × Value)) (h : Int) (x : Value) : (layNew t es h x).2.1.led = t.led ∧ ((layNew t es h x).2.1.plain = true → t.plain = true) := by
  unfold layNew
  split
  · exact orStandIn_keeps _ _
  · exact ⟨rfl, fun q => by cases q⟩
theorem relayAll_keeps (t : SetTable) (es : Array (Int × Value)) (k : Nat) : (relayAll t es k).2.1.led = t.led ∧ ((relayAll t es k).2.1.plain = true → t.plain = true) := by
  unfold relayAll
  split
  · rename_i t' order e
    have e' : t'.led = t.led ∧ t'.plain = t.plain := by
      unfold SetTable.relaid SetTable.laid at e
      obtain ⟨ow, _, e⟩ := Option.bind_eq_some_iff.mp e
      cases e
      exact ⟨rfl, rfl⟩
    dsimp only
    split
    · exact ⟨e'.1, fun q => e'.2 ▸ q⟩
    · exact ⟨rfl, fun q => by cases q⟩
  · exact ⟨rfl, fun q => by cases q⟩
def SetS (prog : Program) (w : World) (o : Obj) (mem : Str → Bool) (n : Nat) : Prop :=
  ∃ es ep t, o = { cls := .type "set", dict := none, data := .set es ep t } ∧ ElemsOf (strKind prog w) es.toList ∧ (∀ k, mem k = true ↔ ∃ e ∈ es.toList, (strKind prog w).is k e.2 = true) ∧ t.fits es.size = true ∧ es.size ≤ n ∧ n < scanBound ∧
    t.led = (!w.params.followText "set-order") ∧ (es.size = 0 ∨ t.plain = false)
section
variable {prog : Program} {w : World} {A : Around} {E : Value → Shared → Prop} {s : Shared}
theorem setS_store {a : Addr} {h : Heap} {es es' : Array (Int × Value)} {ep : Nat} {t t' : SetTable} (ho : h.get? a = some { cls := .type "set", dict := none, data := .set es ep t }) :
    (h.update a (Obj.putSet es' t')).get? a = some { cls := .type "set", dict := none, data := .set es' (ep + 1) t' } := by
  have := Heap.get?_update_self (Obj.putSet es' t') ho (by rw [putSet_of es' t' rfl]; rfl)
  rw [putSet_of es' t' rfl] at this; exact this
theorem setS_tail {g : Bool → Sem Unit} (hg : ∀ (b : Bool) (s₁ : Shared) (Q' : Unit → Shared → Prop), Q' () s₁ → wpAny (model prog w) A (g b) Q' E s₁)
    {a : Addr} {es es1 : Array (Int × Value)} {ep n : Nat} {t t2 : SetTable} {mem : Str → Bool} (ho : s.heap.get? a = some { cls := .type "set", dict := none, data := .set es ep t })
    (hel1 : ElemsOf (strKind prog w) es1.toList) (hmem1 : ∀ k', mem k' = true ↔ ∃ e ∈ es1.toList, (strKind prog w).is k' e.2 = true)
    (hb1 : es1.size ≤ n) (hn : n < scanBound) (hf2 : t2.fits es1.size = true) (hl : t2.led = (!w.params.followText "set-order")) (hp : t2.plain = false) {wasDummy : Bool} {R : Option Bool → Shared → Prop}
    (h : ∀ h' o', Heap.SameBut a s.heap h' → h'.get? a = some o' → SetS prog w o' mem n → R (some true) { s with heap := h' }) :
    wpAny (model prog w) A (do
        storeSet a es1 t2
        if (!wasDummy && t2.tooFull) = true then do
            g (relayAll t2 es1 (SetTable.grown es1.size)).2.2
            storeSet a (relayAll t2 es1 (SetTable.grown es1.size)).1 (relayAll t2 es1 (SetTable.grown es1.size)).2.1
            pure (some true)
          else pure (some true)) R E s := by
  have hz : ∀ k, k ≤ n → k ≤ sizeLine := fun k hk => fits_of_scanBound (Nat.lt_of_le_of_lt hk hn)
  refine wpAny_bind (wpAny_storeSet_of ho rfl ?_ (hz _ hb1))
  have ho1 := setS_store (es' := es1) (t' := t2) ho
  have hsb1 := Heap.SameBut.update s.heap a (Obj.putSet es1 t2)
  split
  · have hpm := relayAll_perm t2 es1 (SetTable.grown es1.size)
    have hfr := relayAll_fits t2 es1 (SetTable.grown es1.size)
    have hkp := relayAll_keeps t2 es1 (SetTable.grown es1.size)
    generalize hRl : relayAll t2 es1 (SetTable.grown es1.size) = Rl at hpm hfr hkp ⊢
    obtain ⟨es2, t3, gave2⟩ := Rl
    dsimp only at hpm hfr hkp ⊢
    have hsz : es2.size = es1.size := by rw [← Array.length_toList, hpm.length_eq, Array.length_toList]
    refine wpAny_bind (hg _ _ _ ?_)
    refine wpAny_bind (wpAny_storeSet_of ho1 rfl ?_ (hz _ (by rw [hsz]; exact hb1)))
    refine wpAny_pure (h _ _ (hsb1.trans (Heap.SameBut.update _ a _)) (setS_store ho1) ⟨es2, _, t3, rfl, hel1.perm hpm, fun k' => (hmem1 k').trans ⟨fun ⟨e, he, q⟩ => ⟨e, hpm.mem_iff.mpr he, q⟩, fun ⟨e, he, q⟩ => ⟨e, hpm.mem_iff.mp he, q⟩⟩, hfr,
      by rw [hsz]; exact hb1, hn, hkp.1.trans hl, .inr ?_⟩)
    cases q : t3.plain with
    | false => rfl
    | true => rw [hkp.2 q] at hp; cases hp
  · exact wpAny_pure (h _ _ hsb1 ho1 ⟨es1, _, t2, rfl, hel1, hmem1, hf2, hb1, hn, hl, .inr hp⟩)
theorem setS_add {a : Addr} {o : Obj} {mem : Str → Bool} {n : Nat} {k : Str} {tk : Tok} {Q : Bool → Shared → Prop} (ho : s.heap.get? a = some o) (hS : SetS prog w o mem n) (hroom : n + 1 < scanBound)
    (h : ∀ b h' o', Heap.SameBut a s.heap h' → h'.get? a = some o' → SetS prog w o' (fun k' => mem k' || decide (k' = k)) (n + 1) → Q b { s with heap := h' }) :
    wpAny (model prog w) A (setAddHashed a (.str k tk) ((strKind prog w).hash k)) Q E s := by
  obtain ⟨es, ep, t, rfl, hel, hmem, hf, hb, hn, hl, hp⟩ := hS
  have hkey : (strKind prog w).is k (.str k tk) = true := strKind_is _ _ _ _
  have hsc : (Value.str k tk).scannable = true := rfl
  have hb0 : es.size < scanBound := Nat.lt_of_le_of_lt hb hn
  unfold setAddHashed setAddHashedIn
  refine wpAny_holding (wpAny_bind (wpAny_setState_of ho rfl hf ?_))
  dsimp only
  rw [byScan_of hsc hb0 hel]
  simp only [↓reduceIte]
  unfold setAddByScan
  refine wpAny_bind ?_
  refine wpAny_bind (wpAny_rule ?_)
  refine wpAny_bind (wpAny_setScan_of hkey ho rfl hf hel ?_)
  cases hr : List.findIdx? (fun e => (strKind prog w).is k e.2) es.toList with
  | some j =>
    dsimp only
    obtain ⟨hj, hpj, _⟩ := List.findIdx?_eq_some_iff_getElem.mp hr
    have hSk : mem k = true := (hmem k).mpr ⟨es.toList[j], List.getElem_mem hj, hpj⟩
    refine wpAny_pure (wpAny_pure ?_)
    have e : s = { s with heap := s.heap } := by cases s; rfl
    rw [e]
    exact h _ s.heap _ (Heap.SameBut.refl a s.heap) ho ⟨es, ep, t, rfl, hel, fun k' => by
      rw [Bool.or_eq_true, decide_eq_true_eq, ← hmem k']
      exact ⟨fun hk => hk.elim id (fun e => e ▸ hSk), .inl⟩, hf, Nat.le_succ_of_le hb, hroom, hl, hp⟩
  | none =>
    dsimp only
    have hgw : ∀ (b : Bool) {s₁ : Shared} {Q' : Unit → Shared → Prop}, Q' () s₁ → wpAny (model prog w) A (match b with | true => rule "set.scan.the-table-gave-way" | false => pure ()) Q' E s₁ :=
      fun b s₁ Q' hq => by cases b <;> first | exact wpAny_pure hq | exact wpAny_rule hq
    have hperm := layNew_perm t es ((strKind prog w).hash k) (.str k tk)
    have hfits := layNew_fits t es ((strKind prog w).hash k) (.str k tk)
    have hkeep := layNew_keeps t es ((strKind prog w).hash k) (.str k tk)
    generalize hL : layNew t es ((strKind prog w).hash k) (.str k tk) = L at hperm hfits hkeep ⊢
    obtain ⟨es1, t1, wasDummy, gave⟩ := L
    dsimp only at hperm hfits hkeep ⊢
    rw [Array.toList_push] at hperm
    have hel1 : ElemsOf (strKind prog w) es1.toList := (hel.push hkey hsc).perm hperm
    have hmem1 : ∀ k', (mem k' || decide (k' = k)) = true ↔ ∃ e ∈ es1.toList, (strKind prog w).is k' e.2 = true := mem_push_iff hkey hmem hperm
    have hb1 : es1.size ≤ n + 1 := by rw [← Array.length_toList, hperm.length_eq, List.length_append, Array.length_toList]; simpa using hb
    refine wpAny_bind (hgw _ ?_)
    split
    · refine wpAny_bind ?_
      rw [hashByValue_scannable 8 hsc]
      refine wpAny_pure ?_
      refine setS_tail ?_ ho hel1 hmem1 hb1 hroom ?_ ?_ ?_ ?_
      · intro b s₁ Q' hq; cases b <;> first | exact wpAny_pure hq | exact wpAny_rule hq
      · exact SetTable.fits_plain_off hfits
      · exact hkeep.1.trans hl
      · rfl
      · intro h' o' hsb ho' hS'; dsimp only; exact wpAny_pure (h _ h' o' hsb ho' hS')
    · rename_i hnp
      refine wpAny_bind (wpAny_pure ?_)
      simp only [↓reduceIte]
      refine setS_tail ?_ ho hel1 hmem1 hb1 hroom hfits (hkeep.1.trans hl) (by simpa using hnp) ?_
      · intro b s₁ Q' hq; cases b <;> first | exact wpAny_pure hq | exact wpAny_rule hq
      · intro h' o' hsb ho' hS'; dsimp only; exact wpAny_pure (h _ h' o' hsb ho' hS')
end
end Mine
end

theorem Mine.reset_S2 : True := by
  w_top off
  k_with_none
  exact trivial
section
open PySem PyProof.Rows
set_option maxRecDepth 100000
set_option maxHeartbeats 4000000
namespace Mine
theorem SetS.congr {prog : Program} {w : World} {o : Obj} {mem mem' : Str → Bool} {n : Nat} (h : SetS prog w o mem n) (e : ∀ k, mem k = mem' k) : SetS prog w o mem' n := by
  rw [← funext e]; exact h
def memL (l : List Str) (k : Str) : Bool := decide (k ∈ l)
theorem memL_succ {ss : List Str} {i : Nat} {x : Str} (h : ss[i]? = some x) (k : Str) : (memL (ss.take i) k || decide (k = x)) = memL (ss.take (i + 1)) k := by
  have e : ss.take (i + 1) = ss.take i ++ [x] := by
    rw [List.take_add_one, h]; rfl
  unfold memL
  rw [e]
  simp [Bool.decide_or]
section
variable {prog : Program} {w : World} {A : Around} {R : Result → Shared → Prop} {I : Addr} {fp wr : List Addr} {G : Array GenState → Array GenState → Prop} {n : Nat} {P : Nat → Value → Prop} {St : Nat → Shared → Prop}
theorem set_loop (W : WalksS prog w A.in1 I fp wr G n P St) (S : Addr) (hSf : S ∉ fp) (ss : List Str) (hval : ∀ i v, P i v → ∃ x t, ss[i]? = some x ∧ v = .str x t) (hn : ss.length = n) (hb : n + 1 < scanBound) :
    ∀ (k i : Nat) (s : Shared) (o : Obj), n - i = k → i ≤ n → St i s → s.heap.get? S = some o → SetS prog w o (memL (ss.take i)) i →
      (∀ s' o', Moved (S :: wr) G s s' → s'.heap.get? S = some o' → SetS prog w o' (memL ss) n → R (.ok (.ret .none)) s') →
      codeAny (model prog w) A (.builtin "set.update.loop" ⟨[.ref S, .ref I], []⟩) R s := by
  have hSw : S ∉ wr := fun h => hSf (W.sub _ h)
  have hsub : ∀ b ∈ wr, b ∈ S :: wr := fun b hb => List.mem_cons_of_mem _ hb
  intro k
  induction k with
  | zero =>
    intro i s o hk hi hst ho hS hR
    have hin : i = n := by omega
    subst hin
    refine codeAny_builtin F.entry_set_update_loop ?_
    rw [Around.under_plainId F.plain_set_update_loop _]
    show wpAny _ A.in1 (pyNext (.ref I) >>= _) _ _ s
    refine wpAny_bind (W.done s _ _ hst fun s' hm => ?_)
    show wpAny _ A.in1 (ret Value.none) _ _ s'
    exact wpAny_pure (hR s' o (hm.mono hsub) (hm.heap S _ hSw ho) (by rw [← hn, List.take_length] at hS; rw [← hn]; exact hS))
  | succ k ih =>
    intro i s o hk hi hst ho hS hR
    have hlt : i < n := by omega
    refine codeAny_builtin F.entry_set_update_loop ?_
    rw [Around.under_plainId F.plain_set_update_loop _]
    show wpAny _ A.in1 (pyNext (.ref I) >>= _) _ _ s
    refine wpAny_bind (W.item i s _ _ hlt hst fun v s' hP hst' hm => ?_)
    obtain ⟨x, t, hx, rfl⟩ := hval i v hP
    have ho' := hm.heap S _ hSw ho
    show wpAny _ A.in1 (holding [Value.str x t] (setAdd S (.str x t)) >>= _) _ _ s'
    refine wpAny_bind (wpAny_holding ?_)
    unfold setAdd
    refine wpAny_holding ?_
    refine wpAny_bind ((strKind prog w).pyHash (k := x) (strKind_is _ _ _ _) ?_)
    refine setS_add (s := { s' with toks := s'.toks + 1 }) ho' hS (by omega) fun b h' o' hsb ho2 hS2 => ?_
    have hSi : SetS prog w o' (memL (ss.take (i + 1))) (i + 1) := hS2.congr (memL_succ hx)
    refine wpAny_pure ⟨plainId_quiet F.plain_set_update_loop _, ih (i + 1) _ o' (by omega) hlt (W.frame _ s' _ _ hst' (Nat.le_succ _) fun b hb o e => ?_) ho2 hSi fun s'' o'' hm'' ho3 hS3 => ?_⟩
    · rw [hsb.2 b (fun h : b = S => hSf (by rw [← h]; exact hb))]; exact e
    · refine hR s'' o'' (Moved.trans W.gtrans ((hm.mono hsub).then_heap (Nat.le_succ _) fun b o hb e => ?_) hm'') ho3 hS3
      rw [hsb.2 b (fun h : b = S => hb (by rw [h]; exact List.mem_cons_self))]; exact e
end
section
variable {prog : Program} {w : World} {A : Around} {E : Value → Shared → Prop} {s : Shared}
theorem set_new_code (a : Value) {Q₁ : Value → Shared → Prop}
    (h : Q₁ (.ref s.heap.objs.size) { s with heap := s.heap.push { cls := .type "set", dict := none, data := .set #[] 0 (.fresh 0 0 (!w.params.followText "set-order")) } }) :
    codeAny (model prog w) A (.call (.builtin "set.__new__") ⟨[.type "set", a], []⟩) (wants Q₁ E) s := by
  refine codeAny_of_tree ?_
  show wpAny _ A.in1 (do checkBuiltinCall "set.__new__" ⟨[.type "set", a], []⟩; again (.builtin "set.__new__" ⟨[.type "set", a], []⟩)) _ _ s
  refine wpAny_bind (wpAny_of_eq (F.newCall_set_1 a) (wpAny_pure ⟨plainId_quiet F.plain_set_new _, codeAny_builtin F.entry_set_new ?_⟩))
  rw [Around.under_plainId F.plain_set_new _]
  unfold Builtin.«set.__new__» Builtin.Frozenset.newClass
  have hsub := sub_set_self
  obtain ⟨hp, g, d, tk, os⟩ := s
  dsimp only
  wp_walk
  refine wpAny_askSetting (wpAny_pure ?_)
  dsimp only
  simp only [newObj]
  refine wpAny_bind (wpAny_alloc (wpAny_pure ?_))
  exact wpAny_pure h
end
end Mine
end

theorem Mine.reset_S3 : True := by
  w_top off
  k_with_none
  exact trivial
section
open PySem
set_option maxRecDepth 100000
set_option maxHeartbeats 4000000
namespace Mine
theorem strsAre_at : ∀ {vs : List Value} {ss : List Str}, PyProof.Rows.StrsAre vs ss → ∀ (i : Nat) (v : Value), vs[i]? = some v → ∃ x t, ss[i]? = some x ∧ v = .str x t
  | _, _, .nil, i, v, h => by simp at h
  | _, _, .cons x t r, 0, v, h => by simp at h; exact ⟨x, t, by simp, h.symm⟩
  | _, _, .cons x t r, i + 1, v, h => by simpa using strsAre_at r i v (by simpa using h)
theorem strsAre_length : ∀ {vs : List Value} {ss : List Str}, PyProof.Rows.StrsAre vs ss → vs.length = ss.length
  | _, _, .nil => rfl
  | _, _, .cons _ _ r => by simp [strsAre_length r]
section
variable {prog : Program} {w : World} {A : Around} {E : Value → Shared → Prop} {s : Shared}
theorem set_init {l S : Addr} {items : Array Value} {ss : List Str} {Q : PySem.Fin → Shared → Prop} (hh : A.handled = none) (hl : s.heap.IsList l items) (hi : PyProof.Rows.StrsAre items.toList ss) (hb : items.size + 1 < scanBound) (hSl : S ≠ l)
    (hS : s.heap.get? S = some { cls := .type "set", dict := none, data := .set #[] 0 (.fresh 0 0 (!w.params.followText "set-order")) })
    (h : ∀ h' tk o, h'.get? S = some o → SetS prog w o (memL ss) items.size → (∀ b ob, b ≠ S → b < s.heap.objs.size → s.heap.get? b = some ob → h'.get? b = some ob) → Q (.done (.ret .none)) { s with heap := h', toks := tk }) :
    wpAny (model prog w) A (Builtin.«set.__init__» ⟨[.ref S, .ref l], []⟩) Q E s := by
  obtain ⟨ol, hol, hcl, nl, hdl⟩ := id hl
  obtain ⟨ocls, odict, odata, oslots⟩ := ol
  simp only at hcl hdl
  subst hcl; subst hdl
  have hT : s.TypeIs (.ref S) "set" := ⟨_, hS, rfl⟩
  have hsls := F.sub_list_set
  have hslf := F.sub_list_frozenset
  have hne : (Value.type "list" == Value.type "dict") = false := by decide
  have hlS := Heap.lt_size hol
  have hSS := Heap.lt_size hS
  unfold Builtin.«set.__init__» noKeywords Builtin.Frozenset.updateFrom
  generalize hPI : pyIter = PI
  wp_walk
  subst hPI
  refine wpAny_pyIter_list hl ?_
  refine wpAny_bind (wpAny_runValue ?_)
  have hlI : l ≠ s.heap.objs.size := Nat.ne_of_lt hlS
  have hSI : S ≠ s.heap.objs.size := Nat.ne_of_lt hSS
  have hlen : ss.length = items.size := by have := strsAre_length hi; simpa using this.symm
  refine set_loop ((Walks.list (by simp [hh]) _ l hlI items).toS) S (by simp [hSI, hSl]) ss (fun i v hv => ?_) hlen hb (items.size - 0) 0 _ _ (by omega) (Nat.zero_le _)
    ⟨⟨_, Heap.get?_push_size _ rfl, rfl, rfl⟩, hl.push _⟩ (Heap.get?_push_of_some _ hS) ⟨#[], 0, _, rfl, fun e he => by simp at he, fun k => by simp [memL], by rfl, Nat.le_refl _, by unfold scanBound; omega, rfl, .inl rfl⟩ ?_
  · exact strsAre_at hi i v (by rw [Array.getElem?_toList]; exact hv)
  · intro s' o' hm ho' hS'
    obtain ⟨h', g', d', tk', os'⟩ := s'
    have eg : g' = s.gens := hm.gens
    have ed : d' = s.drawn := hm.drawn
    have eo : os' = s.os := hm.os
    subst eg; subst ed; subst eo
    show wpAny _ _ _ _ _ _
    refine wpAny_pure ?_
    show wpAny _ _ (ret Value.none) _ _ _
    refine wpAny_pure (h _ _ _ ho' hS' fun b ob hb1 hb2 e => ?_)
    exact hm.heap b ob (by simp only [List.mem_cons, List.mem_singleton, List.not_mem_nil, or_false, not_or]; exact ⟨hb1, Nat.ne_of_lt hb2⟩) (Heap.get?_push_of_some _ e)
theorem call_set_strs {l : Addr} {items : Array Value} {ss : List Str} {Q : Value → Shared → Prop}
    (hh : A.handled = none) (hl : s.heap.IsList l items) (hi : PyProof.Rows.StrsAre items.toList ss) (hb : items.size + 1 < scanBound)
    (h : ∀ (h' : Heap) (tk : Nat) o, h'.get? s.heap.objs.size = some o → SetS prog w o (memL ss) items.size →
      (∀ b o, b < s.heap.objs.size → s.heap.get? b = some o → h'.get? b = some o) → Q (.ref s.heap.objs.size) { s with heap := h', toks := tk }) :
    wpAny (model prog w) A (call (.type "set") [.ref l]) Q E s := by
  obtain ⟨c, tl, hmro⟩ := F.called_set.mro
  have hmade := F.called_set.made
  have hsub := F.called_set.sub
  refine wpAny_call (codeAny_of_tree ?_)
  show wpAny _ _ (callAny (.type "set") _) _ _ _
  refine wpAny_pure ⟨Code.quiet_builtin _ (by decide +kernel), codeAny_builtin F.entry_type_call ?_⟩
  rw [Around.under_plain (weight_type_call_type "set" [.ref l] []) rfl]
  have h1 := F.called_set.notType
  have h2 := F.called_set.canCreate
  have hct := F.typeCall_set_1 (.ref l)
  repeat (any_goals (first | assumption | wp_step))
  refine codeAny_mono (set_new_code (.ref l) (E := E) (Q₁ := fun obj s₁ => obj = .ref s.heap.objs.size ∧ s₁ = { s with heap := s.heap.push { cls := .type "set", dict := none, data := .set #[] 0 (.fresh 0 0 (!w.params.followText "set-order")) } }) ⟨rfl, rfl⟩) fun r s₁ hr => ?_
  cases r with
  | error e => exact hr
  | ok fl =>
    cases fl with
    | ret obj =>
      obtain ⟨rfl, rfl⟩ := hr
      have hS : (s.heap.push { cls := .type "set", dict := none, data := .set #[] 0 (.fresh 0 0 (!w.params.followText "set-order")) }).get? s.heap.objs.size = some { cls := .type "set", dict := none, data := .set #[] 0 (.fresh 0 0 (!w.params.followText "set-order")) } := Heap.get?_push_size _ rfl
      have hT : Shared.TypeIs { s with heap := s.heap.push { cls := .type "set", dict := none, data := .set #[] 0 (.fresh 0 0 (!w.params.followText "set-order")) } } (.ref s.heap.objs.size) "set" := ⟨_, hS, rfl⟩
      have hli := F.called_set.init.lookup
      have hbi := F.called_set.init.bind (.ref s.heap.objs.size)
      repeat (any_goals (first | assumption | wp_step))
      obtain ⟨ol, hol, hcl, nl, hdl⟩ := id hl
      have hlS : l < s.heap.objs.size := Heap.lt_size hol
      refine codeAny_mono (codeAny_call_builtin (R := wants (fun r s₂ => r = .none ∧ ∃ h' tk o, s₂ = { s with heap := h', toks := tk } ∧ h'.get? s.heap.objs.size = some o ∧ SetS prog w o (memL ss) items.size ∧
          (∀ b o, b < s.heap.objs.size → s.heap.get? b = some o → h'.get? b = some o)) E) F.called_set.init.plain F.entry_set_init (check_set_init_1 hT (set_init (by simp [hh]) ⟨ol, Heap.get?_push_of_some _ hol, hcl, nl, hdl⟩ hi hb (Nat.ne_of_gt hlS) hS fun h' tk o ho' hS' hk => ?_))) fun r₂ s₂ hr₂ => ?_
      · refine ⟨rfl, h', tk, o, rfl, ho', hS', fun b ob hb e => hk b ob (Nat.ne_of_lt hb) ?_ (Heap.get?_push_of_some _ e)⟩
        show b < (s.heap.push _).objs.size
        rw [Heap.size_push]; exact Nat.lt_succ_of_lt hb
      · cases r₂ with
        | error e => exact hr₂
        | ok fl₂ =>
          cases fl₂ with
          | ret r =>
            obtain ⟨rfl, h', tk, o, rfl, ho', hS', hk'⟩ := hr₂
            repeat (any_goals (first | assumption | wp_step))
            exact h _ _ _ ho' hS' hk'
          | _ => exact hr₂.elim
    | _ => exact hr.elim
end
end Mine
end

theorem Mine.reset_S4 : True := by
  w_top off
  k_with_none
  exact trivial
section
open PySem
set_option maxRecDepth 100000
set_option maxHeartbeats 4000000
namespace Mine
theorem si_next : Slot "set_iterator" "__next__" "set_iterator.__next__" := .of (owner := "set_iterator") (n := "__next__") (by rw [typeLookup_type, builtinLookup_eq_fast]; kernel_rfl) (by decide +kernel) (by decide +kernel) (by decide +kernel)
  (by first | exact .inl (by decide +kernel) | exact .inr (by decide +kernel)) (by rw [isSubtype_type]; kernel_rfl)
theorem si_next_entry : entryFor table "set_iterator.__next__" = some Builtin.«set_iterator.__next__» := entryFor_of_tree (by kernel_rfl)
theorem si_next_args (a : Value) : argsOk "set_iterator.__next__" ⟨[a], []⟩ := by unfold argsOk; kernel_rfl
theorem si_iter : Slot "set_iterator" "__iter__" "set_iterator.__iter__" := .of (owner := "set_iterator") (n := "__iter__") (by rw [typeLookup_type, builtinLookup_eq_fast]; kernel_rfl) (by decide +kernel) (by decide +kernel) (by decide +kernel)
  (by first | exact .inl (by decide +kernel) | exact .inr (by decide +kernel)) (by rw [isSubtype_type]; kernel_rfl)
theorem si_iter_entry : entryFor table "set_iterator.__iter__" = some Builtin.«dict_keyiterator.__iter__» := entryFor_alias (id' := "dict_keyiterator.__iter__") (by kernel_rfl) rfl (by decide +kernel) (by kernel_rfl)
theorem si_iter_args (a : Value) : argsOk "set_iterator.__iter__" ⟨[a], []⟩ := by unfold argsOk; kernel_rfl
theorem set_iter_entry : entryFor table "set.__iter__" = some Builtin.«frozenset.__iter__» := entryFor_alias (id' := "frozenset.__iter__") (by kernel_rfl) rfl (by decide +kernel) (by kernel_rfl)
theorem set_len : typeLookup (.type "set") "__len__" = pure (some (.builtin "set.__len__")) := by rw [typeLookup_type, builtinLookup_eq_fast]; kernel_rfl
theorem erase_perm {α : Type} : ∀ (l : List α) (i : Nat) (h : i < l.length), (l[i] :: l.eraseIdx i).Perm l
  | [], i, h => absurd h (Nat.not_lt_zero _)
  | x :: r, 0, h => List.Perm.refl _
  | x :: r, i + 1, h => ((List.Perm.swap x _ _).trans ((erase_perm r i (by simpa using h)).cons x) : List.Perm (r[i]'(by simpa using h) :: x :: r.eraseIdx i) (x :: r))
section
variable {M : Model} {A : Around} {E : Value → Shared → Prop} {s : Shared}
theorem any_choose {src : Source} {n : Nat} {Q : Nat → Shared → Prop} (hn : n ≠ 0) (h : ∀ i d, i < n → Q i { s with drawn := d }) : wpAny M A (choose src n) Q E s := fun Γ p _ => by
  show Sem.wp M Γ (.choose src n .pure) _ _ p s
  rw [Sem.wp_choose]
  refine ⟨hn, ?_⟩
  show Sem.wp M Γ (pure _) _ _ p _
  simp only [Sem.wp_pure']
  exact h _ _ (Nat.mod_lt _ (Nat.pos_of_ne_zero hn))
theorem any_drawOrder {α : Type} : ∀ (n : Nat) (xs : List α) (s : Shared) (Q : List α → Shared → Prop), xs.length = n → (∀ ys d, ys.Perm xs → Q ys { s with drawn := d }) → wpAny M A (drawOrder n xs) Q E s
  | 0, xs, s, Q, hn, h => by
    obtain rfl : xs = [] := List.eq_nil_of_length_eq_zero hn
    exact wpAny_pure (h [] s.drawn (List.Perm.refl _))
  | n + 1, [], s, Q, hn, h => by simp at hn
  | n + 1, x :: r, s, Q, hn, h => by
    unfold drawOrder
    refine wpAny_bind (any_choose (by simp) fun i d hi => ?_)
    have hx : (x :: r)[i]? = some (x :: r)[i] := List.getElem?_eq_getElem hi
    rw [hx]
    dsimp only
    refine wpAny_bind (any_drawOrder n ((x :: r).eraseIdx i) { s with drawn := d } _ (by rw [List.length_eraseIdx_of_lt hi]; simpa using hn) fun ys d' hp => ?_)
    exact wpAny_pure (h _ d' ((hp.cons _).trans (erase_perm _ i hi)))
end
section
variable {prog : Program} {w : World} {A : Around} {E : Value → Shared → Prop} {s : Shared}
theorem si_item {it : Addr} {Q : Option Value → Shared → Prop} (hT : s.TypeIs (.ref it) "set_iterator")
    (h : wpAny (model prog w) A.in1 (Builtin.«set_iterator.__next__» ⟨[.ref it], []⟩) (fun fin s' => ∃ v, fin = .done (.ret v) ∧ Q (some v) s') (fun _ _ => False) s) : wpAny (model prog w) A (pyNext (.ref it)) Q E s := by
  unfold pyNext
  refine wpAny_bind (wpAny_attempt (wpAny_callSpecial?_slot (name := Str.ofString "__next__") hT si_next (wpAny_call_entry si_next hT si_next_entry (wpAny_mono h (fun fin s' hf => ?_) fun _ _ z => z.elim) (si_next_args _))))
  obtain ⟨v, rfl, hq⟩ := hf
  exact ⟨v, rfl, wpAny_pure hq⟩
theorem si_end {it : Addr} {Q : Option Value → Shared → Prop} (hT : s.TypeIs (.ref it) "set_iterator")
    (h : wpAny (model prog w) A.in1 (Builtin.«set_iterator.__next__» ⟨[.ref it], []⟩) (fun _ _ => False) (fun e s' => s'.TypeIs e "StopIteration" ∧ Q none s') s) : wpAny (model prog w) A (pyNext (.ref it)) Q E s := by
  unfold pyNext
  refine wpAny_bind (wpAny_attempt (wpAny_callSpecial?_slot (name := Str.ofString "__next__") hT si_next (wpAny_call_entry si_next hT si_next_entry (wpAny_mono h (fun _ _ z => z.elim) fun e s' hf => ?_) (si_next_args _))))
  exact wpAny_bind (wpAny_isInstance (T := "StopIteration") (b := true) hf.1 isSubtype_stop (wpAny_pure hf.2))
theorem stop_raise {α : Type} {Q : α → Shared → Prop} (hh : A.handled = none) (h : ∀ h' e, (∀ b o, s.heap.get? b = some o → h'.get? b = some o) → Shared.TypeIs { s with heap := h' } (.ref e) "StopIteration" → E (.ref e) { s with heap := h' }) :
    wpAny (model prog w) A (do raiseNew (← newExc (.type "StopIteration") []) : Sem α) Q E s := by
  refine wpAny_bind ?_
  simp only [newExc, newTuple]
  refine wpAny_bind (wpAny_newObj_type ?_ (by size_fits))
  refine wpAny_bind (m := firstArgMember _ _) (wpAny_of_eq (a := Value.none) (by first | rfl | (simp only [firstArgMember]; rfl)) ?_)
  refine wpAny_newObj_type ?_ (by size_fits)
  simp only [raiseNew]
  refine wpAny_bind (wpAny_handled ?_)
  rw [hh]
  refine wpAny_bind (wpAny_pure (wpAny_throw ?_))
  exact h _ _ (fun b o e => Heap.get?_push_of_some _ (Heap.get?_push_of_some _ e)) ⟨_, Heap.get?_push_size _ rfl, rfl⟩
end
end Mine
end

theorem Mine.reset_S5 : True := by
  w_top off
  k_with_none
  exact trivial
section
open PySem
set_option maxRecDepth 100000
set_option maxHeartbeats 4000000
namespace Mine
theorem pick_go {α : Type} (next : Nat → Nat) : ∀ (f k : Nat) (l : List α) (out : Array α), l.length = f → (pickOrder.go next f k l out).toList.Perm (out.toList ++ l)
  | 0, k, l, out, h => by
    obtain rfl : l = [] := List.eq_nil_of_length_eq_zero h
    unfold pickOrder.go
    simp
  | f + 1, k, l, out, h => by
    have hi : next k % l.length < l.length := Nat.mod_lt _ (by omega)
    unfold pickOrder.go
    rw [List.getElem?_eq_getElem hi]
    dsimp only
    refine (pick_go next f (k + 1) (l.eraseIdx _) (out.push _) (by rw [List.length_eraseIdx_of_lt hi]; omega)).trans ?_
    rw [Array.toList_push, List.append_assoc]
    exact (erase_perm l _ hi).append_left _
theorem pick_perm {α : Type} (next : Nat → Nat) (xs : Array α) : (pickOrder next xs).toList.Perm xs.toList := by
  have := pick_go next xs.size 0 xs.toList #[] (by simp)
  simpa [pickOrder] using this
abbrev setObj (es : Array (Int × Value)) (ep : Nat) (t : SetTable) : Obj := { cls := .type "set", dict := none, data := .set es ep t }
abbrev siObj (first : Value) (i : Nat) (S : Addr) (n ep : Nat) : Obj := { cls := .type "set_iterator", data := .fields #[first, .int i 0, .ref S, .int n 0, .int ep 0] }
section
variable {prog : Program} {w : World} {A : Around} {E : Value → Shared → Prop} {s : Shared} {es : Array (Int × Value)} {ep : Nat} {t : SetTable} {S I : Addr}
theorem byText_is {Q : Bool → Shared → Prop} (h : Q (w.params.followText "set-order") s) : wpAny (model prog w) A setsByText Q E s := wpAny_bind (wpAny_askSetting (wpAny_pure h))
theorem next_text {sl i : Nat} {Q : Option (Value × Nat) → Shared → Prop} (hS : s.heap.get? S = some (setObj es ep t)) (hf : t.fits es.size = true) (hb : w.params.followText "set-order" = true)
    (h : Q ((pickOrder (w.params.setOrder S ep) es)[i]?.map fun e => (e.2, sl)) s) : wpAny (model prog w) A (setNext S sl i ep) Q E s := by
  unfold setNext
  refine wpAny_bind (wpAny_setState_of hS rfl hf (wpAny_bind (byText_is ?_)))
  rw [if_pos hb, if_neg (by simp)]
  unfold setWalk
  refine wpAny_bind (wpAny_bind (wpAny_setState_of hS rfl hf (wpAny_bind (byText_is ?_))))
  rw [if_pos hb]
  exact wpAny_bind (wpAny_askSetting (wpAny_pure (wpAny_pure h)))
theorem next_small {sl i : Nat} {Q : Option (Value × Nat) → Shared → Prop} (hS : s.heap.get? S = some (setObj es ep t)) (hf : t.fits es.size = true) (hb : w.params.followText "set-order" = false) (hl : t.led = true) (hn : es.size ≤ 1)
    (h : Q (match es[SetTable.below t.place sl]?, t.place[SetTable.below t.place sl]? with | some (_, x), some j => some (x, j + 1) | _, _ => none) s) : wpAny (model prog w) A (setNext S sl i ep) Q E s := by
  unfold setNext
  refine wpAny_bind (wpAny_setState_of hS rfl hf (wpAny_bind (byText_is ?_)))
  rw [if_neg (by rw [hb]; decide)]
  have hd : ¬ (1 < es.size) := by omega
  dsimp only
  split
  · rename_i q
    have q' : (!t.plain && decide (es.size > 1)) = true := q
    simp [hd] at q'
  · refine wpAny_bind ?_
    show wpAny _ _ (if (!t.led && !es.isEmpty) = true then unsupported "set:maker-not-led" else pure ()) _ _ _
    rw [if_neg (by simp [hl])]
    exact wpAny_pure (wpAny_pure h)
theorem si_type {first : Value} {i n : Nat} (hI : s.heap.get? I = some (siObj first i S n ep)) : s.TypeIs (.ref I) "set_iterator" := ⟨_, hI, rfl⟩
theorem si_head {first : Value} {i n : Nat} {Q : PySem.Fin → Shared → Prop} (hI : s.heap.get? I = some (siObj first i S n ep)) (hS : s.heap.get? S = some (setObj es ep t)) (hf : t.fits es.size = true) (hn : es.size = n)
    (h : wpAny (model prog w) A (if let .int slot _ := first then (do
        match ← setNext S slot.toNat (Int.toNat i) (Int.toNat ep) with
        | some (x, next) =>
          setField (.ref I) 0 (rawInt next)
          setField (.ref I) 1 (rawInt ((i : Int) + 1))
          ret x
        | none => setField (.ref I) 2 .none; raiseNew (← newExc (.type "StopIteration") []))
      else do
        let some places ← seqItems? first | unsupported "internal:set_iterator"
        match places[Int.toNat i]? with
        | some (.int place _) =>
          let x ← setNextDrawn S place.toNat (Int.toNat ep)
          setField (.ref I) 1 (rawInt ((i : Int) + 1))
          ret x
        | some _ => unsupported "internal:set_iterator"
        | none => setField (.ref I) 0 (rawInt 0); setField (.ref I) 2 .none; raiseNew (← newExc (.type "StopIteration") [])) Q E s) :
    wpAny (model prog w) A (Builtin.«set_iterator.__next__» ⟨[.ref I], []⟩) Q E s := by
  unfold Builtin.«set_iterator.__next__»
  refine wpAny_bind (wpAny_pure ?_)
  refine wpAny_bind (wpAny_fieldsOf hI rfl ?_)
  dsimp only
  refine wpAny_bind (wpAny_setEntries_of hS rfl hf ?_)
  rw [if_neg (by simp [hn])]
  exact h
theorem set_field1 {o : Obj} {fs : Array Value} {x : Value} {k : Nat} {Q : Unit → Shared → Prop} (hI : s.heap.get? I = some { cls := .type "set_iterator", data := .fields fs }) (hk : k < fs.size)
    (h : ∀ h', h'.get? I = some { cls := .type "set_iterator", data := .fields (fs.setIfInBounds k x) } → Heap.SameBut I s.heap h' → Q () { s with heap := h' }) : wpAny (model prog w) A (setField (.ref I) k x) Q E s := by
  refine wpAny_setField hI rfl hk (h _ ?_ (Heap.SameBut.update ..))
  exact Heap.get?_update_self (Obj.mapFields (·.setIfInBounds k x)) hI rfl
theorem si_some {sl nx i n : Nat} {x : Value} {Q : Option Value → Shared → Prop} (hI : s.heap.get? I = some (siObj (.int sl 0) i S n ep)) (hS : s.heap.get? S = some (setObj es ep t)) (hf : t.fits es.size = true) (hn : es.size = n)
    (hnext : ∀ (Q : Option (Value × Nat) → Shared → Prop) E, Q (some (x, nx)) s → wpAny (model prog w) A.in1 (setNext S sl i ep) Q E s)
    (h : ∀ h', h'.get? I = some (siObj (.int nx 0) (i + 1) S n ep) → Heap.SameBut I s.heap h' → Q (some x) { s with heap := h' }) : wpAny (model prog w) A (pyNext (.ref I)) Q E s := by
  refine si_item (si_type hI) (si_head hI hS hf hn ?_)
  dsimp only
  refine wpAny_bind (hnext _ _ ?_)
  dsimp only
  refine wpAny_bind (set_field1 (o := setObj es ep t) hI (by simp) fun h1 e1 s1 => ?_)
  refine wpAny_bind (set_field1 (o := setObj es ep t) e1 (by simp) fun h2 e2 s2 => ?_)
  refine wpAny_pure ⟨_, rfl, h h2 ?_ (s1.trans s2)⟩
  rw [e2]; simp [rawInt]
theorem si_none {sl i n : Nat} {Q : Option Value → Shared → Prop} (hh : A.handled = none) (hI : s.heap.get? I = some (siObj (.int sl 0) i S n ep)) (hS : s.heap.get? S = some (setObj es ep t)) (hf : t.fits es.size = true) (hn : es.size = n)
    (hnext : ∀ (Q : Option (Value × Nat) → Shared → Prop) E, Q none s → wpAny (model prog w) A.in1 (setNext S sl i ep) Q E s)
    (h : ∀ h', Heap.ExtBut I s.heap h' → Q none { s with heap := h' }) : wpAny (model prog w) A (pyNext (.ref I)) Q E s := by
  refine si_end (si_type hI) (si_head hI hS hf hn ?_)
  dsimp only
  refine wpAny_bind (hnext _ _ ?_)
  dsimp only
  refine wpAny_bind (set_field1 (o := setObj es ep t) hI (by simp) fun h1 e1 s1 => ?_)
  refine stop_raise (by simp [hh]) fun h2 e k hT => ⟨hT, h h2 fun b o hb e => k b o ((s1.2 b hb).trans e)⟩
theorem si_someD {PL i n p : Nat} {pl : Array Value} {np : Nat} {x : Value} {tp : Tok} {hs : Int} {Q : Option Value → Shared → Prop} (hI : s.heap.get? I = some (siObj (.ref PL) i S n ep)) (hS : s.heap.get? S = some (setObj es ep t)) (hf : t.fits es.size = true) (hn : es.size = n)
    (hPL : s.heap.get? PL = some { cls := .type "tuple", data := .seq pl np }) (hp : pl[i]? = some (.int p tp)) (hx : es[p]? = some (hs, x))
    (h : ∀ h', h'.get? I = some (siObj (.ref PL) (i + 1) S n ep) → Heap.SameBut I s.heap h' → Q (some x) { s with heap := h' }) : wpAny (model prog w) A (pyNext (.ref I)) Q E s := by
  refine si_item (si_type hI) (si_head hI hS hf hn ?_)
  dsimp only
  refine wpAny_bind (wpAny_seqItems hPL rfl ?_)
  dsimp only
  rw [show (Int.toNat (i : Int)) = i from rfl, hp]
  dsimp only
  unfold setNextDrawn
  refine wpAny_bind (wpAny_bind (wpAny_setState_of hS rfl hf ?_))
  dsimp only
  rw [if_neg (by simp), show (Int.toNat (p : Int)) = p from rfl, hx]
  refine wpAny_pure ?_
  refine wpAny_bind (set_field1 (o := setObj es ep t) hI (by simp) fun h1 e1 s1 => ?_)
  refine wpAny_pure ⟨_, rfl, h h1 ?_ s1⟩
  rw [e1]; simp [rawInt]
theorem si_noneD {PL i n : Nat} {pl : Array Value} {np : Nat} {Q : Option Value → Shared → Prop} (hh : A.handled = none) (hI : s.heap.get? I = some (siObj (.ref PL) i S n ep)) (hS : s.heap.get? S = some (setObj es ep t)) (hf : t.fits es.size = true) (hn : es.size = n)
    (hPL : s.heap.get? PL = some { cls := .type "tuple", data := .seq pl np }) (hp : pl[i]? = none)
    (h : ∀ h', Heap.ExtBut I s.heap h' → Q none { s with heap := h' }) : wpAny (model prog w) A (pyNext (.ref I)) Q E s := by
  refine si_end (si_type hI) (si_head hI hS hf hn ?_)
  dsimp only
  refine wpAny_bind (wpAny_seqItems hPL rfl ?_)
  dsimp only
  rw [show (Int.toNat (i : Int)) = i from rfl, hp]
  dsimp only
  refine wpAny_bind (set_field1 (o := setObj es ep t) hI (by simp) fun h1 e1 s1 => ?_)
  refine wpAny_bind (set_field1 (o := setObj es ep t) e1 (by simp) fun h2 e2 s2 => ?_)
  refine stop_raise (by simp [hh]) fun h3 e k hT => ⟨hT, h h3 fun b o hb e => k b o ((s2.2 b hb).trans ((s1.2 b hb).trans e))⟩
theorem si_self {first : Value} {i n : Nat} {Q : Value → Shared → Prop} (hI : s.heap.get? I = some (siObj first i S n ep)) (h : Q (.ref I) s) : wpAny (model prog w) A (pyIter (.ref I)) Q E s := by
  have hT := si_type hI
  refine wpAny_pyIter_slot hT si_iter (wpAny_call_entry si_iter hT si_iter_entry ?_ (si_iter_args _))
  show wpAny _ _ (ret (.ref I)) _ _ s
  exact wpAny_pure ⟨_, rfl, "set_iterator", _, hT, si_next.lookup, h⟩
end
end Mine
end

theorem Mine.reset_S6 : True := by
  w_top off
  k_with_none
  exact trivial
section
open PySem
set_option maxRecDepth 100000
set_option maxHeartbeats 4000000
namespace Mine
section
variable {prog : Program} {w : World} {A : Around} {es : Array (Int × Value)} {ep n : Nat} {t : SetTable} {S I : Addr}
theorem walks_text (hh : A.handled = none) (hSI : S ≠ I) (hf : t.fits es.size = true) (hn : es.size = n) (hb : w.params.followText "set-order" = true) :
    Walks prog w A I [I, S] [I] n (fun i v => ((pickOrder (w.params.setOrder S ep) es)[i]?.map (·.2)) = some v) (fun i h => (∃ sl : Nat, h.get? I = some (siObj (.int sl 0) i S n ep)) ∧ h.get? S = some (setObj es ep t)) where
  sub := fun b hb => by simp at hb; simp [hb]
  frame := fun _ _ _ st hk => ⟨let ⟨sl, e⟩ := st.1; ⟨sl, hk I (by simp) _ e⟩, hk S (by simp) _ st.2⟩
  item := fun i s Q E hi st hQ => by
    obtain ⟨⟨sl, hI⟩, hS⟩ := st
    have hlen : (pickOrder (w.params.setOrder S ep) es).size = n := by
      have := (pick_perm (w.params.setOrder S ep) es).length_eq
      simpa [hn] using this
    obtain ⟨e, he⟩ : ∃ e, (pickOrder (w.params.setOrder S ep) es)[i]? = some e := ⟨_, Array.getElem?_eq_getElem (by rw [hlen]; exact hi)⟩
    refine si_some (x := e.2) (nx := sl) hI hS hf hn (fun Q E hq => next_text hS hf hb (by rw [he]; exact hq)) fun h' e1 s1 => hQ e.2 h' s.toks (by rw [he]; rfl) ⟨⟨sl, e1⟩, (s1.2 S hSI).trans hS⟩ fun b o hb e => (s1.2 b (by simpa using hb)).trans e
  done := fun s Q E st hQ => by
    obtain ⟨⟨sl, hI⟩, hS⟩ := st
    have hlen : (pickOrder (w.params.setOrder S ep) es).size = n := by
      have := (pick_perm (w.params.setOrder S ep) es).length_eq
      simpa [hn] using this
    refine si_none hh hI hS hf hn (fun Q E hq => next_text hS hf hb (by rw [Array.getElem?_eq_none (Nat.le_of_eq hlen)]; exact hq)) fun h' e1 => hQ h' s.toks fun b o hb e => e1 b o (by simpa using hb) e
  self := fun _ _ _ _ st hQ => let ⟨⟨_, hI⟩, _⟩ := st; si_self hI hQ
theorem walks_drawn {PL np : Nat} {ord : List Nat} (hh : A.handled = none) (hSI : S ≠ I) (hPI : PL ≠ I) (hf : t.fits es.size = true) (hn : es.size = n) (ho : ord.Perm (List.range n)) :
    Walks prog w A I [I, S, PL] [I] n (fun i v => ∃ p e, ord[i]? = some p ∧ es[p]? = some e ∧ e.2 = v) (fun i h => h.get? I = some (siObj (.ref PL) i S n ep) ∧ h.get? S = some (setObj es ep t) ∧ h.get? PL = some { cls := .type "tuple", data := .seq (ord.map fun (j : Nat) => rawInt j).toArray np }) where
  sub := fun b hb => by simp at hb; simp [hb]
  frame := fun _ _ _ st hk => ⟨hk I (by simp) _ st.1, hk S (by simp) _ st.2.1, hk PL (by simp) _ st.2.2⟩
  item := fun i s Q E hi st hQ => by
    obtain ⟨hI, hS, hP⟩ := st
    have hlen : ord.length = n := by simpa using ho.length_eq
    obtain ⟨p, hp⟩ : ∃ p, ord[i]? = some p := ⟨_, List.getElem?_eq_getElem (by rw [hlen]; exact hi)⟩
    have hpn : p < n := by have := ho.mem_iff.mp (List.mem_of_getElem? hp); simpa using this
    obtain ⟨e, he⟩ : ∃ e, es[p]? = some e := ⟨_, Array.getElem?_eq_getElem (by rw [hn]; exact hpn)⟩
    refine si_someD (x := e.2) (hs := e.1) (p := p) (tp := 0) hI hS hf hn hP (by simp [hp, rawInt]) he fun h' e1 s1 => hQ e.2 h' s.toks ⟨p, e, hp, he, rfl⟩ ⟨e1, (s1.2 S hSI).trans hS, (s1.2 PL hPI).trans hP⟩ fun b o hb e => (s1.2 b (by simpa using hb)).trans e
  done := fun s Q E st hQ => by
    obtain ⟨hI, hS, hP⟩ := st
    have hlen : ord.length = n := by simpa using ho.length_eq
    refine si_noneD hh hI hS hf hn hP (by simp [hlen]) fun h' e1 => hQ h' s.toks fun b o hb e => e1 b o (by simpa using hb) e
  self := fun _ _ _ _ st hQ => si_self st.1 hQ
theorem below_one (j : Nat) (sl : Nat) : SetTable.below #[j] sl = if j < sl then 1 else 0 := by
  unfold SetTable.below SetTable.below.go
  simp only [List.size_toArray, List.length_cons, List.length_nil]
  by_cases h : j < sl
  · simp [h, SetTable.below.go]
  · simp [h, SetTable.below.go]
theorem walks_small (hh : A.handled = none) (hSI : S ≠ I) (hf : t.fits es.size = true) (hn : es.size = n) (h1 : n ≤ 1) (hb : w.params.followText "set-order" = false) (hl : t.led = true) :
    Walks prog w A I [I, S] [I] n (fun i v => (es[i]?.map (·.2)) = some v) (fun i h => (∃ sl : Nat, h.get? I = some (siObj (.int sl 0) i S n ep) ∧ (i = 0 → sl = 0) ∧ (i = 1 → ∀ j, t.place = #[j] → sl = j + 1)) ∧ h.get? S = some (setObj es ep t)) where
  sub := fun b hb => by simp at hb; simp [hb]
  frame := fun _ _ _ st hk => ⟨let ⟨sl, e, r⟩ := st.1; ⟨sl, hk I (by simp) _ e, r⟩, hk S (by simp) _ st.2⟩
  item := fun i s Q E hi st hQ => by
    obtain ⟨⟨sl, hI, h0, _⟩, hS⟩ := st
    obtain rfl : i = 0 := by omega
    obtain rfl : n = 1 := by omega
    obtain rfl := h0 rfl
    have hps : t.place.size = 1 := by
      have := hf; simp only [SetTable.fits, Bool.and_eq_true, beq_iff_eq] at this; rw [this.1, hn]
    obtain ⟨j, hj⟩ := Array.size_eq_one_iff.mp hps
    obtain ⟨e, he⟩ := Array.size_eq_one_iff.mp hn
    refine si_some (x := e.2) (nx := j + 1) hI hS hf hn (fun Q E hq => next_small hS hf hb hl (by omega) ?_) fun h' e1 s1 => hQ e.2 h' s.toks (by rw [he]; rfl) ⟨⟨j + 1, e1, by omega, fun _ j' hj' => by rw [hj] at hj'; simp at hj'; omega⟩, (s1.2 S hSI).trans hS⟩ fun b o hb e => (s1.2 b (by simpa using hb)).trans e
    rw [hj, he, below_one]
    exact hq
  done := fun s Q E st hQ => by
    obtain ⟨⟨sl, hI, h0, hsl⟩, hS⟩ := st
    refine si_none hh hI hS hf hn (fun Q E hq => next_small hS hf hb hl (by omega) ?_) fun h' e1 => hQ h' s.toks fun b o hb e => e1 b o (by simpa using hb) e
    rcases Nat.lt_or_ge n 1 with h | h
    · obtain rfl : n = 0 := by omega
      have : es = #[] := Array.size_eq_zero_iff.mp hn
      rw [this]
      simp only [List.getElem?_toArray, List.getElem?_nil]
      exact hq
    · obtain rfl : n = 1 := by omega
      have hps : t.place.size = 1 := by
        have := hf; simp only [SetTable.fits, Bool.and_eq_true, beq_iff_eq] at this; rw [this.1, hn]
      obtain ⟨j, hj⟩ := Array.size_eq_one_iff.mp hps
      obtain ⟨e, he⟩ := Array.size_eq_one_iff.mp hn
      have := hsl rfl j hj
      rw [hj, he, below_one, if_pos (by omega)]
      exact hq
  self := fun _ _ _ _ st hQ => let ⟨⟨_, hI, _⟩, _⟩ := st; si_self hI hQ
end
end Mine
end

theorem Mine.reset_S7 : True := by
  w_top off
  k_with_none
  exact trivial
section
open PySem
set_option maxRecDepth 100000
set_option maxHeartbeats 4000000
namespace Mine
theorem items_eq {P : Nat → Value → Prop} {L : List Value} {acc : Array Value} {n : Nat} (hP : ∀ j v, P j v → L[j]? = some v) (hl : L.length = n) (h : ItemsOf P acc n) : acc.toList = L := by
  refine List.ext_getElem? fun j => ?_
  rcases Nat.lt_or_ge j n with hj | hj
  · have h1 : acc[j]? = some (acc[j]'(by rw [h.1]; exact hj)) := Array.getElem?_eq_getElem _
    rw [Array.getElem?_toList, h1]
    exact (hP _ _ (h.2 j _ h1)).symm
  · have hs := h.1
    rw [Array.getElem?_toList, Array.getElem?_eq_none (by omega), List.getElem?_eq_none (by omega)]
theorem ite_is {α : Type} {M : Model} {A : Around} {E : Value → Shared → Prop} {s : Shared} {c : Bool} {m k : Sem α} {Q : α → Shared → Prop} (hc : c = true) (h : wpAny M A m Q E s) : wpAny M A (if c = true then m else k) Q E s := by
  rw [if_pos hc]; exact h
structure SetIt (prog : Program) (w : World) (s : Shared) (es : Array (Int × Value)) (S I : Addr) (s' : Shared) : Prop where
  typ : s'.TypeIs (.ref I) "set_iterator"
  new : s.heap.objs.size ≤ I
  old : ∀ b o, s.heap.get? b = some o → s'.heap.get? b = some o
  rest : ∃ h d, s' = { s with heap := h, drawn := d }
  walk : ∃ fp P St, (∀ A : Around, A.handled = none → Walks prog w A I fp [I] es.size P St) ∧ St 0 s'.heap ∧ I ∈ fp ∧ (∀ b ∈ fp, b < s'.heap.objs.size ∧ (b = S ∨ s.heap.objs.size ≤ b)) ∧ ∀ acc, ItemsOf P acc es.size → acc.toList.Perm (es.toList.map (·.2))
section
variable {prog : Program} {w : World} {A : Around} {E : Value → Shared → Prop} {s : Shared} {es : Array (Int × Value)} {ep : Nat} {t : SetTable} {S I : Addr}
theorem set_iter {Q : Value → Shared → Prop} (hS : s.heap.get? S = some (setObj es ep t)) (hf : t.fits es.size = true) (hl : t.led = (!w.params.followText "set-order")) (h64 : es.size ≤ 64) (hp : es.size = 0 ∨ t.plain = false)
    (h : ∀ I s', SetIt prog w s es S I s' → Q (.ref I) s') : wpAny (model prog w) A (pyIter (.ref S)) Q E s := by
  have hT : s.TypeIs (.ref S) "set" := ⟨_, hS, rfl⟩
  have hlt := Heap.lt_size hS
  refine wpAny_pyIter_slot hT F.slot_set_iter (wpAny_call_entry F.slot_set_iter hT set_iter_entry ?_ (F.args_set_iter_1 _))
  unfold Builtin.«frozenset.__iter__»
  refine wpAny_bind (wpAny_pure ?_)
  refine wpAny_bind (wpAny_bind (wpAny_setEntries_of hS rfl hf (wpAny_pure ?_)))
  unfold setDrawn
  refine wpAny_bind (wpAny_bind (wpAny_setState_of hS rfl hf (wpAny_bind (byText_is ?_))))
  refine wpAny_pure ?_
  cases hb : w.params.followText "set-order" with
  | true =>
    simp only [Bool.not_true, Bool.false_and, Bool.false_eq_true, if_false]
    refine wpAny_bind (wpAny_pure ?_)
    refine wpAny_bind (wpAny_bind (wpAny_setState_of hS rfl hf (wpAny_pure ?_)))
    refine wpAny_bind (wpAny_newObj_type (wpAny_pure ⟨_, rfl, "set_iterator", _, ⟨_, Heap.get?_push_size _ rfl, rfl⟩, si_next.lookup, ?_⟩))
    refine h _ _ ⟨⟨_, Heap.get?_push_size _ rfl, rfl⟩, Nat.le_refl _, fun b o e => Heap.get?_push_of_some _ e, ⟨_, s.drawn, rfl⟩, ⟨_, _, _, fun A hh => walks_text hh (Nat.ne_of_lt hlt) hf rfl hb, ⟨⟨0, Heap.get?_push_size _ rfl⟩, Heap.get?_push_of_some _ hS⟩, by simp, ?_, ?_⟩⟩
    · intro b hb'
      simp only [List.mem_cons, List.not_mem_nil, or_false] at hb'
      rcases hb' with rfl | rfl <;> rw [Heap.size_push]
      all_goals first | exact ⟨Nat.lt_succ_self _, .inr (Nat.le_refl _)⟩ | exact ⟨Nat.lt_succ_of_lt hlt, .inl rfl⟩
    · intro acc ha
      rw [items_eq (L := (pickOrder (w.params.setOrder S ep) es).toList.map (·.2)) (fun j v q => by simpa using q) (by simpa using (pick_perm (w.params.setOrder S ep) es).length_eq) ha]
      exact (pick_perm _ es).map _
  | false =>
    simp only [Bool.not_false, Bool.true_and]
    by_cases h1 : es.size > 1
    · have hpl : t.plain = false := hp.resolve_left (by omega)
      have q' : (!t.plain && decide (es.size > 1)) = true := by simp [hpl, h1]
      split
      · refine wpAny_bind (any_drawOrder _ _ _ _ (by simp) fun ord d ho => ?_)
        refine wpAny_bind (wpAny_newTuple ?_ (by have := ho.length_eq; simp at this; simp [this]; rw [sizeLine_eq]; omega))
        refine wpAny_bind (wpAny_bind (wpAny_setState_of (Heap.get?_push_of_some _ hS) rfl hf (wpAny_pure ?_)))
        refine wpAny_bind (wpAny_newObj_type (wpAny_pure ⟨_, rfl, "set_iterator", _, ⟨_, Heap.get?_push_size _ rfl, rfl⟩, si_next.lookup, ?_⟩))
        refine h _ _ ⟨⟨_, Heap.get?_push_size _ rfl, rfl⟩, by rw [Heap.size_push]; exact Nat.le_succ _, fun b o e => Heap.get?_push_of_some _ (Heap.get?_push_of_some _ e), ⟨_, d, rfl⟩, ⟨_, _, _, fun A hh => walks_drawn (PL := s.heap.objs.size) (np := 0) hh (Nat.ne_of_lt (by rw [Heap.size_push]; exact Nat.lt_succ_of_lt hlt)) (Nat.ne_of_lt (by rw [Heap.size_push]; exact Nat.lt_succ_self _)) hf rfl ho, ⟨Heap.get?_push_size _ rfl, Heap.get?_push_of_some _ (Heap.get?_push_of_some _ hS), Heap.get?_push_of_some _ (Heap.get?_push_size _ rfl)⟩, by simp, ?_, ?_⟩⟩
        · intro b hb'
          simp only [List.mem_cons, List.not_mem_nil, or_false] at hb'
          rcases hb' with rfl | rfl | rfl
          · exact ⟨by simp only [Heap.size_push]; exact Nat.lt_succ_self _, .inr (by simp only [Heap.size_push]; exact Nat.le_succ _)⟩
          · exact ⟨by simp only [Heap.size_push]; exact Nat.lt_succ_of_lt (Nat.lt_succ_of_lt hlt), .inl rfl⟩
          · exact ⟨by simp only [Heap.size_push]; exact Nat.lt_succ_of_lt (Nat.lt_succ_self _), .inr (Nat.le_refl _)⟩
        · intro acc ha
          have hr : (List.range es.size).map (fun p => (es[p]?.map (·.2)).getD .none) = es.toList.map (·.2) := by
            refine List.ext_getElem? fun j => ?_
            rcases Nat.lt_or_ge j es.size with hj | hj
            · simp [hj]
            · simp [hj]
          rw [items_eq (L := ord.map (fun p => (es[p]?.map (·.2)).getD .none)) (fun j v q => by obtain ⟨p, e, h1, h2, h3⟩ := q; simp [h1, h2, h3]) (by simpa using ho.length_eq) ha, ← hr]
          exact ho.map _
      · rename_i q
        exact absurd q' q
    · split
      · rename_i q
        have q' : (!t.plain && decide (es.size > 1)) = true := q
        simp [h1] at q'
      · refine wpAny_bind (wpAny_pure ?_)
        refine wpAny_bind (wpAny_bind (wpAny_setState_of hS rfl hf (wpAny_pure ?_)))
        refine wpAny_bind (wpAny_newObj_type (wpAny_pure ⟨_, rfl, "set_iterator", _, ⟨_, Heap.get?_push_size _ rfl, rfl⟩, si_next.lookup, ?_⟩))
        refine h _ _ ⟨⟨_, Heap.get?_push_size _ rfl, rfl⟩, Nat.le_refl _, fun b o e => Heap.get?_push_of_some _ e, ⟨_, s.drawn, rfl⟩, ⟨_, _, _, fun A hh => walks_small hh (Nat.ne_of_lt hlt) hf rfl (by omega) hb (by rw [hl, hb]; rfl), ⟨⟨0, Heap.get?_push_size _ rfl, fun _ => rfl, fun q => by cases q⟩, Heap.get?_push_of_some _ hS⟩, by simp, ?_, ?_⟩⟩
        · intro b hb'
          simp only [List.mem_cons, List.not_mem_nil, or_false] at hb'
          rcases hb' with rfl | rfl <;> rw [Heap.size_push]
          all_goals first | exact ⟨Nat.lt_succ_self _, .inr (Nat.le_refl _)⟩ | exact ⟨Nat.lt_succ_of_lt hlt, .inl rfl⟩
        · intro acc ha
          rw [items_eq (L := es.toList.map (·.2)) (fun j v q => by simpa using q) (by simp) ha]
theorem collect_set {Q : List Value → Shared → Prop} (hh : A.handled = none) (hS : s.heap.get? S = some (setObj es ep t)) (hf : t.fits es.size = true) (hl : t.led = (!w.params.followText "set-order")) (h64 : es.size ≤ 64) (hp : es.size = 0 ∨ t.plain = false)
    (h : ∀ vs h' d tk, vs.Perm (es.toList.map (·.2)) → s.heap.objs.size ≤ h'.objs.size → (∀ b o, s.heap.get? b = some o → h'.get? b = some o) → Q vs { s with heap := h', drawn := d, toks := tk }) : wpAny (model prog w) A (collect (.ref S)) Q E s := by
  have hT : s.TypeIs (.ref S) "set" := ⟨_, hS, rfl⟩
  have hlt := Heap.lt_size hS
  have hSI : s.heap.objs.size ≠ S := Ne.symm (Nat.ne_of_lt hlt)
  unfold collect
  refine wpAny_bind (wpAny_runValue (codeAny_builtin F.entry_proto_collect ?_))
  rw [Around.under_plainId F.plain_proto_collect _]
  show wpAny _ A.in1 (newList [] >>= fun l => again (.builtin "list.__iadd__" ⟨[l, .ref S], []⟩)) _ _ s
  refine wpAny_bind (wpAny_newObj_type ?_)
  refine wpAny_pure ⟨plainId_quiet F.plain_list_iadd _, codeAny_builtin F.entry_list_iadd ?_⟩
  rw [Around.under_plainId F.plain_list_iadd _]
  show wpAny _ A.in1 (Builtin.List.listExtendWith (.ref s.heap.objs.size) (.ref S) (.ref s.heap.objs.size)) _ _ _
  unfold Builtin.List.listExtendWith
  have hS₁ : (s.heap.push { cls := .type "list", data := .seq ([] : List Value).toArray }).get? s.heap.objs.size = some { cls := .type "list", data := .seq ([] : List Value).toArray } := Heap.get?_push_size _ rfl
  have hT1 : Shared.TypeIs { s with heap := s.heap.push { cls := .type "list", data := .seq ([] : List Value).toArray } } (.ref S) "set" := ⟨_, Heap.get?_push_of_some _ hS, rfl⟩
  refine wpAny_bind (wpAny_typeOf hT1 ?_)
  have h1 : Builtin.List.listSameRef (.ref s.heap.objs.size) (.ref S) = false := by simp [Builtin.List.listSameRef, hSI]
  have h2 : (Value.type "set" == Value.type "list") = false := by decide
  have h3 : (Value.type "set" == Value.type "tuple") = false := by decide
  simp only [h1, h2, h3, Bool.or_false, Bool.false_eq_true, if_false]
  refine wpAny_bind (set_iter (Heap.get?_push_of_some _ hS) hf hl h64 hp fun I s1 hI => ?_)
  obtain ⟨hIT, hInew, hIold, ⟨h1', d1, rfl⟩, fp, P, St, hW, hSt, hIfp, hfp, hperm⟩ := hI
  have hT2 : Shared.TypeIs { s with heap := h1', drawn := d1 } (.ref S) "set" := ⟨_, hIold _ _ (Heap.get?_push_of_some _ hS), rfl⟩
  have hL2 : h1'.get? s.heap.objs.size = some { cls := .type "list", data := .seq ([] : List Value).toArray } := hIold _ _ hS₁
  have hSf : s.heap.objs.size ∉ fp := fun hm => by
    rcases (hfp _ hm).2 with e | e
    · exact hSI e
    · rw [Heap.size_push] at e; exact Nat.not_succ_le_self _ e
  refine wpAny_bind (wpAny_holding ?_)
  unfold Builtin.List.listLengthHint
  refine wpAny_bind (wpAny_specialOf hT2 set_len ?_)
  have hsp : splitId "set.__len__" = some ("set", "__len__") := by decide +kernel
  simp only [hsp]
  refine wpAny_bind (wpAny_isInstance hT2 F.sub_set_set ?_)
  rw [if_neg (by decide)]
  refine ite_is (by decide +kernel) ?_
  refine wpAny_bind (wpAny_typeOf hT2 (wpAny_pure ?_))
  refine ite_is (by decide +kernel) ?_
  refine wpAny_bind (wpAny_rule ?_)
  show wpAny _ A.in1 ((updateSeq s.heap.objs.size (·.push .none) >>= fun _ => updateSeq s.heap.objs.size (·.pop)) >>= fun _ => again (.builtin "list.extend.loop" ⟨[.ref s.heap.objs.size, .ref I, .ref s.heap.objs.size], []⟩)) _ _ _
  refine wpAny_bind ?_
  refine wpAny_bind (wpAny_updateSeq hL2 rfl ?_)
  have hS₂ := Heap.get?_update_self (Obj.mapSeq (·.push Value.none)) hL2 rfl
  refine wpAny_updateSeq hS₂ rfl ?_
  have hS₃ := Heap.get?_update_self (Obj.mapSeq (·.pop)) hS₂ rfl
  have oth : ∀ b o, b ≠ s.heap.objs.size → h1'.get? b = some o → ((h1'.update s.heap.objs.size (Obj.mapSeq (·.push Value.none))).update s.heap.objs.size (Obj.mapSeq (·.pop))).get? b = some o :=
    fun b o hb e => (Heap.get?_update_other _ _ (Ne.symm hb)).trans ((Heap.get?_update_other _ _ (Ne.symm hb)).trans e)
  have W := (hW A.in1 hh).toS
  refine wpAny_pure ⟨plainId_quiet F.plain_extend_loop _, codeAny_extend_loopS W (by rw [sizeLine_eq]; omega) _ hSf _ es.size 0 _ _ _ rfl (Nat.zero_le _)
    (W.frame 0 { s with heap := h1', drawn := d1 } _ s.toks hSt (Nat.le_refl _) fun b hb o e => oth b o (fun h => hSf (h ▸ hb)) e) hS₃ (ItemsOf.nil P) fun s' acc' c' hm hS' hacc => ?_⟩
  show wpAny _ A (load s.heap.objs.size >>= _) _ _ s'
  refine wpAny_bind (wpAny_load hS' ?_)
  obtain ⟨h', g', d', tk', os'⟩ := s'
  have eg : g' = s.gens := hm.gens
  have ed : d' = d1 := hm.drawn
  have eo : os' = s.os := hm.os
  subst eg; subst ed; subst eo
  refine wpAny_pure (h _ _ _ _ (hperm _ hacc) (Nat.le_of_lt (Heap.lt_size hS')) fun b o e => ?_)
  have hb1 : b ≠ s.heap.objs.size := Nat.ne_of_lt (Heap.lt_size e)
  have hb2 : b ≠ I := Nat.ne_of_lt (Nat.lt_of_lt_of_le (Heap.lt_size (Heap.get?_push_of_some { cls := .type "list", data := .seq ([] : List Value).toArray } e)) hInew)
  exact hm.heap b o (by simp only [List.mem_cons, List.not_mem_nil, or_false, not_or]; exact ⟨hb1, hb2⟩) (oth b o hb1 (hIold _ _ (Heap.get?_push_of_some _ e)))
end
end Mine
end

theorem Mine.reset_S8 : True := by
  w_top off
  k_with_none
  exact trivial
section
open PySem
set_option maxRecDepth 100000
set_option maxHeartbeats 4000000
namespace Mine
section
variable {prog : Program} {w : World} {A : Around} {E : Value → Shared → Prop} {s : Shared}
theorem sorted_set {S : Addr} {o : Obj} {ss : List Str} {n : Nat} {Q : Value → Shared → Prop} (hh : A.handled = none) (hS : s.heap.get? S = some o) (hset : SetS prog w o (memL ss) n) (hn : n < 64)
    (h : ∀ X h' d tk out ss' e, h'.get? X = some (PyProof.Rows.seqObj "list" out e) → s.heap.objs.size ≤ X → PyProof.Rows.StrsAre out.toList ss' → (∀ x, x ∈ ss' ↔ x ∈ ss) → ss'.length ≤ n → (∀ b o, s.heap.get? b = some o → h'.get? b = some o) →
      Q (.ref X) { s with heap := h', drawn := d, toks := tk }) : wpAny (model prog w) A (call (.builtin "sorted") [.ref S]) Q E s := by
  obtain ⟨es, ep, t, rfl, hel, hmem, hf, hle, _, hl, hp⟩ := hset
  refine PySem.Calls.call_function_entry PyProof.Rows.kind_sorted PyProof.Rows.plain_sorted PyProof.Rows.entry_sorted (PyProof.Rows.args_sorted1 _) ?_
  unfold Builtin.«sorted»
  refine wpAny_bind (m := checkCount "sorted" 1 1 _) (wpAny_pure ?_)
  refine wpAny_bind (collect_set hh hS hf hl (by omega) hp fun vs h1 d tk hpm hsz hold => ?_)
  refine wpAny_bind (wpAny_newList ?_ (by have := hpm.length_eq; simp at this; rw [this, sizeLine_eq]; omega))
  have hlen : vs.length = es.size := by have := hpm.length_eq; simpa using this
  have hall : ∀ v ∈ vs, ∃ x t, v = .str x t := fun v hv => by
    have := hpm.mem_iff.mp hv
    obtain ⟨e, he, rfl⟩ := List.mem_map.mp this
    obtain ⟨⟨k, hk, _⟩, _⟩ := hel e he
    obtain ⟨t, ht⟩ := Value.isStrOf_shape hk
    exact ⟨k, t, ht⟩
  have hSt := PyProof.Rows.strsAre_map vs hall
  have hoL : (h1.push (PyProof.Rows.seqObj "list" vs.toArray 0)).get? h1.objs.size = some (PyProof.Rows.seqObj "list" vs.toArray 0) := Heap.get?_push_size _ rfl
  refine wpAny_bind (wpAny_holding (wpAny_call_entry PyProof.Rows.slot_list_sort ⟨_, hoL, rfl⟩ PyProof.Rows.entry_list_sort (PyProof.Rows.list_sort_treeK PyProof.Rows.strKind_oneLt hoL hSt.keysOf (fun v₁ v₂ rest e => PyProof.Rows.keyKind_strs (by rw [← e]; exact hSt)) (by omega) fun st' a1 a2 => ⟨_, rfl, ?_⟩) (PyProof.Rows.args_list_sort _)))
  obtain ⟨ss', b1, b2, _⟩ := PyProof.Rows.sorted_out_str hSt a1 a2
  obtain ⟨e, he⟩ := PyProof.Rows.sortedHeap_at (out := (PyProof.Rows.arrOf st').map (·.2)) hoL
  refine wpAny_pure ⟨_, rfl, h _ _ _ _ _ ss' e he hsz b1 (fun x => ?_) ?_ fun b o eb => ?_⟩
  · rw [b2.mem_iff, (hpm.map PyProof.Rows.strOf).mem_iff]
    have := hmem x
    simp only [memL, decide_eq_true_eq] at this
    rw [this]
    constructor
    · intro hx
      obtain ⟨v, hv, rfl⟩ := List.mem_map.mp hx
      obtain ⟨e, he, rfl⟩ := List.mem_map.mp hv
      obtain ⟨⟨k, hk, _⟩, _⟩ := hel e he
      obtain ⟨t, ht⟩ := Value.isStrOf_shape hk
      refine ⟨e, he, ?_⟩
      rw [ht] at hk ⊢
      exact hk
    · rintro ⟨e, he, hk⟩
      obtain ⟨t, ht⟩ := Value.isStrOf_shape hk
      exact List.mem_map.mpr ⟨_, List.mem_map.mpr ⟨e, he, rfl⟩, by rw [ht]; rfl⟩
  · rw [b2.length_eq, List.length_map]; omega
  · have hb := Heap.lt_size eb
    rw [PyProof.Rows.sortedHeap_old (Nat.ne_of_lt (Nat.lt_of_lt_of_le hb hsz)) (by rw [Heap.size_push]; exact Nat.lt_succ_of_lt (Nat.lt_of_lt_of_le hb hsz))]
    exact Heap.get?_push_of_some _ (hold _ _ eb)
end
end Mine
end

theorem Mine.reset_D1 : True := by
  w_top off
  k_with_none
  exact trivial
section
open PySem
set_option maxRecDepth 100000
set_option maxHeartbeats 800000
namespace Mine
theorem list_keys_none : typeLookup (.type "list") (Str.ofString "keys") = pure none := am_miss_of_fast (by kernel_rfl)
theorem dl_entry : entryFor table "dict.update.loop" = some Builtin.«dict.update.loop» := entryFor_of_tree (by kernel_rfl)
theorem dl_plain : plainId "dict.update.loop" = true := by decide +kernel
theorem keys_fit : (Str.ofString "keys").length + 100 ≤ sizeLine := by
  have e : (Str.ofString "keys").length = 4 := by decide +kernel
  rw [e, sizeLine_eq]; decide
section
variable {prog : Program} {w : World} {A : Around} {E : Value → Shared → Prop} {s : Shared}
theorem keys_miss {a : Addr} {o : Obj} {xs : Array Value} {k : Nat} {Q : Option Value → Shared → Prop}
    (hx : s.heap.get? a = some o) (hc : o.cls = .type "list") (hdat : o.data = .seq xs k) (hd : o.dict = none) (hA : A.handled = none)
    (h : ∀ h' tk, (∀ b ob, s.heap.get? b = some ob → h'.get? b = some ob) → Q none { s with heap := h', toks := tk }) :
    wpAny (model prog w) A (getAttr? (.ref a) (Str.ofString "keys")) Q E s := by
  obtain ⟨c, dct, dat, sl⟩ := o
  simp only at hc hdat hd
  subst hc hdat hd
  obtain ⟨hp, g, d, tk, os⟩ := s
  have hT : ∀ tk', (⟨hp, g, d, tk', os⟩ : Shared).TypeIs (.ref a) "list" := fun _ => ⟨_, hx, rfl⟩
  have f1 := sub_AttributeError
  have f3 := F.slot_list_getattribute.lookup
  have f4 := F.slot_list_getattribute.bind (.ref a)
  have f5 := am_list_getattr_none
  unfold getAttr? getAttrBy? getAttrBy
  repeat (any_goals (first | assumption | exact hT _ | ((with_reducible show wpAny _ _ (call (Value.builtin "list.__getattribute__") _ _) _ _ _); refine call_meets F.slot_list_getattribute (hT _) am_entry_list_getattribute (F.args_list_getattribute_2 _ _) (meets_getattribute_miss_list a xs k sl (Str.ofString "keys") _ list_keys_none (by decide +kernel) keys_fit) ⟨hx, hA, fun h' tk' e hx' => ?_⟩) | wp_step))
  obtain ⟨t', u', he⟩ := hx'.there
  show wpAny _ _ (getattributeRaised _ _ _ _ _ _ _) _ _ _
  unfold getattributeRaised
  repeat (any_goals (first | assumption | wp_step))
  exact h _ _ hx'.keeps
end
end Mine
end

theorem Mine.reset_D2 : True := by
  w_top off
  k_with_none
  exact trivial
section
open PySem
set_option maxRecDepth 100000
set_option maxHeartbeats 800000
namespace Mine
section
variable {prog : Program} {w : World} {A : Around} {E : Value → Shared → Prop} {R : Result → Shared → Prop} {I ax d : Addr}
def PairsAt (h : Heap) (I d : Addr) (items : Array Value) (ps : List (Str × Value)) : Prop :=
  ∀ (j : Nat) (v : Value), items[j]? = some v → ∃ (T : Addr) (σ : Str) (tk : Tok) (x : Value), v = Value.ref T ∧ ps[j]? = some (σ, x) ∧ T ≠ I ∧ T ≠ d ∧ h.IsTuple T #[.str σ tk, x]
theorem dict_loop (items : Array Value) (ps : List (Str × Value)) (hlen : ps.length = items.size) (hsz : items.size ≤ 100) (hh : A.handled = none) (hIa : ax ≠ I) (hda : ax ≠ d) (hdI : d ≠ I) :
    ∀ (k i : Nat) (s : Shared), items.size - i = k → i ≤ items.size → s.heap.IsListIter I ax i → s.heap.IsList ax items → PairsAt s.heap I d items ps → s.heap.DictOf (strKind prog w) d (merged [] (ps.take i)) →
      (∀ h' tk', h'.DictOf (strKind prog w) d (merged [] ps) → (∀ b o, b ≠ I → b ≠ d → s.heap.get? b = some o → h'.get? b = some o) → R (.ok (.ret .none)) { s with heap := h', toks := tk' }) →
      codeAny (model prog w) A (.builtin "dict.update.loop" ⟨[.ref d, .ref I, rawInt i, .none], []⟩) R s := by
  intro k
  induction k with
  | zero =>
    intro i s hk hi hit hl hP hD hR
    have hin : i = items.size := by omega
    subst hin
    refine codeAny_builtin dl_entry ?_
    rw [Around.under_plainId dl_plain _]
    show wpAny _ A.in1 (pyNext (.ref I) >>= _) _ _ s
    refine wpAny_bind (wpAny_pyNext_list_end (by simp [hh]) hit hl (by simp) fun h' hs => ?_)
    show wpAny _ A.in1 (Builtin.Dict.addKeywords d [] >>= _) _ _ _
    refine wpAny_bind (wpAny_pure (wpAny_pure ?_))
    refine hR h' s.toks ?_ fun b o hb _ e => hs b o hb e
    rw [← hlen, List.take_length] at hD
    obtain ⟨o, ho, hd'⟩ := Heap.dictOf_iff.mp hD
    exact Heap.dictOf_iff.mpr ⟨o, hs d o hdI ho, hd'⟩
  | succ k ih =>
    intro i s hk hi hit hl hP hD hR
    have hlt : i < items.size := by omega
    have hx : items[i]? = some items[i] := by simp [hlt]
    obtain ⟨T, σ, tk, x, hv, hp, hTI, hTd, hT⟩ := hP i _ hx
    refine codeAny_builtin dl_entry ?_
    rw [Around.under_plainId dl_plain _]
    show wpAny _ A.in1 (pyNext (.ref I) >>= _) _ _ s
    refine wpAny_bind (wpAny_pyNext_list_item hit hl (x := items[i]) hx fun h' hit' hs' => ?_)
    rw [hv]
    have k1 : ∀ b o, b ≠ I → s.heap.get? b = some o → h'.get? b = some o := fun b o hb e => (hs'.2 b hb).trans e
    obtain ⟨oT, hoT, hcT, nT, hdT⟩ := id hT
    have hoT' := k1 _ _ hTI hoT
    show wpAny _ A.in1 (holding [Value.ref T] _ >>= _) _ _ _
    refine wpAny_bind (wpAny_holding ?_)
    refine wpAny_bind (wpAny_tryCatch ?_)
    unfold Builtin.Dict.pairItems
    refine wpAny_bind (wpAny_typeOf ⟨oT, hoT', hcT⟩ ?_)
    rw [if_pos (by decide)]
    refine wpAny_bind (wpAny_seqItems hoT' hdT (wpAny_pure ?_))
    show wpAny _ A.in1 (holding [Value.str σ tk, x] (dictSet d (.str σ tk) x)) _ _ _
    refine wpAny_holding ?_
    unfold dictSet
    refine wpAny_holding ?_
    refine wpAny_bind ((strKind prog w).pyHash (k := σ) (strKind_is _ _ _ _) ?_)
    have hD' : h'.DictOf (strKind prog w) d (merged [] (ps.take i)) := by
      obtain ⟨o, ho, hd'⟩ := Heap.dictOf_iff.mp hD
      exact Heap.dictOf_iff.mpr ⟨o, k1 d o hdI ho, hd'⟩
    have hll : (merged ([] : List (Str × Value)) (ps.take i)).length ≤ sizeLine := by
      have h1 := merged_length_le ([] : List (Str × Value)) (ps.take i)
      have h2 : (ps.take i).length ≤ ps.length := by rw [List.length_take]; omega
      rw [sizeLine_eq]
      simp only [List.length_nil] at h1
      omega
    refine wpAny_dictSetHashed_pairs (s := { s with heap := h', toks := s.toks + 1 }) (hsz := hll) (strKind_is _ _ _ _) hD' fun h2 hD2 hs2 => ?_
    have k2 : ∀ b o, b ≠ I → b ≠ d → s.heap.get? b = some o → h2.get? b = some o := fun b o hb hb2 e => (hs2.2 b hb2).trans (k1 b o hb e)
    refine wpAny_pure ⟨plainId_quiet dl_plain _, ?_⟩
    have e : merged ([] : List (Str × Value)) (ps.take (i + 1)) = stored (merged [] (ps.take i)) σ x := merged_take_succ [] ps i (σ, x) hp
    refine ih (i + 1) { s with heap := h2, toks := s.toks + 1 } (by omega) hlt ?_ ?_ ?_ (by rw [e]; exact hD2) fun h3 tk3 hD3 k3 => ?_
    · obtain ⟨oi, hoi, r⟩ := hit'
      exact ⟨oi, (hs2.2 I (Ne.symm hdI)).trans hoi, r⟩
    · obtain ⟨ol, hol, r⟩ := hl
      exact ⟨ol, k2 ax ol hIa hda hol, r⟩
    · intro j v hj
      obtain ⟨T', σ', tk', x', a1, a2, a3, a4, o', ho', r⟩ := hP j v hj
      exact ⟨T', σ', tk', x', a1, a2, a3, a4, o', k2 T' o' a3 a4 ho', r⟩
    · exact hR h3 tk3 hD3 fun b o hb hb2 e => k3 b o hb hb2 (k2 b o hb hb2 e)
theorem dict_of_pairs {o : Obj} {items : Array Value} {n : Nat} {ps : List (Str × Value)} {s : Shared} {Q : Value → Shared → Prop} (hh : A.handled = none) (hx : s.heap.get? ax = some o) (hc : o.cls = .type "list") (hdat : o.data = .seq items n) (hd : o.dict = none)
    (hlen : ps.length = items.size) (hsz : items.size ≤ 100) (hn : (ps.map (·.1)).Nodup) (hP : ∀ (j : Nat) (v : Value), items[j]? = some v → ∃ (T : Addr) (σ : Str) (tk : Tok) (x : Value), v = Value.ref T ∧ ps[j]? = some (σ, x) ∧ s.heap.IsTuple T #[.str σ tk, x])
    (h : ∀ h' tk', h'.DictOf (strKind prog w) s.heap.objs.size ps → (∀ b o, s.heap.get? b = some o → h'.get? b = some o) → Q (.ref s.heap.objs.size) { s with heap := h', toks := tk' }) :
    wpAny (model prog w) A (call (.type "dict") [.ref ax]) Q E s := by
  refine callType_codes (Q₁ := fun obj s₁ => obj = .ref s.heap.objs.size ∧ s₁ = { s with heap := s.heap.push { cls := .type "dict", data := .dict #[] } }) F.kt_called_dict (F.kt_typeCall_dict_1 _) F.entry_dict_init (kt_code_dict_new _ ⟨rfl, rfl⟩) ?_
  rintro obj s₁ ⟨rfl, rfl⟩
  have hnew : (s.heap.push { cls := .type "dict", data := .dict #[] }).DictOf (strKind prog w) s.heap.objs.size [] := Heap.DictOf.new s.heap
  refine ⟨hnew.typeIs, F.args_dict_init_2 _ _, ?_⟩
  have up1 : ∀ b o, s.heap.get? b = some o → (s.heap.push { cls := .type "dict", data := .dict #[] }).get? b = some o := fun b o e => Heap.get?_push_of_some _ e
  have hx1 := up1 _ _ hx
  unfold Builtin.«dict.__init__»
  refine wpAny_bind ?_
  unfold Builtin.Dict.selfAndRest
  refine wpAny_bind (wpAny_notOrdered_dict hnew.typeIs ?_)
  show wpAny _ _ (pure (s.heap.objs.size, [Value.ref ax])) _ _ _
  refine wpAny_pure ?_
  show wpAny _ _ (Builtin.Dict.updateFrom "dict.__init__" s.heap.objs.size (.ref ax) [] .none) _ _ _
  unfold Builtin.Dict.updateFrom
  refine wpAny_bind (wpAny_typeOf ⟨o, hx1, hc⟩ ?_)
  rw [if_pos (by decide)]
  refine wpAny_bind (keys_miss (s := { s with heap := _ }) hx1 hc hdat hd (by simp [hh]) fun h1 tk1 k1 => ?_)
  rw [if_pos (by rfl)]
  refine wpAny_bind (wpAny_rule ?_)
  have hx2 := k1 _ _ hx1
  refine wpAny_bind (wpAny_pyIter_list (s := { s with heap := h1, toks := tk1 }) ⟨o, hx2, hc, n, hdat⟩ ?_)
  have hd1 := Heap.dictOf_iff.mp hnew
  obtain ⟨od, hod, hdd⟩ := hd1
  have hod1 := k1 _ _ hod
  have hsz1 : s.heap.objs.size < h1.objs.size := Heap.lt_size hod1
  have hax : ax < s.heap.objs.size := Heap.lt_size hx
  refine wpAny_pure ⟨plainId_quiet dl_plain _, ?_⟩
  refine dict_loop (ax := ax) (d := s.heap.objs.size) (I := h1.objs.size) items ps hlen hsz (by simp [hh]) (Nat.ne_of_lt (Nat.lt_trans hax hsz1)) (Nat.ne_of_lt hax) (Nat.ne_of_lt hsz1) items.size 0 _ (by simp) (Nat.zero_le _)
    ⟨_, Heap.get?_push_size _ rfl, rfl, rfl⟩ ⟨o, Heap.get?_push_of_some _ hx2, hc, n, hdat⟩ ?_ ?_ fun h' tk' hD' k' => ?_
  · intro j v hj
    obtain ⟨T, σ, tk, x, a1, a2, oT, hoT, r⟩ := hP j v hj
    have hlt := Heap.lt_size hoT
    exact ⟨T, σ, tk, x, a1, a2, Nat.ne_of_lt (Nat.lt_trans hlt hsz1), Nat.ne_of_lt hlt, oT, Heap.get?_push_of_some _ (k1 _ _ (up1 _ _ hoT)), r⟩
  · exact Heap.dictOf_iff.mpr ⟨od, Heap.get?_push_of_some _ hod1, hdd⟩
  · rw [merged_nil_of_nodup ps hn] at hD'
    refine ⟨rfl, h h' tk' hD' fun b o e => ?_⟩
    have hlt := Heap.lt_size e
    exact k' b o (Nat.ne_of_lt (Nat.lt_trans hlt hsz1)) (Nat.ne_of_lt hlt) (Heap.get?_push_of_some _ (k1 _ _ (up1 _ _ e)))
end
end Mine
end

theorem Mine.reset_D4 : True := by
  w_top off
  k_with_none
  exact trivial
section
open PySem
set_option maxRecDepth 100000
set_option maxHeartbeats 800000
namespace Mine
section
variable {prog : Program} {w : World} {A : Around} {E : Value → Shared → Prop} {s : Shared}
theorem put_pairs {d : Addr} {kvs : List (Str × Value)} {k : Str} {key v : Value} {Q : Unit → Shared → Prop} (hkey : (strKind prog w).is k key = true) (hm : s.heap.DictOf (strKind prog w) d kvs)
    (hQ : ∀ h', h'.DictOf (strKind prog w) d (stored kvs k v) → Heap.SameBut d s.heap h' → Q () { s with heap := h' })
    (hsz : kvs.length ≤ sizeLine) :
    wpAny (model prog w) A (dictPut d ((strKind prog w).hash k) key v) Q E s := by
  obtain ⟨o, es, ep, ho, hc, hd, hk, hp, hn⟩ := hm
  have hes : es.size ≤ sizeLine := by
    have e1 := hp.length
    have e2 : es.toList.length = es.size := by simp
    omega
  unfold dictPut
  refine wpAny_bind (wpAny_dictFind_of hkey ho hd hk ?_)
  have hidx : (es.findIdx? fun e => (strKind prog w).is k e.key) = kvs.findIdx? fun kv => decide (kv.1 = k) := by
    rw [← hp.findIdx k]; obtain ⟨l⟩ := es; simp
  cases hi : es.findIdx? fun e => (strKind prog w).is k e.key with
  | some i =>
    refine wpAny_updateDict ho hd (hQ _ ⟨_, _, ep, Heap.get?_update_self _ ho (Obj.isFreed_of_dict (Obj.data_mapDict hd _)),
      hc.mapDict _, Obj.data_mapDict hd _, hk.modify _ _, ?_, ?_⟩ (Heap.SameBut.update ..))
    · rw [stored, if_pos (any_of_findIdx_some (hidx ▸ hi))]
      have hl : (es.toList.findIdx? fun e => (strKind prog w).is k e.key) = some i := by rw [← hi]; obtain ⟨l⟩ := es; simp
      have := hp.modify hn hl v
      obtain ⟨l⟩ := es
      simpa using this
    · rw [stored, if_pos (any_of_findIdx_some (hidx ▸ hi)), keys_map_store]; exact hn
  | none =>
    have hnot : k ∉ kvs.map (·.1) := not_mem_of_findIdx_none (hidx ▸ hi)
    have hany : ¬ (kvs.any fun kv => decide (kv.1 = k)) = true := by
      rw [List.any_eq_true]; rintro ⟨kv, hkv, he⟩
      exact hnot (List.mem_map.mpr ⟨kv, hkv, of_decide_eq_true he⟩)
    refine wpAny_updateDictKeys (hz := hes) ho hd (hQ _ ⟨_, _, ep + 1, Heap.get?_update_self _ ho (Obj.isFreed_of_dict (Obj.data_mapDictKeys hd _)),
      hc.mapDictKeys _, Obj.data_mapDictKeys hd _, hk.push hkey _, ?_, ?_⟩ (Heap.SameBut.update ..))
    · rw [stored, if_neg hany]
      have := hp.append hkey ((strKind prog w).hash k) v
      obtain ⟨l⟩ := es
      simpa using this
    · rw [stored, if_neg hany, List.map_append, List.nodup_append]
      refine ⟨hn, by simp, ?_⟩
      intro a ha b hb
      simp only [List.map_cons, List.map_nil, List.mem_singleton] at hb
      subst hb
      exact fun e => hnot (e ▸ ha)
theorem merge_map {d o : Addr} {kvs more : List (Str × Value)} {Q : Unit → Shared → Prop} (hdo : d ≠ o) (hoS : (o == sysModules) = false)
    (hd : s.heap.DictOf (strKind prog w) d kvs) (ho : s.heap.DictOf (strKind prog w) o more)
    (hQ : ∀ h', h'.DictOf (strKind prog w) d (merged kvs more) → Heap.SameBut d s.heap h' → Q () { s with heap := h' })
    (hsz : kvs.length + more.length ≤ sizeLine) :
    wpAny (model prog w) A (mergeMapping d (.ref o) false) Q E s := by
  have hoT := ho.typeIs
  obtain ⟨od, esd, epd, hod, hcd, hdd, hkd, hpd, hnd⟩ := id hd
  obtain ⟨oo, eso, epo, hoo, hco, hdo', hko, hpo, hno⟩ := id ho
  have hlen : more.length = eso.size := by rw [← hpo.length]; simp
  unfold mergeMapping
  refine wpAny_bind (wpAny_isInstance hoT isSubtype_dict_dict ?_)
  refine ite_is rfl ?_
  refine wpAny_bind (wpAny_specialOf hoT F.slot_dict_iter.lookup ?_)
  refine wpAny_bind (wpAny_pure ?_)
  rw [show (some (Value.builtin "dict.__iter__") == some (Value.builtin "dict.__iter__")) = true from by simp]
  dsimp only
  rw [if_neg (by rw [hoS]; exact Bool.false_ne_true)]
  have tail : wpAny (model prog w) A (do
      let l ← dictEntries o
      let epoch ← dictEpoch o
      forIn (List.range l.size) PUnit.unit fun i (_ : PUnit) => (do
          let l' ← dictEntries o
          match l'[i]? with
            | some e => do
              holding [e.key, e.val] (do
                if false = true then
                  let r ← dictFind d e.key e.hash
                  if r.isSome = true then
                    rule "dict.merge.duplicate-key"
                    let x ← newExc (.type "KeyError") [e.key]
                    raiseNew x
                    dictPut d e.hash e.key e.val
                  else
                    dictPut d e.hash e.key e.val
                else
                  dictPut d e.hash e.key e.val)
              let ep' ← dictEpoch o
              if (ep' != epoch) = true then do
                  (unsupported "dict.changed-during-merge" : Sem PUnit)
                  pure (ForInStep.yield PUnit.unit)
                else pure (ForInStep.yield PUnit.unit)
            | _ => do
              (unsupported "dict.changed-during-merge" : Sem PUnit)
              pure (ForInStep.yield PUnit.unit) : Sem (ForInStep PUnit))
      pure ()) Q E s := by
    refine wpAny_bind (wpAny_dictEntries hoo hdo' ?_)
    refine wpAny_bind (wpAny_dictEpoch hoo hdo' ?_)
    refine wpAny_bind ?_
    rw [List.range_eq_range']
    refine wpAny_forIn_list _
      (fun rest _ s' => ∃ h' i, s' = { s with heap := h' } ∧ rest = List.range' i (eso.size - i) ∧ i ≤ eso.size ∧ h'.DictOf (strKind prog w) d (merged kvs (more.take i)) ∧ h'.get? o = some oo ∧ Heap.SameBut d s.heap h')
      _ ?_ ?_ _ _ ⟨s.heap, 0, rfl, by simp, Nat.zero_le _, by simpa [merged] using hd, hoo, Heap.SameBut.refl _ _⟩
    · rintro x rest b s' ⟨h', i, rfl, hr, hi, hd', hoo', hs'⟩
      have hlt : i < eso.size := by
        rcases Nat.lt_or_ge i eso.size with h | h
        · exact h
        · rw [Nat.sub_eq_zero_of_le h] at hr; simp at hr
      obtain ⟨rfl, hrest⟩ : x = i ∧ rest = List.range' (i + 1) (eso.size - (i + 1)) := by
        have e : eso.size - i = (eso.size - (i + 1)) + 1 := by omega
        rw [e, List.range'_succ] at hr
        injection hr with h1 h2
        exact ⟨h1, h2⟩
      refine wpAny_bind (wpAny_dictEntries hoo' hdo' ?_)
      rw [Array.getElem?_eq_getElem hlt]
      obtain ⟨kv, hkv⟩ : ∃ kv, more[x]? = some kv := ⟨more[x]'(by rw [hlen]; exact hlt), List.getElem?_eq_getElem _⟩
      obtain ⟨k, v⟩ := kv
      obtain ⟨hkey, hval⟩ := hpo.get? (e := eso[x]) (by simp [hlt]) hkv
      obtain ⟨k', hkey', hhash⟩ := hko eso[x] (Array.getElem_mem hlt)
      obtain rfl : k' = k := (strKind prog w).inj _ _ _ hkey' hkey
      dsimp only
      rw [hhash, hval]
      have hmx : (merged kvs (more.take x)).length ≤ sizeLine := by
        have e1 := merged_length_le kvs (more.take x)
        have e2 : (more.take x).length ≤ more.length := by rw [List.length_take]; omega
        omega
      refine wpAny_bind (wpAny_holding ?_)
      rw [if_neg Bool.false_ne_true]
      refine put_pairs hkey hd' (fun h'' hd'' hs'' => ?_) hmx
      have hoo'' : h''.get? o = some oo := (hs''.2 o (Ne.symm hdo)).trans hoo'
      refine wpAny_bind (wpAny_dictEpoch hoo'' hdo' ?_)
      rw [if_neg (by simp)]
      exact wpAny_pure ⟨h'', x + 1, rfl, hrest, hlt, by rw [merged_take_succ kvs more x (k', v) hkv]; exact hd'', hoo'', hs'.trans hs''⟩
    · rintro b s' ⟨h', i, rfl, hr, hi, hd', hoo', hs'⟩
      have hin : i = eso.size := by
        rcases Nat.lt_or_ge i eso.size with h | h
        · have e : eso.size - i = (eso.size - (i + 1)) + 1 := by omega
          rw [e, List.range'_succ] at hr; exact nomatch hr
        · exact Nat.le_antisymm hi h
      refine wpAny_pure (hQ h' ?_ hs')
      rw [hin, ← hlen, List.take_length] at hd'; exact hd'
  refine wpAny_bind (wpAny_dictEntries hod hdd ?_)
  split
  · refine wpAny_bind (wpAny_dictEntries hoo hdo' ?_)
    refine wpAny_bind ?_
    rw [← Array.forIn_toList]
    refine wpAny_forIn_list _ (fun rest _ s' => s' = s ∧ ∀ e ∈ rest, ∃ σ t, e.key = Value.str σ t) _ ?_ ?_ _ _ ⟨rfl, fun e he => ?_⟩
    · rintro x rest b s' ⟨rfl, hall⟩
      obtain ⟨σ, t, hx⟩ := hall x (.head _)
      rw [hx]
      exact wpAny_pure ⟨rfl, fun e he => hall e (.tail _ he)⟩
    · rintro b s' ⟨rfl, _⟩
      exact tail
    · obtain ⟨k', hkey', _⟩ := hko e (by simpa using he)
      obtain ⟨t, ht⟩ := Value.isStrOf_shape hkey'
      exact ⟨_, t, ht⟩
  · exact tail
end
end Mine
end

theorem Mine.reset_D5 : True := by
  w_top off
  k_with_none
  exact trivial
section
open PySem
set_option maxRecDepth 100000
set_option maxHeartbeats 800000
namespace Mine
section
variable {prog : Program} {w : World} {A : Around} {E : Value → Shared → Prop} {s : Shared}
theorem star_two {env : Env} {xa xb : PySem.Expr} {pos : Pos} {oa ob : Addr} {ka kb : List (Str × Value)} {Q : Value → Shared → Prop}
    (hoa : (oa == sysModules) = false) (hob : (ob == sysModules) = false) (hda : s.heap.DictOf (strKind prog w) oa ka) (hdb : s.heap.DictOf (strKind prog w) ob kb) (hsz : ka.length + kb.length ≤ 100)
    (ea : ∀ h' (Q' : Value → Shared → Prop) (E' : Value → Shared → Prop), (∀ b o, s.heap.get? b = some o → h'.get? b = some o) → Q' (.ref oa) { s with heap := h' } → wpAny (model prog w) A (eval xa env) Q' E' { s with heap := h' })
    (eb : ∀ h' (Q' : Value → Shared → Prop) (E' : Value → Shared → Prop), (∀ b o, s.heap.get? b = some o → h'.get? b = some o) → Q' (.ref ob) { s with heap := h' } → wpAny (model prog w) A (eval xb env) Q' E' { s with heap := h' })
    (h : ∀ h', h'.DictOf (strKind prog w) s.heap.objs.size (merged (merged [] ka) kb) → (∀ b o, s.heap.get? b = some o → h'.get? b = some o) → Q (.ref s.heap.objs.size) { s with heap := h' }) :
    wpAny (model prog w) A (eval (.Dict [none, none] [xa, xb] pos) env) Q E s := by
  rw [arm_eval_Dict]
  refine wpAny_bind (wpAny_standAt ?_)
  show wpAny _ _ (dictDisplay [(none, do let x ← eval xa env; standAt pos; pure x), (none, do let x ← eval xb env; standAt pos; pure x)]) _ _ _
  unfold dictDisplay
  dsimp only
  rw [List.forIn_cons]
  refine wpAny_bind (wpAny_bind ?_)
  dsimp only
  refine wpAny_bind ?_
  rw [if_pos (by rfl)]
  refine wpAny_pure ?_
  dsimp only
  refine wpAny_bind (wpAny_alloc ?_)
  generalize hd0 : s.heap.objs.size = d at h ⊢
  have hpush : ∀ b o, s.heap.get? b = some o → (s.heap.push { cls := .type "dict", data := .dict #[] }).get? b = some o := fun b o e => Heap.get?_push_of_some _ e
  have hnew : (s.heap.push { cls := .type "dict", data := .dict #[] }).DictOf (strKind prog w) d [] := hd0 ▸ Heap.DictOf.new s.heap
  have hltd : ∀ b o, s.heap.get? b = some o → b ≠ d := fun b o e => hd0 ▸ Nat.ne_of_lt (Heap.lt_size e)
  obtain ⟨oA, hoA, hA2⟩ := Heap.dictOf_iff.mp hda
  obtain ⟨oB, hoB, hB2⟩ := Heap.dictOf_iff.mp hdb
  have hda1 : (s.heap.push { cls := .type "dict", data := .dict #[] }).DictOf (strKind prog w) oa ka := Heap.dictOf_iff.mpr ⟨oA, hpush _ _ hoA, hA2⟩
  have hla := merged_length_le ([] : List (Str × Value)) ka
  simp only [List.length_nil, Nat.zero_add] at hla
  refine wpAny_bind (wpAny_holding (wpAny_bind (ea _ _ _ hpush (wpAny_bind (wpAny_standAt (wpAny_pure ?_))))))
  refine wpAny_bind (wpAny_onRaise (wpAny_tryCatch (wpAny_onRaise (wpAny_holding ?_))))
  refine merge_map (Ne.symm (hltd _ _ hoA)) hoa hnew hda1 (fun h1 hd1 hs1 => ?_) (by rw [sizeLine_eq, List.length_nil]; omega)
  have k1 : ∀ b o, s.heap.get? b = some o → h1.get? b = some o := fun b o e => (hs1.2 b (hltd b o e)).trans (hpush b o e)
  refine wpAny_pure ?_
  dsimp only
  rw [List.forIn_cons]
  refine wpAny_bind ?_
  dsimp only
  refine wpAny_bind ?_
  rw [if_pos (by rfl)]
  refine wpAny_pure ?_
  dsimp only
  have hdb1 : h1.DictOf (strKind prog w) ob kb := Heap.dictOf_iff.mpr ⟨oB, k1 _ _ hoB, hB2⟩
  refine wpAny_bind (wpAny_pure ?_)
  refine wpAny_bind (wpAny_holding (wpAny_bind (eb _ _ _ k1 (wpAny_bind (wpAny_standAt (wpAny_pure ?_))))))
  refine wpAny_bind (wpAny_onRaise (wpAny_tryCatch (wpAny_onRaise (wpAny_holding ?_))))
  refine merge_map (s := { s with heap := h1 }) (Ne.symm (hltd _ _ hoB)) hob hd1 hdb1 (fun h2 hd2 hs2 => ?_) (by rw [sizeLine_eq]; omega)
  refine wpAny_pure ?_
  dsimp only
  rw [List.forIn_nil]
  refine wpAny_pure ?_
  dsimp only
  refine wpAny_bind ?_
  rw [if_pos (by rfl)]
  refine wpAny_pure ?_
  dsimp only
  exact wpAny_pure (h h2 hd2 fun b o e => (hs2.2 b (hltd b o e)).trans (k1 b o e))
end
end Mine
end

local macro_rules | `(tactic| walk_at $s:str) => `(tactic| k_extra $s)
local macro_rules | `(tactic| k_all) => `(tactic| k_extra "k_all")
local macro_rules | `(tactic| k_mem) => `(tactic| k_extra "k_mem")
local macro_rules | `(tactic| k_ne) => `(tactic| k_extra "k_ne")
local macro_rules | `(tactic| k_qdec) => `(tactic| decide +kernel)

theorem Mine.reset_C1 : True := by
  w_top off
  k_with_none
  exact trivial
section
open PySem PySem.W PyProof.Rows
set_option maxRecDepth 100000
set_option maxHeartbeats 8000000
namespace Mine
abbrev Pr : Program := PySem.Challenge.rw_pq0025_01.row.prog
theorem words_C1_1 : True := by
  w_top off
  k_with_none
  (k_with "k_ne" => (refine neN ?_; (try dsimp only); first | assumption | exact Ne.symm (by assumption) | exact Nat.ne_of_gt (by assumption) | exact Nat.ne_of_lt (by assumption) | (refine' Nat.ne_of_gt ?_; iterate 6 (try (first | exact Nat.lt_succ_self _ | refine' Nat.lt_succ_of_lt ?_)); done) | (refine' Nat.ne_of_lt ?_; iterate 6 (try (first | exact Nat.lt_succ_self _ | refine' Nat.lt_succ_of_lt ?_)); done) | exact Nat.ne_of_gt (And.left (by assumption)) | exact Nat.ne_of_lt (And.left (by assumption)) | exact Nat.ne_of_gt (And.left (And.right (by assumption))) | exact Nat.ne_of_gt (And.right (by assumption)) | exact Nat.ne_of_lt (And.left (And.right (by assumption))) | exact Nat.ne_of_lt (And.right (by assumption)) | exact Nat.ne_of_gt (And.left (And.right (And.right (by assumption)))) | exact Nat.ne_of_gt (And.right (And.right (by assumption))) | exact Nat.ne_of_lt (And.left (And.right (And.right (by assumption)))) | exact Nat.ne_of_lt (And.right (And.right (by assumption))) | exact Nat.ne_of_gt (And.left (And.right (And.right (And.right (by assumption))))) | exact Nat.ne_of_gt (And.right (And.right (And.right (by assumption)))) | exact Nat.ne_of_lt (And.left (And.right (And.right (And.right (by assumption))))) | exact Nat.ne_of_lt (And.right (And.right (And.right (by assumption)))) | exact Nat.ne_of_gt (And.left (And.right (And.right (And.right (And.right (by assumption)))))) | exact Nat.ne_of_gt (And.right (And.right (And.right (And.right (by assumption))))) | exact Nat.ne_of_lt (And.left (And.right (And.right (And.right (And.right (by assumption)))))) | exact Nat.ne_of_lt (And.right (And.right (And.right (And.right (by assumption))))) | exact Nat.ne_of_gt (And.left (And.right (And.right (And.right (And.right (And.right (by assumption))))))) | exact Nat.ne_of_gt (And.right (And.right (And.right (And.right (And.right (by assumption)))))) | exact Nat.ne_of_lt (And.left (And.right (And.right (And.right (And.right (And.right (by assumption))))))) | exact Nat.ne_of_lt (And.right (And.right (And.right (And.right (And.right (by assumption)))))) | exact Nat.ne_of_gt (And.left (And.right (And.right (And.right (And.right (And.right (And.right (by assumption)))))))) | exact Nat.ne_of_gt (And.right (And.right (And.right (And.right (And.right (And.right (by assumption))))))) | exact Nat.ne_of_lt (And.left (And.right (And.right (And.right (And.right (And.right (And.right (by assumption)))))))) | exact Nat.ne_of_lt (And.right (And.right (And.right (And.right (And.right (And.right (by assumption)))))))))
  (k_with "k_all" => (assumption))
  exact trivial
theorem gen_toks {M : Model} {A : Around} {α : Type} {T : Sem α} {Q : α → Shared → Prop} {E : Value → Shared → Prop} {h g d os} {x y : Nat} (k : ∀ tk, wpAny M A T Q E ⟨h, g, d, tk, os⟩) : wpAny M A T Q E ⟨h, g, d, x + y, os⟩ := k _
theorem words_C1_2 : True := by
  w_top off
  (k_with "execs cons" => (k_here; (with_reducible refine gen_toks ?_); intro tkq))
  (k_with "execs nil" => (k_here; (with_reducible refine gen_toks ?_); intro tkq))
  exact trivial

theorem number_says {w : World} {dp un : Nat} {gd : Option (List Code)} {cn : Str} {cs : Scope} {a : Addr} {ccd : Value} {cl : List (Str × Addr)} {outer : List Env} {A₀ : Around} {base h₀ : Heap} {L : Addr} {m : Str → Option Value} {s : Shared} {loose : List Str} {mean : ExcName → Option Value} {mg mb : Str → Option Value}
    {Q E : Value → Shared → Prop} {b x : Addr} {k : Int} {t : Tok} {n n0 : Nat} {vs : List Value} {ns : List Int} {rest : List (Addr × Obj)}
    (B : Below A₀ base outer h₀) (F : Fr h₀ L s.heap m) (X : (hd.heap_1 w.params).In h₀)
    (N : News h₀ L s.heap ((b, listOf #[.ref x, .int k t] n) :: (x, listOf vs.toArray n0) :: rest)) (T : Top view loose mean mg mb h₀) (hk : cs.kind = .function)
    (hI : IntsAre vs ns) (hl : ns.length ≤ 63) (h0 : 0 ≤ k) (h1 : k < 100000) (hbx : x ≠ b) (hb : ∀ p ∈ rest, p.1 ≠ b)
    (hd : dp + 1 < recursionLimit) (hu : un + 8 < cLine)
    (ret : ∀ v t1 t2 n' h' tk', Fr h₀ L h' m → News h₀ L h' ((b, listOf #[.ref x, .int (k + 1) t2] n') :: (x, listOf vs.toArray n0) :: rest) → Builtin.Int.intBits v ≤ 200 → Q (.int v t1) { s with heap := h', toks := tk' }) :
    wpAny (model PySem.Challenge.rw_pq0025_01.row.prog w) (ktrTop dp un gd cn cs L a ccd cl outer) (call (.ref 191) [.ref b]) Q E s := by
  (revert X; k_fill; intro X)
  refine wpAny_call ?_
  k_dflt ktr_enter
  (all_goals try k_fold)

  k_steps

  all_goals first | (refine' ret _ _ _ _ _ _ ?e1 ?e2 ?e3; (case e1 => k_asm); (case e2 => k_asm); (case e3 => first | exact Nat.le_trans (bits_fmod_by (n := 133) (by decide) (by decide)) (by decide) | exact Nat.le_trans (bits_sub (m := 0) (by decide) (bits_fmod_by (n := 133) (by decide) (by decide))) (by decide)))
end Mine
end

theorem Mine.reset_C2 : True := by
  w_top off
  k_with_none
  exact trivial
section
open PySem PySem.W PyProof.Rows
set_option maxRecDepth 100000
set_option maxHeartbeats 8000000
namespace Mine
theorem words_C2_1 : True := by
  w_top off
  k_with_none
  (k_with "k_ne" => (refine neN ?_; (try dsimp only); first | assumption | exact Ne.symm (by assumption) | exact Nat.ne_of_gt (by assumption) | exact Nat.ne_of_lt (by assumption) | (refine' Nat.ne_of_gt ?_; iterate 6 (try (first | exact Nat.lt_succ_self _ | refine' Nat.lt_succ_of_lt ?_)); done) | (refine' Nat.ne_of_lt ?_; iterate 6 (try (first | exact Nat.lt_succ_self _ | refine' Nat.lt_succ_of_lt ?_)); done) | exact Nat.ne_of_gt (And.left (by assumption)) | exact Nat.ne_of_lt (And.left (by assumption)) | exact Nat.ne_of_gt (And.left (And.right (by assumption))) | exact Nat.ne_of_gt (And.right (by assumption)) | exact Nat.ne_of_lt (And.left (And.right (by assumption))) | exact Nat.ne_of_lt (And.right (by assumption)) | exact Nat.ne_of_gt (And.left (And.right (And.right (by assumption)))) | exact Nat.ne_of_gt (And.right (And.right (by assumption))) | exact Nat.ne_of_lt (And.left (And.right (And.right (by assumption)))) | exact Nat.ne_of_lt (And.right (And.right (by assumption))) | exact Nat.ne_of_gt (And.left (And.right (And.right (And.right (by assumption))))) | exact Nat.ne_of_gt (And.right (And.right (And.right (by assumption)))) | exact Nat.ne_of_lt (And.left (And.right (And.right (And.right (by assumption))))) | exact Nat.ne_of_lt (And.right (And.right (And.right (by assumption)))) | exact Nat.ne_of_gt (And.left (And.right (And.right (And.right (And.right (by assumption)))))) | exact Nat.ne_of_gt (And.right (And.right (And.right (And.right (by assumption))))) | exact Nat.ne_of_lt (And.left (And.right (And.right (And.right (And.right (by assumption)))))) | exact Nat.ne_of_lt (And.right (And.right (And.right (And.right (by assumption))))) | exact Nat.ne_of_gt (And.left (And.right (And.right (And.right (And.right (And.right (by assumption))))))) | exact Nat.ne_of_gt (And.right (And.right (And.right (And.right (And.right (by assumption)))))) | exact Nat.ne_of_lt (And.left (And.right (And.right (And.right (And.right (And.right (by assumption))))))) | exact Nat.ne_of_lt (And.right (And.right (And.right (And.right (And.right (by assumption)))))) | exact Nat.ne_of_gt (And.left (And.right (And.right (And.right (And.right (And.right (And.right (by assumption)))))))) | exact Nat.ne_of_gt (And.right (And.right (And.right (And.right (And.right (And.right (by assumption))))))) | exact Nat.ne_of_lt (And.left (And.right (And.right (And.right (And.right (And.right (And.right (by assumption)))))))) | exact Nat.ne_of_lt (And.right (And.right (And.right (And.right (And.right (And.right (by assumption)))))))))
  (k_with "execs cons" => (k_here; (with_reducible refine gen_toks ?_); intro tkq))
  (k_with "execs nil" => (k_here; (with_reducible refine gen_toks ?_); intro tkq))
  (k_with "k_all" => (assumption))
  exact trivial

theorem number_upd {w : World} {dp un : Nat} {gd : Option (List Code)} {cn : Str} {cs : Scope} {a : Addr} {ccd : Value} {cl : List (Str × Addr)} {outer : List Env} {A₀ : Around} {base h₀ : Heap} {L : Addr} {m : Str → Option Value} {s : Shared} {loose : List Str} {mean : ExcName → Option Value} {mg mb : Str → Option Value}
    {Q E : Value → Shared → Prop} {b x : Addr} {k : Int} {t : Tok} {n n0 : Nat} {vs : List Value} {ns : List Int} {news : List (Addr × Obj)} {f : Obj → List (Addr × Obj)}
    (B : Below A₀ base outer h₀) (F : Fr h₀ L s.heap m) (X : (hd.heap_1 w.params).In h₀)
    (N : News h₀ L s.heap news) (T : Top view loose mean mg mb h₀) (hk : cs.kind = .function)
    (U : UpdF b (listOf #[.ref x, .int k t] n) news f) (hx : (x, listOf vs.toArray n0) ∈ news)
    (hI : IntsAre vs ns) (hl : ns.length ≤ 63) (h0 : 0 ≤ k) (h1 : k < 100000) (hbx : x ≠ b)
    (hd : dp + 1 < recursionLimit) (hu : un + 8 < cLine)
    (ret : ∀ v t1 t2 n' h' tk', Fr h₀ L h' m → News h₀ L h' (f (listOf #[.ref x, .int (k + 1) t2] n')) → Builtin.Int.intBits v ≤ 200 → Q (.int v t1) { s with heap := h', toks := tk' }) :
    wpAny (model PySem.Challenge.rw_pq0025_01.row.prog w) (ktrTop dp un gd cn cs L a ccd cl outer) (call (.ref 191) [.ref b]) Q E s := by
  obtain ⟨pre, post, rfl, hf, a1, a2⟩ := U.split
  have N1 : News h₀ L s.heap ((b, listOf #[.ref x, .int k t] n) :: (x, listOf vs.toArray n0) :: (pre ++ post)) := by
    intro p hp
    rcases List.mem_cons.mp hp with rfl | hp
    · exact N _ (by simp)
    rcases List.mem_cons.mp hp with rfl | hp
    · exact N _ hx
    · exact N _ (by rcases List.mem_append.mp hp with h | h <;> simp [h])
  refine number_says B F X N1 T hk hI hl h0 h1 hbx ?_ hd hu ?_
  · intro p hp; rcases List.mem_append.mp hp with h | h
    · exact a1 p h
    · exact a2 p h
  · intro v t1 t2 n' h' tk' F' N' hvb
    refine ret v t1 t2 n' h' tk' F' ?_ hvb
    rw [hf]
    intro p hp
    rcases List.mem_append.mp hp with h | h
    · exact N' _ (by simp [h])
    rcases List.mem_cons.mp h with rfl | h
    · exact N' _ (by simp)
    · exact N' _ (by simp [h])

theorem words_C2_2 : True := by
  w_top off
  (k_with "call ref" => (k_here; (with_reducible show wpAny _ _ (call (Value.ref 191) [Value.ref _]) _ _ _); k_dflt (refine' number_upd ?Bq ?Fq ?Xq ?Nq ?Tq ?hkq ?Uq ?hxq ?hIq ?hlq ?h0q ?h1q ?hbxq ?hdq ?huq ?_; (case Bq => k_asm); (case Fq => k_asm); (case Xq => k_asm); (case Nq => k_asm); (case Tq => k_asm); (case hkq => first | exact rfl | assumption);   (case Uq => k_updF); (case hxq => k_mem); (case hIq => assumption); (case hlq => assumption); (case h0q => omega); (case h1q => omega); (case hbxq => first | assumption | omega); (case hdq => ktr_room); (case huq => ktr_units)); intro v'q t1'q t2'q n'q h'q tk'q F'q N'q hvb'q; (try dsimp only at N'q); (try k_sweep)))
  exact trivial

theorem cell_says {w : World} {dp un : Nat} {gd : Option (List Code)} {cn : Str} {cs : Scope} {a : Addr} {ccd : Value} {cl : List (Str × Addr)} {outer : List Env} {A₀ : Around} {base h₀ : Heap} {L : Addr} {m : Str → Option Value} {s : Shared} {loose : List Str} {mean : ExcName → Option Value} {mg mb : Str → Option Value}
    {Q E : Value → Shared → Prop} {b x : Addr} {k many : Int} {t tm : Tok} {n n0 : Nat} {vs : List Value} {ns : List Int} {rest : List (Addr × Obj)}
    (B : Below A₀ base outer h₀) (F : Fr h₀ L s.heap m) (X : (hd.heap_1 w.params).In h₀)
    (N : News h₀ L s.heap ((b, listOf #[.ref x, .int k t] n) :: (x, listOf vs.toArray n0) :: rest)) (T : Top view loose mean mg mb h₀) (hk : cs.kind = .function)
    (hI : IntsAre vs ns) (hl : ns.length ≤ 63) (h0 : 0 ≤ k) (h1 : k < 100000) (hbx : x ≠ b) (hb : ∀ p ∈ rest, p.1 ≠ b) (hm0 : 0 < many) (hm1 : many ≤ 6)
    (hd : dp + 2 < recursionLimit) (hu : un + 16 < cLine)
    (ret : ∀ v t1 t2 n' h' tk', Fr h₀ L h' m → News h₀ L h' ((b, listOf #[.ref x, .int (k + 1) t2] n') :: (x, listOf vs.toArray n0) :: rest) → 0 ≤ v → v < many → Q (.int v t1) { s with heap := h', toks := tk' }) :
    wpAny (model PySem.Challenge.rw_pq0025_01.row.prog w) (ktrTop dp un gd cn cs L a ccd cl outer) (call (.ref 184) [.ref b, .int many tm]) Q E s := by
  (revert X; k_fill; intro X)
  refine wpAny_call ?_
  k_dflt ktr_enter
  (all_goals try k_fold)
  k_steps
  all_goals first | (refine' ret _ _ _ _ _ _ ?e1 ?e2 ?e3 ?e4; (case e1 => k_asm); (case e2 => k_asm); (case e3 => exact Int.fmod_nonneg_of_pos _ hm0); (case e4 => exact Int.fmod_lt_of_pos _ hm0))
end Mine
namespace Mine
theorem words_C2_2_0 : True := by
  w_top off
  k_with_none
  (k_with "k_ne" => (refine neN ?_; (try dsimp only); first | assumption | exact Ne.symm (by assumption) | exact Nat.ne_of_gt (by assumption) | exact Nat.ne_of_lt (by assumption) | (refine' Nat.ne_of_gt ?_; iterate 6 (try (first | exact Nat.lt_succ_self _ | refine' Nat.lt_succ_of_lt ?_)); done) | (refine' Nat.ne_of_lt ?_; iterate 6 (try (first | exact Nat.lt_succ_self _ | refine' Nat.lt_succ_of_lt ?_)); done) | exact Nat.ne_of_gt (And.left (by assumption)) | exact Nat.ne_of_lt (And.left (by assumption)) | exact Nat.ne_of_gt (And.left (And.right (by assumption))) | exact Nat.ne_of_gt (And.right (by assumption)) | exact Nat.ne_of_lt (And.left (And.right (by assumption))) | exact Nat.ne_of_lt (And.right (by assumption)) | exact Nat.ne_of_gt (And.left (And.right (And.right (by assumption)))) | exact Nat.ne_of_gt (And.right (And.right (by assumption))) | exact Nat.ne_of_lt (And.left (And.right (And.right (by assumption)))) | exact Nat.ne_of_lt (And.right (And.right (by assumption))) | exact Nat.ne_of_gt (And.left (And.right (And.right (And.right (by assumption))))) | exact Nat.ne_of_gt (And.right (And.right (And.right (by assumption)))) | exact Nat.ne_of_lt (And.left (And.right (And.right (And.right (by assumption))))) | exact Nat.ne_of_lt (And.right (And.right (And.right (by assumption)))) | exact Nat.ne_of_gt (And.left (And.right (And.right (And.right (And.right (by assumption)))))) | exact Nat.ne_of_gt (And.right (And.right (And.right (And.right (by assumption))))) | exact Nat.ne_of_lt (And.left (And.right (And.right (And.right (And.right (by assumption)))))) | exact Nat.ne_of_lt (And.right (And.right (And.right (And.right (by assumption))))) | exact Nat.ne_of_gt (And.left (And.right (And.right (And.right (And.right (And.right (by assumption))))))) | exact Nat.ne_of_gt (And.right (And.right (And.right (And.right (And.right (by assumption)))))) | exact Nat.ne_of_lt (And.left (And.right (And.right (And.right (And.right (And.right (by assumption))))))) | exact Nat.ne_of_lt (And.right (And.right (And.right (And.right (And.right (by assumption)))))) | exact Nat.ne_of_gt (And.left (And.right (And.right (And.right (And.right (And.right (And.right (by assumption)))))))) | exact Nat.ne_of_gt (And.right (And.right (And.right (And.right (And.right (And.right (by assumption))))))) | exact Nat.ne_of_lt (And.left (And.right (And.right (And.right (And.right (And.right (And.right (by assumption)))))))) | exact Nat.ne_of_lt (And.right (And.right (And.right (And.right (And.right (And.right (by assumption)))))))))
  exact trivial
theorem cell_upd {w : World} {dp un : Nat} {gd : Option (List Code)} {cn : Str} {cs : Scope} {a : Addr} {ccd : Value} {cl : List (Str × Addr)} {outer : List Env} {A₀ : Around} {base h₀ : Heap} {L : Addr} {m : Str → Option Value} {s : Shared} {loose : List Str} {mean : ExcName → Option Value} {mg mb : Str → Option Value}
    {Q E : Value → Shared → Prop} {b x : Addr} {k many : Int} {t tm : Tok} {n n0 : Nat} {vs : List Value} {ns : List Int} {news : List (Addr × Obj)} {f : Obj → List (Addr × Obj)}
    (B : Below A₀ base outer h₀) (F : Fr h₀ L s.heap m) (X : (hd.heap_1 w.params).In h₀)
    (N : News h₀ L s.heap news) (T : Top view loose mean mg mb h₀) (hk : cs.kind = .function)
    (U : UpdF b (listOf #[.ref x, .int k t] n) news f) (hx : (x, listOf vs.toArray n0) ∈ news)
    (hI : IntsAre vs ns) (hl : ns.length ≤ 63) (h0 : 0 ≤ k) (h1 : k < 100000) (hbx : x ≠ b) (hm0 : 0 < many) (hm1 : many ≤ 6)
    (hd : dp + 2 < recursionLimit) (hu : un + 16 < cLine)
    (ret : ∀ v t1 t2 n' h' tk', Fr h₀ L h' m → News h₀ L h' (f (listOf #[.ref x, .int (k + 1) t2] n')) → 0 ≤ v → v < many → Q (.int v t1) { s with heap := h', toks := tk' }) :
    wpAny (model PySem.Challenge.rw_pq0025_01.row.prog w) (ktrTop dp un gd cn cs L a ccd cl outer) (call (.ref 184) [.ref b, .int many tm]) Q E s := by
  obtain ⟨pre, post, rfl, hf, a1, a2⟩ := U.split
  have N1 : News h₀ L s.heap ((b, listOf #[.ref x, .int k t] n) :: (x, listOf vs.toArray n0) :: (pre ++ post)) := by
    intro p hp
    rcases List.mem_cons.mp hp with rfl | hp
    · exact N _ (by simp)
    rcases List.mem_cons.mp hp with rfl | hp
    · exact N _ hx
    · exact N _ (by rcases List.mem_append.mp hp with h | h <;> simp [h])
  refine cell_says B F X N1 T hk hI hl h0 h1 hbx ?_ hm0 hm1 hd hu ?_
  · intro p hp; rcases List.mem_append.mp hp with h | h
    · exact a1 p h
    · exact a2 p h
  · intro v t1 t2 n' h' tk' F' N' e1 e2
    refine ret v t1 t2 n' h' tk' F' ?_ e1 e2
    rw [hf]
    intro p hp
    rcases List.mem_append.mp hp with h | h
    · exact N' _ (by simp [h])
    rcases List.mem_cons.mp h with rfl | h
    · exact N' _ (by simp)
    · exact N' _ (by simp [h])
end Mine
end

theorem Mine.reset_C3 : True := by
  w_top off
  k_with_none
  exact trivial
section
open PySem PySem.W PyProof.Rows
set_option maxRecDepth 100000
set_option maxHeartbeats 8000000
namespace Mine

abbrev tupO (its : Array Value) : Obj := { cls := .type "tuple", data := .seq its }
inductive Tm
  | leaf (s : Str)
  | neg (x : Tm)
  | bin (o : Bool) (x y : Tm)
abbrev opS (o : Bool) : Str := if o then Str.ofString "add" else Str.ofString "mul"
inductive Tm.In (l : List (Addr × Obj)) : Value → Tm → Prop
  | leaf {a : Addr} {s : Str} {t : Tok} : (a, tupO #[.str s t]) ∈ l → Tm.In l (.ref a) (.leaf s)
  | neg {a : Addr} {v : Value} {x : Tm} {t : Tok} : (a, tupO #[.str (Str.ofString "neg") t, v]) ∈ l → Tm.In l v x → Tm.In l (.ref a) (.neg x)
  | bin {a : Addr} {u v : Value} {o : Bool} {x y : Tm} {t : Tok} : (a, tupO #[.str (opS o) t, u, v]) ∈ l → Tm.In l u x → Tm.In l v y → Tm.In l (.ref a) (.bin o x y)
  | va : Tm.In l (.ref 123) (.leaf (Str.ofString "?a"))
  | vb : Tm.In l (.ref 124) (.leaf (Str.ofString "?b"))
  | vc : Tm.In l (.ref 125) (.leaf (Str.ofString "?c"))
theorem Tm.In.mono {l l' : List (Addr × Obj)} (h : ∀ p ∈ l, p ∈ l') {v : Value} {x : Tm} (i : Tm.In l v x) : Tm.In l' v x := by
  induction i with
  | leaf e => exact .leaf (h _ e)
  | neg e _ a => exact .neg (h _ e) a
  | bin e _ _ a b => exact .bin (h _ e) a b
  | va => exact .va
  | vb => exact .vb
  | vc => exact .vc
abbrev plainNames : List Str := [Str.ofString "0", Str.ofString "-7", Str.ofString "007", Str.ofString "1"]
abbrev envNames : List Str := [Str.ofString "x", Str.ofString "y", Str.ofString "12", Str.ofString "add"]
inductive Tm.Ok : Nat → Tm → Prop
  | plain {f s} : s ∈ plainNames → Tm.Ok f (.leaf s)
  | env {f s} : s ∈ envNames → Tm.Ok f (.leaf s)
  | neg {f x} : Tm.Ok f x → Tm.Ok (f + 1) (.neg x)
  | bin {f o x y} : Tm.Ok f x → Tm.Ok f y → Tm.Ok (f + 1) (.bin o x y)

theorem menu_item {prog : Program} {w : World} {A : Around} {E : Value → Shared → Prop} {s : Shared} {value slice : PySem.Expr} {l : Addr} {vs : List Value} {k : Int} {u : Tok} {Q : Value → Shared → Prop}
    (hl : IsTup s.heap l vs.toArray) (h0 : 0 ≤ k) (h1 : k < vs.length) (hn : vs.length < 1000) (h : ∀ v ∈ vs, Q v s)
    (hs : subscripted slice false (.ref l) (.int k u) = operate [.ref l, .int k u] (getItem (.ref l) (.int k u)) := by with_unfolding_all rfl) :
    wpAny (model prog w) A (subscriptTail value slice (.ref l) (.int k u)) Q E s := by
  obtain ⟨j, rfl⟩ := Int.eq_ofNat_of_zero_le h0
  have hj : j < vs.length := by omega
  refine tail_any hl.typeIs F.slot_tuple_getitem.lookup (getItem_tuple hl (by omega) (by omega) (j := j) ?_ (x := vs[j]) ?_ (h _ (List.getElem_mem hj))) hs
  · unfold seqIndex?; simp; omega
  · simp [hj]
theorem menu4 {a b c d : Str} {ta tb tc td : Tok} {P : Value → Prop} (h : ∀ σ t, σ ∈ [a, b, c, d] → P (.str σ t)) : ∀ v ∈ [Value.str a ta, .str b tb, .str c tc, .str d td], P v := by
  intro v hv
  simp only [List.mem_cons, List.not_mem_nil, or_false] at hv
  rcases hv with rfl | rfl | rfl | rfl <;> exact h _ _ (by simp)
theorem menu2 {ta tb : Tok} {P : Value → Prop} (h : ∀ o t, P (.str (opS o) t)) : ∀ v ∈ [Value.str (Str.ofString "add") ta, .str (Str.ofString "mul") tb], P v := by
  intro v hv
  simp only [List.mem_cons, List.not_mem_nil, or_false] at hv
  rcases hv with rfl | rfl
  · exact h true _
  · exact h false _

theorem words_C3_1 : True := by
  w_top off
  k_with_none
  (k_with "k_ne" => (refine neN ?_; (try dsimp only); first | assumption | exact Ne.symm (by assumption) | exact Nat.ne_of_gt (by assumption) | exact Nat.ne_of_lt (by assumption) | (refine' Nat.ne_of_gt ?_; iterate 6 (try (first | exact Nat.lt_succ_self _ | refine' Nat.lt_succ_of_lt ?_)); done) | (refine' Nat.ne_of_lt ?_; iterate 6 (try (first | exact Nat.lt_succ_self _ | refine' Nat.lt_succ_of_lt ?_)); done) | exact Nat.ne_of_gt (And.left (by assumption)) | exact Nat.ne_of_lt (And.left (by assumption)) | exact Nat.ne_of_gt (And.left (And.right (by assumption))) | exact Nat.ne_of_gt (And.right (by assumption)) | exact Nat.ne_of_lt (And.left (And.right (by assumption))) | exact Nat.ne_of_lt (And.right (by assumption)) | exact Nat.ne_of_gt (And.left (And.right (And.right (by assumption)))) | exact Nat.ne_of_gt (And.right (And.right (by assumption))) | exact Nat.ne_of_lt (And.left (And.right (And.right (by assumption)))) | exact Nat.ne_of_lt (And.right (And.right (by assumption))) | exact Nat.ne_of_gt (And.left (And.right (And.right (And.right (by assumption))))) | exact Nat.ne_of_gt (And.right (And.right (And.right (by assumption)))) | exact Nat.ne_of_lt (And.left (And.right (And.right (And.right (by assumption))))) | exact Nat.ne_of_lt (And.right (And.right (And.right (by assumption)))) | exact Nat.ne_of_gt (And.left (And.right (And.right (And.right (And.right (by assumption)))))) | exact Nat.ne_of_gt (And.right (And.right (And.right (And.right (by assumption))))) | exact Nat.ne_of_lt (And.left (And.right (And.right (And.right (And.right (by assumption)))))) | exact Nat.ne_of_lt (And.right (And.right (And.right (And.right (by assumption))))) | exact Nat.ne_of_gt (And.left (And.right (And.right (And.right (And.right (And.right (by assumption))))))) | exact Nat.ne_of_gt (And.right (And.right (And.right (And.right (And.right (by assumption)))))) | exact Nat.ne_of_lt (And.left (And.right (And.right (And.right (And.right (And.right (by assumption))))))) | exact Nat.ne_of_lt (And.right (And.right (And.right (And.right (And.right (by assumption)))))) | exact Nat.ne_of_gt (And.left (And.right (And.right (And.right (And.right (And.right (And.right (by assumption)))))))) | exact Nat.ne_of_gt (And.right (And.right (And.right (And.right (And.right (And.right (by assumption))))))) | exact Nat.ne_of_lt (And.left (And.right (And.right (And.right (And.right (And.right (And.right (by assumption)))))))) | exact Nat.ne_of_lt (And.right (And.right (And.right (And.right (And.right (And.right (by assumption)))))))))
  (k_with "subscriptTail" => (k_here; (with_reducible show wpAny _ _ (subscriptTail _ _ (Value.ref _) (Value.int _ _)) _ _ _); (with_unfolding_all refine' menu_item ?k1q ?k2q ?k3q ?k4q (menu4 ?_) ?k6q; (case k1q => is_tup); (case k2q => omega); (case k3q => (simp only [List.length_cons, List.length_nil]; omega)); (case k4q => exact Nat.le_of_ble_eq_true rfl); (case k6q => with_unfolding_all rfl)); intro σ' tσ' hσ'))
  (k_with "subscriptTail" => (k_here; (with_reducible show wpAny _ _ (subscriptTail _ _ (Value.ref _) (Value.int _ _)) _ _ _); (with_unfolding_all refine' menu_item ?k1q ?k2q ?k3q ?k4q (menu2 ?_) ?k6q; (case k1q => is_tup); (case k2q => omega); (case k3q => (simp only [List.length_cons, List.length_nil]; omega)); (case k4q => exact Nat.le_of_ble_eq_true rfl); (case k6q => with_unfolding_all rfl)); intro o'q to'q))
  (k_with "execs cons" => (k_here; (with_reducible refine gen_toks ?_); intro tkq))
  (k_with "execs nil" => (k_here; (with_reducible refine gen_toks ?_); intro tkq))
  (k_with "k_all" => (assumption))
  (k_with "call ref" => (k_here; (with_reducible show wpAny _ _ (call (Value.ref 184) [Value.ref _, _]) _ _ _); k_dflt (refine' cell_upd ?Bq ?Fq ?Xq ?Nq ?Tq ?hkq ?Uq ?hxq ?hIq ?hlq ?h0q ?h1q ?hbxq ?hm0q ?hm1q ?hdq ?huq ?_; (case Bq => k_asm); (case Fq => k_asm); (case Xq => k_asm); (case Nq => k_asm); (case Tq => k_asm); (case hkq => first | exact rfl | assumption); (case Uq => k_updF); (case hxq => k_mem); (case hIq => assumption); (case hlq => assumption); (case h0q => omega); (case h1q => omega); (case hbxq => first | assumption | omega); (case hm0q => decide); (case hm1q => decide); (case hdq => ktr_room); (case huq => ktr_units)); intro v'q t1'q t2'q n'q h'q tk'q F'q N'q hv0q hv1q; (try dsimp only at N'q); (try k_sweep)))
  exact trivial

theorem lt3 {b x D : Addr} {o ox : Obj} {rest : List (Addr × Obj)} (l : b < D ∧ x < D ∧ AllLt D rest) : ∀ q ∈ (b, o) :: (x, ox) :: rest, q.1 < D := by
  intro q hq
  rcases List.mem_cons.mp hq with rfl | hq
  · exact l.1
  rcases List.mem_cons.mp hq with rfl | hq
  · exact l.2.1
  · exact ktn_ltOf l.2.2 q hq
theorem swap3 {b x : Addr} {o o' ox : Obj} {rest : List (Addr × Obj)} {P : Nat → Prop} (h : ∀ q ∈ (b, o) :: (x, ox) :: rest, P q.1) : ∀ q ∈ (b, o') :: (x, ox) :: rest, P q.1 := by
  intro q hq
  rcases List.mem_cons.mp hq with rfl | hq
  · exact h (b, o) (.head _)
  · exact h q (.tail _ hq)
theorem allLt_app {D : Addr} {r t : List (Addr × Obj)} (l : AllLt D (r ++ t)) : AllLt D r := allLt_of fun q hq => ktn_ltOf l q (List.mem_append.mpr (.inl hq))
theorem ord_leaf {b x D D1 : Addr} {o ox t t1 : Obj} {rest : List (Addr × Obj)} (l1 : b < D1 ∧ x < D1 ∧ AllLt D1 rest) (l2 : D1 < D ∧ b < D ∧ x < D ∧ AllLt D rest) :
    ∀ q ∈ (b, o) :: (x, ox) :: rest, ∀ p ∈ [(D, t), (D1, t1)], q.1 < p.1 := by
  intro q hq p hp
  rcases List.mem_cons.mp hp with rfl | hp
  · exact lt3 l2.2 q hq
  · rw [List.mem_singleton.mp hp]; exact lt3 l1 q hq
theorem ord_neg {b x D : Addr} {o o' ox t : Obj} {rest tl : List (Addr × Obj)} (l : b < D ∧ x < D ∧ AllLt D (rest ++ tl)) (h : ∀ q ∈ (b, o) :: (x, ox) :: rest, ∀ p ∈ tl, q.1 < p.1) :
    ∀ q ∈ (b, o') :: (x, ox) :: rest, ∀ p ∈ (D, t) :: tl, q.1 < p.1 := by
  intro q hq p hp
  rcases List.mem_cons.mp hp with rfl | hp
  · exact lt3 ⟨l.1, l.2.1, allLt_app l.2.2⟩ q hq
  · exact swap3 (P := fun y => y < p.1) (fun q hq => h q hq p hp) q hq
theorem ord_bin {b x D D0 : Addr} {o o' o'' ox t t0 t0' : Obj} {rest tl tl' : List (Addr × Obj)} (l0 : b < D0 ∧ x < D0 ∧ AllLt D0 (rest ++ tl)) (l : D0 < D ∧ b < D ∧ x < D ∧ AllLt D (rest ++ tl ++ tl'))
    (h : ∀ q ∈ (b, o) :: (x, ox) :: rest, ∀ p ∈ tl, q.1 < p.1) (h' : ∀ q ∈ (D0, t0) :: (b, o') :: (x, ox) :: (rest ++ tl), ∀ p ∈ tl', q.1 < p.1) :
    ∀ q ∈ (b, o'') :: (x, ox) :: rest, ∀ p ∈ (D, t) :: (D0, t0') :: (tl ++ tl'), q.1 < p.1 := by
  intro q hq p hp
  rcases List.mem_cons.mp hp with rfl | hp
  · exact lt3 ⟨l.2.1, l.2.2.1, allLt_app (allLt_app l.2.2.2)⟩ q hq
  rcases List.mem_cons.mp hp with rfl | hp
  · exact lt3 ⟨l0.1, l0.2.1, allLt_app l0.2.2⟩ q hq
  rcases List.mem_append.mp hp with hp | hp
  · exact swap3 (P := fun y => y < p.1) (fun q hq => h q hq p hp) q hq
  · refine swap3 (o := o') (P := fun y => y < p.1) (fun q hq => h' q ?_ p hp) q hq
    rcases List.mem_cons.mp hq with rfl | hq
    · simp
    rcases List.mem_cons.mp hq with rfl | hq
    · simp
    · simp [hq]
theorem all_app {b x : Addr} {o ox : Obj} {rest tl : List (Addr × Obj)} (hb : ∀ p ∈ rest, p.1 ≠ b) (h : ∀ q ∈ (b, o) :: (x, ox) :: rest, ∀ p ∈ tl, q.1 < p.1) : ∀ p ∈ rest ++ tl, p.1 ≠ b := by
  intro p hp
  rcases List.mem_append.mp hp with hp | hp
  · exact hb p hp
  · exact Nat.ne_of_gt (h _ (.head _) p hp)
theorem News.sub {h₀ h : Heap} {L : Addr} {l l' : List (Addr × Obj)} (N : News h₀ L h l) (i : ∀ p ∈ l', p ∈ l) : News h₀ L h l' := fun p hp => N p (i p hp)

theorem perm_leaf {h₀ h : Heap} {L b x D D1 : Addr} {o ox t t1 : Obj} {rest : List (Addr × Obj)} (N : News h₀ L h ((D, t) :: (D1, t1) :: (b, o) :: (x, ox) :: rest)) : News h₀ L h ((b, o) :: (x, ox) :: (rest ++ [(D, t), (D1, t1)])) :=
  News.sub N fun p hp => by
    simp only [List.mem_append, List.mem_cons, List.not_mem_nil, or_false] at hp ⊢
    rcases hp with h | h | h | h | h <;> simp [h]
theorem perm_neg {h₀ h : Heap} {L b x D : Addr} {o ox t : Obj} {rest tl : List (Addr × Obj)} (N : News h₀ L h ((D, t) :: (b, o) :: (x, ox) :: (rest ++ tl))) : News h₀ L h ((b, o) :: (x, ox) :: (rest ++ (D, t) :: tl)) :=
  News.sub N fun p hp => by
    simp only [List.mem_append, List.mem_cons, List.not_mem_nil, or_false] at hp ⊢
    rcases hp with h | h | h | h | h <;> simp [h]
theorem perm_bin {h₀ h : Heap} {L b x D D0 : Addr} {o ox t t0 : Obj} {rest tl tl' : List (Addr × Obj)} (N : News h₀ L h ((D, t) :: (D0, t0) :: (b, o) :: (x, ox) :: (rest ++ tl ++ tl'))) : News h₀ L h ((b, o) :: (x, ox) :: (rest ++ (D, t) :: (D0, t0) :: (tl ++ tl'))) :=
  News.sub N fun p hp => by
    simp only [List.mem_append, List.mem_cons, List.not_mem_nil, or_false] at hp ⊢
    rcases hp with h | h | h | h | h | h | h <;> simp [h]

def TermSays (f : Nat) (c : Int) : Prop := ∀ {w : World} {dp un : Nat} {gd : Option (List Code)} {cn : Str} {cs : Scope} {a : Addr} {ccd : Value} {cl : List (Str × Addr)} {outer : List Env} {A₀ : Around} {base h₀ : Heap} {L : Addr} {m : Str → Option Value} {s : Shared} {loose : List Str} {mean : ExcName → Option Value} {mg mb : Str → Option Value}
    {Q E : Value → Shared → Prop} {b x : Addr} {k fl : Int} {t tm : Tok} {n n0 : Nat} {vs : List Value} {ns : List Int} {rest : List (Addr × Obj)}
    (_hfl : fl = f)
    (_B : Below A₀ base outer h₀) (_F : Fr h₀ L s.heap m) (_X : (hd.heap_1 w.params).In h₀)
    (_N : News h₀ L s.heap ((b, listOf #[.ref x, .int k t] n) :: (x, listOf vs.toArray n0) :: rest)) (_T : Top view loose mean mg mb h₀) (_hk : cs.kind = .function)
    (_hI : IntsAre vs ns) (_hl : ns.length ≤ 63) (_h0 : 0 ≤ k) (_h1 : k + c < 50000) (_hbx : x ≠ b) (_hb : ∀ p ∈ rest, p.1 ≠ b)
    (_hd : dp + (f + 3) < recursionLimit) (_hu : un + (8 * f + 24) < cLine)
    (_ret : ∀ r d k' t2 n' tl h' tk', Fr h₀ L h' m → News h₀ L h' ((b, listOf #[.ref x, .int k' t2] n') :: (x, listOf vs.toArray n0) :: (rest ++ tl)) →
      (∀ q ∈ ((b, listOf #[.ref x, .int k t] n) :: (x, listOf vs.toArray n0) :: rest), ∀ p ∈ tl, q.1 < p.1) → Tm.In tl r d → Tm.Ok f d → k ≤ k' → k' ≤ k + c → Q r { s with heap := h', toks := tk' }),
    wpAny (model PySem.Challenge.rw_pq0025_01.row.prog w) (ktrTop dp un gd cn cs L a ccd cl outer) (call (.ref 198) [.ref b, .int fl tm]) Q E s

theorem TermSays.upd {f : Nat} {c : Int} (C : TermSays f c) {w : World} {dp un : Nat} {gd : Option (List Code)} {cn : Str} {cs : Scope} {a : Addr} {ccd : Value} {cl : List (Str × Addr)} {outer : List Env} {A₀ : Around} {base h₀ : Heap} {L : Addr} {m : Str → Option Value} {s : Shared} {loose : List Str} {mean : ExcName → Option Value} {mg mb : Str → Option Value}
    {Q E : Value → Shared → Prop} {b x : Addr} {k fl : Int} {t tm : Tok} {n n0 : Nat} {vs : List Value} {ns : List Int} {news : List (Addr × Obj)} {g : Obj → List (Addr × Obj)}
    (hfl : fl = f)
    (B : Below A₀ base outer h₀) (F : Fr h₀ L s.heap m) (X : (hd.heap_1 w.params).In h₀)
    (N : News h₀ L s.heap news) (T : Top view loose mean mg mb h₀) (hk : cs.kind = .function)
    (U : UpdF b (listOf #[.ref x, .int k t] n) news g) (hx : (x, listOf vs.toArray n0) ∈ news)
    (hI : IntsAre vs ns) (hl : ns.length ≤ 63) (h0 : 0 ≤ k) (h1 : k + c < 50000) (hbx : x ≠ b)
    (hd : dp + (f + 3) < recursionLimit) (hu : un + (8 * f + 24) < cLine)
    (ret : ∀ r d k' t2 n' tl h' tk', Fr h₀ L h' m → News h₀ L h' (g (listOf #[.ref x, .int k' t2] n') ++ tl) →
      (∀ q ∈ news, ∀ p ∈ tl, q.1 < p.1) → Tm.In tl r d → Tm.Ok f d → k ≤ k' → k' ≤ k + c → Q r { s with heap := h', toks := tk' }) :
    wpAny (model PySem.Challenge.rw_pq0025_01.row.prog w) (ktrTop dp un gd cn cs L a ccd cl outer) (call (.ref 198) [.ref b, .int fl tm]) Q E s := by
  obtain ⟨pre, post, rfl, hf, a1, a2⟩ := U.split
  have N1 : News h₀ L s.heap ((b, listOf #[.ref x, .int k t] n) :: (x, listOf vs.toArray n0) :: (pre ++ post)) := by
    intro p hp
    rcases List.mem_cons.mp hp with rfl | hp
    · exact N _ (by simp)
    rcases List.mem_cons.mp hp with rfl | hp
    · exact N _ hx
    · exact N _ (by rcases List.mem_append.mp hp with h | h <;> simp [h])
  refine C hfl B F X N1 T hk hI hl h0 h1 hbx ?_ hd hu ?_
  · intro p hp; rcases List.mem_append.mp hp with h | h
    · exact a1 p h
    · exact a2 p h
  · intro r d k' t2 n' tl h' tk' F' N' ho i ok e1 e2
    refine ret r d k' t2 n' tl h' tk' F' ?_ ?_ i ok e1 e2
    · rw [hf]
      refine News.sub N' fun p hp => ?_
      simp only [List.mem_append, List.mem_cons] at hp ⊢
      rcases hp with (h | h | h) | h <;> simp [h]
    · intro q hq p hp
      refine ho q ?_ p hp
      simp only [List.mem_append, List.mem_cons] at hq ⊢
      rcases hq with h | h | h <;> simp [h]

theorem term_zero : TermSays 0 2 := by
  intro w dp un gd cn cs a ccd cl outer A₀ base h₀ L m s loose mean mg mb Q E b x k fl t tm n n0 vs ns rest hfl B F X N T hk hI hl h0 h1 hbx hb hd hu ret
  (revert X; k_fill; intro X)
  refine wpAny_call ?_
  k_dflt ktr_enter
  (all_goals try k_fold)
  k_steps
  all_goals (refine' ret _ _ _ _ _ [_, _] _ _ ?e1 (perm_leaf ?e2) (ord_leaf ?e4 ?e5) (.leaf ?e6) ?e7 ?e8 ?e9; (case e1 => k_asm); (case e2 => k_asm); (case e4 => k_asm); (case e5 => k_asm); (case e6 => exact List.Mem.head _); (case e7 => first | exact .plain (by assumption) | exact .env (by assumption)); (case e8 => omega); (case e9 => omega))

theorem words_C3_2 : True := by
  w_top off
  (k_with "k_all" => (exact all_app (by assumption) (by assumption)))
  (k_with "call ref" => (k_here; (with_reducible show wpAny _ _ (call (Value.ref 198) [Value.ref _, _]) _ _ _); k_dflt (refine' TermSays.upd ?Cq ?hflq ?Bq ?Fq ?Xq ?Nq ?Tq ?hkq ?Uq ?hxq ?hIq ?hlq ?h0q ?h1q ?hbxq ?hdq ?huq ?_; (case Cq => assumption); (case hflq => omega); (case Bq => k_asm); (case Fq => k_asm); (case Xq => k_asm); (case Nq => k_asm); (case Tq => k_asm); (case hkq => first | exact rfl | assumption); (case Uq => k_updF); (case hxq => k_mem); (case hIq => assumption); (case hlq => assumption); (case h0q => omega); (case h1q => omega); (case hbxq => first | assumption | omega); (case hdq => ktr_room); (case huq => ktr_units)); intro r'q d'q k'q t2'q n'q tl'q h'q tk'q F'q N'q ho'q hi'q hok'q hk1'q hk2'q; (try simp only [List.cons_append] at N'q); (try k_sweep)))
  exact trivial

theorem term_succ {f : Nat} {c : Int} (C : TermSays f c) (hc : 2 ≤ c) : TermSays (f + 1) (1 + 2 * c) := by
  intro w dp un gd cn cs a ccd cl outer A₀ base h₀ L m s loose mean mg mb Q E b x k fl t tm n n0 vs ns rest hfl B F X N T hk hI hl h0 h1 hbx hb hd hu ret
  (revert X; k_fill; intro X)
  refine wpAny_call ?_
  k_dflt ktr_enter
  (all_goals try k_fold)
  k_steps
  all_goals first | (refine' ret _ _ _ _ _ [_, _] _ _ ?e1 (perm_leaf ?e2) (ord_leaf ?e4 ?e5) (.leaf ?e6) ?e7 ?e8 ?e9; (case e1 => k_asm); (case e2 => k_asm); (case e4 => k_asm); (case e5 => k_asm); (case e6 => exact List.Mem.head _); (case e7 => first | exact .plain (by assumption) | exact .env (by assumption)); (case e8 => omega); (case e9 => omega)) | (refine' ret _ _ _ _ _ (_ :: _) _ _ ?e1 (perm_neg ?e2) (ord_neg ?e4 ?e5) (.neg ?e6 (Tm.In.mono ?em ?ei)) (.neg ?e7) ?e8 ?e9; (case e1 => k_asm); (case e2 => k_asm); (case e4 => k_asm); (case e5 => k_asm); (case ei => assumption); (case em => exact fun p hp => .tail _ hp); (case e6 => exact List.Mem.head _); (case e7 => assumption); (case e8 => omega); (case e9 => omega)) | (refine' ret _ _ _ _ _ (_ :: _ :: (_ ++ _)) _ _ ?e1 (perm_bin ?e2) (ord_bin ?e4 ?e4b ?e5 ?e5b) (.bin ?e6 (Tm.In.mono ?em ?ei) (Tm.In.mono ?em2 ?ei2)) (.bin ?e7 ?e72) ?e8 ?e9; (case e1 => k_asm); (case e2 => k_asm); (case e4 => k_asm); (case e4b => k_asm); (case e5 => k_asm); (case e5b => k_asm); (case e6 => exact List.Mem.head _); (case ei => assumption); (case ei2 => assumption); (case em => exact fun p hp => .tail _ (.tail _ (List.mem_append.mpr (.inl hp)))); (case em2 => exact fun p hp => .tail _ (.tail _ (List.mem_append.mpr (.inr hp)))); (case e7 => assumption); (case e72 => assumption); (case e8 => omega); (case e9 => omega))
end Mine
end

theorem Mine.reset_C4 : True := by
  w_top off
  k_with_none
  exact trivial
section
open PySem PySem.W PyProof.Rows PySem.Calls
set_option maxRecDepth 100000
set_option maxHeartbeats 8000000
namespace Mine
def TupAt (h₀ : Heap) (ax : Addr) (its : Array Value) (news : List (Addr × Obj)) : Prop := IsTup h₀ ax its ∨ ∃ n, (ax, ({ cls := .type "tuple", data := .seq its n } : Obj)) ∈ news
theorem TupAt.tup {h₀ h : Heap} {L ax : Addr} {its : Array Value} {news : List (Addr × Obj)} (x : TupAt h₀ ax its news) (k : ∀ b o, h₀.get? b = some o → h.get? b = some o) (N : News h₀ L h news) : h.IsTuple ax its := by
  rcases x with ⟨o, e, r⟩ | ⟨n, hm⟩
  · exact ⟨o, k _ _ e, r⟩
  · exact ⟨_, (N _ hm).1, rfl, n, rfl⟩
def SrcT (prog : Program) (w : World) (A : Around) (h₀ : Heap) (L : Addr) (m : Str → Option Value) (env : Env) (elt : PySem.Expr) (x : Str) (scope : Scope) (cl : List (Str × Addr)) (Fin : Shared → List Value → List (Addr × Obj) → Prop) (xv : Value) (s₁ : Shared) : Prop :=
  ∃ ax its news, xv = .ref ax ∧ A.handled = none ∧ Fr h₀ L s₁.heap m ∧ News h₀ L s₁.heap news ∧ TupAt h₀ ax its news ∧ its.size ≤ sizeLine ∧
    ∀ g, LCg.CompRest prog w A h₀ L m env elt x scope cl { s₁ with heap := g } (TupAt h₀ ax its) (fun i v => its[i]? = some v) (Fin { s₁ with heap := g }) its.size 0 [] news
section
variable {prog : Program} {w : World} {A : Around} {E : Value → Shared → Prop} {s : Shared} {h₀ : Heap} {L : Addr} {m : Str → Option Value} {env : Env}
theorem SrcT.intro {elt : PySem.Expr} {x : Str} {scope : Scope} {cl : List (Str × Addr)} {Fin : Shared → List Value → List (Addr × Obj) → Prop} {ax : Addr} {its : Array Value} {k : Nat} {news : List (Addr × Obj)} {s₁ : Shared}
    (hh : A.handled = none) (F : Fr h₀ L s₁.heap m) (N : News h₀ L s₁.heap news) (hm : (ax, ({ cls := .type "tuple", data := .seq its k } : Obj)) ∈ news) (hsz : its.size ≤ sizeLine)
    (h : ∀ g, LCg.CompRest prog w A h₀ L m env elt x scope cl { s₁ with heap := g } (TupAt h₀ ax its) (fun i v => its[i]? = some v) (Fin { s₁ with heap := g }) its.size 0 [] news) :
    SrcT prog w A h₀ L m env elt x scope cl Fin (.ref ax) s₁ := ⟨ax, its, news, rfl, hh, F, N, .inr ⟨_, hm⟩, hsz, h⟩
theorem tup_st {ax I : Addr} {its : Array Value} : ∀ i (h h' : Heap) (o : Obj) (nw : List (Addr × Obj)), (h.IsTupleIter I ax i ∧ h.IsTuple ax its) → h.get? I = some o → h'.get? I = some o → (∀ b o, h₀.get? b = some o → h'.get? b = some o) → News h₀ L h' nw → TupAt h₀ ax its nw → (h'.IsTupleIter I ax i ∧ h'.IsTuple ax its) :=
  fun i h h' o nw st e e' k N S => ⟨by obtain ⟨o', q, r⟩ := st.1; rw [e] at q; cases q; exact ⟨o, e', r⟩, S.tup k N⟩
theorem comp_core {elt iter : PySem.Expr} {x : Str} {px : Pos} {scope : Scope} {cl : List (Str × Addr)} {pos : Pos} {ax : Addr} {its : Array Value} {s₁ : Shared} {news : List (Addr × Obj)} {Fin : Heap → List Value → List (Addr × Obj) → Prop} {RR : Value → Addr → Result → Shared → Prop}
    (hh : A.handled = none) (F : Fr h₀ L s₁.heap m) (N : News h₀ L s₁.heap news) (S : TupAt h₀ ax its news) (hsz : its.size ≤ sizeLine)
    (hcell : ∀ y ∈ scope.names, y.2 ≠ .cell) (hkind : scope.kind = .function) (hx : scope.names.lookup x = some .local)
    (R : ∀ g, LCg.CompRest prog w A h₀ L m env elt x scope cl { s₁ with heap := g } (TupAt h₀ ax its) (fun i v => its[i]? = some v) (Fin g) its.size 0 [] news)
    (hRR : ∀ g D C h tk m' ys news', Fr h₀ L h m → News h₀ L h ((D, LCg.lst ys) :: news') → LCg.Off1 D news' → h.Ns C m' → h₀.get? C = none → h₀.get? D = none → C ≠ L → D ≠ L → C ≠ D → (∀ p ∈ news', p.1 ≠ C) → Fin g ys news' → RR (.ref D) C (.ok .next) { s₁ with heap := h, toks := tk }) :
    wpAny (model prog w) A (pyIter (.ref ax)) (fun it s₂ => wpAny (model prog w) A (newList []) (fun acc s₃ => wpAny (model prog w) A (newFunctionEnv scope env.globals cl [] env.qual none .none (some env)) (fun cenv s₄ =>
      codeAny (model prog w) A (.compStart (.ListComp elt [⟨.Name x px, iter, [], 0⟩] scope pos) 0 it acc { cenv with scope := relabel scope env }) (RR acc cenv.locals) s₄) E s₃) E s₂) E s₁ := by
  have hl := S.tup F.keep N
  have hlt : ax < s₁.heap.objs.size := by obtain ⟨_, e, _⟩ := hl; exact Heap.lt_size e
  have up : ∀ b o, s₁.heap.get? b = some o → (s₁.heap.push { cls := .type "tuple_iterator", data := .fields #[.ref ax, .int 0 0] }).get? b = some o := fun b o e => Heap.get?_push_of_some _ e
  refine wpAny_pyIter_tuple hl ?_
  refine LCg.block_U (Walks.tuple hh s₁.heap.objs.size ax (Nat.ne_of_lt hlt) its) hsz (fun i h st => by obtain ⟨o, e, _⟩ := st.1; exact ⟨o, e⟩) tup_st hcell hkind hx
    ⟨⟨_, Heap.get?_push_size _ rfl, rfl, rfl⟩, by obtain ⟨o, e, r⟩ := hl; exact ⟨o, Heap.get?_push_of_some _ e, r⟩⟩ (fun b hb => ?_)
    (F.keeps up) (N.grown up) (Nat.ne_of_lt F.ns.lt) (next_is_new F) (fun p hp => Nat.ne_of_lt (Heap.lt_size (N p hp).1)) S (R _) (hRR _)
  show b < (s₁.heap.push _).objs.size
  rw [Heap.size_push]
  rcases List.mem_cons.mp hb with rfl | hb
  · exact Nat.lt_succ_self _
  · rw [List.mem_singleton.mp hb]; exact Nat.lt_succ_of_lt hlt

theorem comp_tup {elt iter : PySem.Expr} {x : Str} {px : Pos} {scope : Scope} {cl : List (Str × Addr)} {pos : Pos} {Q : Value → Shared → Prop} (F₀ : Fr h₀ L s.heap m)
    (hclos : closureFor scope env = pure cl) (hcell : ∀ y ∈ scope.names, y.2 ≠ .cell) (hkind : scope.kind = .function)
    (hnames : ∀ y ∈ scope.names, y.2 = .local → scope.names.lookup y.1 = some .local) (hx : scope.names.lookup x = some .local)
    (h : wpAny (model prog w) A (eval iter env) (SrcT prog w A h₀ L m env elt x scope cl (fun s₂ => LCg.FinE h₀ L m s₂ Q)) E s)
    (hs : ∀ x, foldedSetIterable iter env x = pure x := by intro _; rfl) :
    wpAny (model prog w) A (eval (.ListComp elt [⟨.Name x px, iter, [], 0⟩] scope pos) env) Q E s := by
  rw [eval_ListComp]
  refine wpAny_comprehension_free (use := none) rfl hs hclos hkind hnames (wpAny_mono h (fun xv s₁ h₁ => ?_) fun _ _ e => e)
  obtain ⟨ax, its, news, rfl, hh, F, N, S, hsz, R⟩ := h₁
  refine comp_core (Fin := fun g => LCg.FinE h₀ L m { s₁ with heap := g } Q) hh F N S hsz hcell hkind hx R ?_
  intro g D C h tk m' ys news' F' N' o1 hn hC₀ hD₀ hCL hDL hCD offC fin
  refine ⟨m', hn, fun h'' hs'' => fin D h'' tk (F'.change hs'' hCL hC₀) (fun p hp => ?_) o1⟩
  refine ⟨hs''.extBut _ _ ?_ (N' p hp).1, (N' p hp).2⟩
  rcases List.mem_cons.mp hp with rfl | hp
  · exact Ne.symm hCD
  · exact offC p hp

theorem assign_comp_tup {elt iter : PySem.Expr} {x y : Str} {px py : Pos} {scope : Scope} {cl : List (Str × Addr)} {pos spos : Pos} {Q : Flow → Shared → Prop} (F₀ : Fr h₀ L s.heap m) (hLe : env.locals = L)
    (hsw : swapsWith (.ListComp elt [⟨.Name x px, iter, [], 0⟩] scope pos) (some (.Name y py)) spos.line env = pure true)
    (hclos : closureFor scope env = pure cl) (hcell : ∀ z ∈ scope.names, z.2 ≠ .cell) (hkind : scope.kind = .function)
    (hnames : ∀ z ∈ scope.names, z.2 = .local → scope.names.lookup z.1 = some .local) (hx : scope.names.lookup x = some .local)
    (hy : env.kindOf y = some .local) (hp : (env.scope.kind == .class || (env.scope.kind == .module && env.locals != env.globals)) = false)
    (h : wpAny (model prog w) A (eval iter env) (SrcT prog w A h₀ L m env elt x scope cl (fun s₂ => LCg.FinA h₀ L m s₂ y Q)) E s)
    (hs : ∀ x, foldedSetIterable iter env x = pure x := by intro _; rfl) :
    wpAny (model prog w) A (exec (.Assign [.Name y py] (.ListComp elt [⟨.Name x px, iter, [], 0⟩] scope pos) spos) env) Q E s := by
  subst hLe
  rw [exec_Assign_Name_used _ _ _ _ hsw]
  refine wpAny_bind (wpAny_standAt (wpAny_bind ?_))
  show wpAny _ A (do let _ ← comprehension (.ListComp elt [⟨.Name x px, iter, [], 0⟩] scope pos) scope env _ (newList []) false (eval iter env) (some (assign (.Name y py) env))) _ _ s
  refine wpAny_bind (wpAny_mono (wpAny_comprehension_free (use := some (assign (.Name y py) env)) (Q := fun _ s' => Q .next s') rfl hs hclos hkind hnames
    (wpAny_mono h (fun xv s₁ h₁ => ?_) fun _ _ e => e)) (fun _ s' hq => wpAny_pure (wpAny_pure hq)) fun _ _ e => e)
  obtain ⟨ax, its, news, rfl, hh, F, N, S, hsz, R⟩ := h₁
  refine comp_core (Fin := fun g => LCg.FinA h₀ env.locals m { s₁ with heap := g } y Q) hh F N S hsz hcell hkind hx R ?_
  intro g D C h' tk m' ys news' F' N' o1 hn hC₀ hD₀ hCL hDL hCD offC fin
  show wpAny _ A (assign (.Name y py) env (.ref D)) _ _ _
  refine wpAny_assign_Name (wpAny_storeName_local hy F'.ns (fun h₂ hn₂ hs₂ => ?_) hp)
  have hL₀ : h₀.get? env.locals = none := Heap.get?_none_of_le F'.above
  have F₂ : Fr h₀ env.locals h₂ (fun z => if z = y then some (.ref D) else m z) := ⟨hn₂, fun b o e => hs₂.extBut b o (fun q => by rw [q, hL₀] at e; cases e) (F'.keep b o e), F'.above⟩
  refine ⟨m', hn.sameBut hs₂ hCL, fun h'' hs'' => fin D h'' _ (F₂.change hs'' hCL hC₀) (fun p hp => ?_) o1⟩
  have z : h₂.get? p.1 = some p.2 := hs₂.extBut _ _ (N' p hp).2.1 (N' p hp).1
  refine ⟨hs''.extBut _ _ ?_ z, (N' p hp).2⟩
  rcases List.mem_cons.mp hp with rfl | hp
  · exact Ne.symm hCD
  · exact offC p hp
end
end Mine
end

theorem Mine.reset_C5 : True := by
  w_top off
  k_with_none
  exact trivial
section
open PySem PySem.W PyProof.Rows PySem.Calls PyProof.V
set_option maxRecDepth 100000
set_option maxHeartbeats 8000000
namespace Mine
def EnvIn (w : World) (l : List (Addr × Obj)) (de : Addr) (ρ : Str → Option Int) : Prop :=
  ∃ oe kvs D, (de, oe) ∈ l ∧ (de == sysModules) = false ∧ Obj.IsDictOf (strKind PySem.Challenge.rw_pq0025_01.row.prog w) oe kvs ∧ FlatPairs PyData.str kvs D ∧ ∀ σ, Spec.lookup (.str σ) D = (ρ σ).map PyData.int
theorem EnvIn.mono {w : World} {l l' : List (Addr × Obj)} {de : Addr} {ρ : Str → Option Int} (h : ∀ p ∈ l, p ∈ l') (e : EnvIn w l de ρ) : EnvIn w l' de ρ :=
  let ⟨oe, kvs, D, a, r⟩ := e; ⟨oe, kvs, D, h _ a, r⟩
theorem EnvIn.tab {w : World} {l : List (Addr × Obj)} {de : Addr} {ρ : Str → Option Int} (e : EnvIn w l de ρ) {h₀ h : Heap} {L : Addr} (N : News h₀ L h l) :
    ∃ D, StrTab PySem.Challenge.rw_pq0025_01.row.prog w h de D ∧ ∀ σ, Spec.lookup (.str σ) D = (ρ σ).map PyData.int :=
  let ⟨_, _, D, a, lo, hd, hf, r⟩ := e; ⟨D, TabAt.ofNews N a lo hd hf, r⟩
theorem item_env {w : World} {A : Around} {E : Value → Shared → Prop} {s : Shared} {h₀ : Heap} {L de : Addr} {news l : List (Addr × Obj)} {ρ : Str → Option Int} {σ : Str} {z : Int} {t : Tok} {value slice : PySem.Expr} {Q : Value → Shared → Prop}
    (e : EnvIn w l de ρ) (N : News h₀ L s.heap news) (i : ∀ p ∈ l, p ∈ news) (hz : ρ σ = some z) (h : ∀ t, Q (.int z t) { s with toks := s.toks + 1 })
    (hs : subscripted slice false (.ref de) (.str σ t) = operate [.ref de, .str σ t] (getItem (.ref de) (.str σ t))) (hg : ∀ r, letTemporaryGo value (.ref de) r = pure ()) :
    wpAny (model PySem.Challenge.rw_pq0025_01.row.prog w) A (subscriptTail value slice (.ref de) (.str σ t)) Q E s := by
  obtain ⟨D, T, r⟩ := e.tab (News.sub N i)
  refine item_strTab T (by rw [r, hz]; rfl) (fun v hv => ?_) hs hg
  obtain ⟨t, rfl⟩ := Flat.int_inv hv
  exact h t

inductive Ev (ρ : Str → Option Int) : Tm → Int → Prop
  | leaf {s z} : ρ s = some z → Ev ρ (.leaf s) z
  | neg {x a} : Ev ρ x a → Ev ρ (.neg x) (0 - a)
  | add {x y a b} : Ev ρ x a → Ev ρ y b → Ev ρ (.bin true x y) (a + b)
  | mul {x y a b} : Ev ρ x a → Ev ρ y b → Ev ρ (.bin false x y) (a * b)
def Tm.h : Tm → Nat
  | .leaf _ => 1
  | .neg x => x.h + 1
  | .bin _ x y => x.h + y.h + 1

theorem Ev.bits {ρ : Str → Option Int} {T : Tm} {z : Int} (e : Ev ρ T z) (hb : ∀ σ z, ρ σ = some z → Builtin.Int.intBits z ≤ 300) : Builtin.Int.intBits z ≤ 300 * T.h := by
  induction e with
  | leaf h => exact hb _ _ h
  | neg _ ih => exact Nat.le_trans (bits_sub (m := 0) (by decide) ih) (by simp only [Tm.h]; omega)
  | add _ _ i j => exact Nat.le_trans (bits_add i j) (by simp only [Tm.h]; omega)
  | mul _ _ i j => exact Nat.le_trans (bits_mul i j) (by simp only [Tm.h]; omega)
def WholeSays (T : Tm) : Prop := ∀ {w : World} {dp un : Nat} {gd : Option (List Code)} {cn : Str} {cs : Scope} {a : Addr} {ccd : Value} {cl : List (Str × Addr)} {outer : List Env} {A₀ : Around} {base h₀ : Heap} {L : Addr} {m : Str → Option Value} {s : Shared} {loose : List Str} {mean : ExcName → Option Value} {mg mb : Str → Option Value}
    {Q E : Value → Shared → Prop} {news : List (Addr × Obj)} {v : Value} {de : Addr} {ρ : Str → Option Int} {z : Int}
    (_hb : ∀ σ z, ρ σ = some z → Builtin.Int.intBits z ≤ 300) (_hsz : T.h ≤ 1000)
    (_B : Below A₀ base outer h₀) (_F : Fr h₀ L s.heap m) (_X : (hd.heap_1 w.params).In h₀)
    (_N : News h₀ L s.heap news) (_T : Top view loose mean mg mb h₀) (_hk : cs.kind = .function)
    (_hT : Tm.In news v T) (_he : EnvIn w news de ρ) (_hv : Ev ρ T z)
    (_hd : dp + T.h < recursionLimit) (_hu : un + 24 * T.h < cLine)
    (_ret : ∀ t h' tk', Fr h₀ L h' m → News h₀ L h' news → Q (.int z t) { s with heap := h', toks := tk' }),
    wpAny (model PySem.Challenge.rw_pq0025_01.row.prog w) (ktrTop dp un gd cn cs L a ccd cl outer) (call (.ref 203) [v, .ref de]) Q E s

theorem WholeSays.use {T0 : Tm} {w : World} {dp un : Nat} {gd : Option (List Code)} {cn : Str} {cs : Scope} {a : Addr} {ccd : Value} {cl : List (Str × Addr)} {outer : List Env} {A₀ : Around} {base h₀ : Heap} {L : Addr} {m : Str → Option Value} {s : Shared} {loose : List Str} {mean : ExcName → Option Value} {mg mb : Str → Option Value}
    {Q E : Value → Shared → Prop} {news : List (Addr × Obj)} {v : Value} {de : Addr} {ρ : Str → Option Int} {z : Int}
    (_hb : ∀ σ z, ρ σ = some z → Builtin.Int.intBits z ≤ 300) (_hsz : T0.h ≤ 1000)
    (_B : Below A₀ base outer h₀) (_F : Fr h₀ L s.heap m) (_X : (hd.heap_1 w.params).In h₀)
    (_N : News h₀ L s.heap news) (_T : Top view loose mean mg mb h₀) (_hk : cs.kind = .function)
    (_hT : Tm.In news v T0) (_he : EnvIn w news de ρ) (_hv : Ev ρ T0 z)
    (_hd : dp + T0.h < recursionLimit) (_hu : un + 24 * T0.h < cLine)
    (C : WholeSays T0)
    (_ret : ∀ t h' tk', Fr h₀ L h' m → News h₀ L h' news → Q (.int z t) { s with heap := h', toks := tk' }) :
    wpAny (model PySem.Challenge.rw_pq0025_01.row.prog w) (ktrTop dp un gd cn cs L a ccd cl outer) (call (.ref 203) [v, .ref de]) Q E s := C _hb _hsz _B _F _X _N _T _hk _hT _he _hv _hd _hu _ret

theorem words_C5_1 : True := by
  w_top off
  k_with_none
  (k_with "k_ne" => (refine neN ?_; (try dsimp only); first | assumption | exact Ne.symm (by assumption) | exact Nat.ne_of_gt (by assumption) | exact Nat.ne_of_lt (by assumption) | (refine' Nat.ne_of_gt ?_; iterate 6 (try (first | exact Nat.lt_succ_self _ | refine' Nat.lt_succ_of_lt ?_)); done) | (refine' Nat.ne_of_lt ?_; iterate 6 (try (first | exact Nat.lt_succ_self _ | refine' Nat.lt_succ_of_lt ?_)); done) | exact Nat.ne_of_gt (And.left (by assumption)) | exact Nat.ne_of_lt (And.left (by assumption)) | exact Nat.ne_of_gt (And.left (And.right (by assumption))) | exact Nat.ne_of_gt (And.right (by assumption)) | exact Nat.ne_of_lt (And.left (And.right (by assumption))) | exact Nat.ne_of_lt (And.right (by assumption)) | exact Nat.ne_of_gt (And.left (And.right (And.right (by assumption)))) | exact Nat.ne_of_gt (And.right (And.right (by assumption))) | exact Nat.ne_of_lt (And.left (And.right (And.right (by assumption)))) | exact Nat.ne_of_lt (And.right (And.right (by assumption))) | exact Nat.ne_of_gt (And.left (And.right (And.right (And.right (by assumption))))) | exact Nat.ne_of_gt (And.right (And.right (And.right (by assumption)))) | exact Nat.ne_of_lt (And.left (And.right (And.right (And.right (by assumption))))) | exact Nat.ne_of_lt (And.right (And.right (And.right (by assumption)))) | exact Nat.ne_of_gt (And.left (And.right (And.right (And.right (And.right (by assumption)))))) | exact Nat.ne_of_gt (And.right (And.right (And.right (And.right (by assumption))))) | exact Nat.ne_of_lt (And.left (And.right (And.right (And.right (And.right (by assumption)))))) | exact Nat.ne_of_lt (And.right (And.right (And.right (And.right (by assumption))))) | exact Nat.ne_of_gt (And.left (And.right (And.right (And.right (And.right (And.right (by assumption))))))) | exact Nat.ne_of_gt (And.right (And.right (And.right (And.right (And.right (by assumption)))))) | exact Nat.ne_of_lt (And.left (And.right (And.right (And.right (And.right (And.right (by assumption))))))) | exact Nat.ne_of_lt (And.right (And.right (And.right (And.right (And.right (by assumption)))))) | exact Nat.ne_of_gt (And.left (And.right (And.right (And.right (And.right (And.right (And.right (by assumption)))))))) | exact Nat.ne_of_gt (And.right (And.right (And.right (And.right (And.right (And.right (by assumption))))))) | exact Nat.ne_of_lt (And.left (And.right (And.right (And.right (And.right (And.right (And.right (by assumption)))))))) | exact Nat.ne_of_lt (And.right (And.right (And.right (And.right (And.right (And.right (by assumption)))))))))
  (k_with "execs cons" => (k_here; (with_reducible refine gen_toks ?_); intro tkq))
  (k_with "execs nil" => (k_here; (with_reducible refine gen_toks ?_); intro tkq))
  (k_with "subscriptTail" => (k_here; (with_reducible show wpAny _ _ (subscriptTail _ _ (Value.ref _) (Value.str _ _)) _ _ _); k_dflt (refine' item_env ?k1q ?k2q ?k3q ?k4q ?_ ?k5q ?k6q; (case k1q => assumption); (case k2q => k_asm); (case k3q => (intro pq hpq; repeat (first | exact hpq | refine List.Mem.tail _ ?_))); (case k4q => assumption); (case k5q => with_unfolding_all rfl); (case k6q => intro _; with_unfolding_all rfl)); intro tz'q))
  exact trivial

theorem len_lit {prog : Program} {w : World} {A : Around} {E : Value → Shared → Prop} {s : Shared} {t : Addr} {items : Array Value} {Q : Value → Shared → Prop} {h₀ : Heap} {L : Addr} {news : List (Addr × Obj)} {n : Nat} (k : Int) (N : News h₀ L s.heap news) (hm : (t, ({ cls := .type "tuple", data := .seq items n } : Obj)) ∈ news)
    (hk : (items.size : Int) = k) (hb : k < 1000) (h : Q (.int k (s.toks + 1)) { s with toks := s.toks + 1 + 1 }) : wpAny (model prog w) A (call (.builtin "len") [.ref t]) Q E s :=
  len_tuple (items := items) ⟨_, N.get hm, rfl, _, rfl⟩ (by omega) (by rw [hk]; exact h)
theorem item_zero {prog : Program} {w : World} {A : Around} {E : Value → Shared → Prop} {s : Shared} {value slice : PySem.Expr} {l : Addr} {r : List Value} {u : Tok} {v : Value} {Q : Value → Shared → Prop} {h₀ : Heap} {L : Addr} {news : List (Addr × Obj)} {n : Nat} (N : News h₀ L s.heap news) (hm : (l, ({ cls := .type "tuple", data := .seq (v :: r).toArray n } : Obj)) ∈ news)
    (h : Q v s) (hs : subscripted slice false (.ref l) (.int 0 u) = operate [.ref l, .int 0 u] (getItem (.ref l) (.int 0 u)) := by with_unfolding_all rfl) :
    wpAny (model prog w) A (subscriptTail value slice (.ref l) (.int 0 u)) Q E s := by
  have ht : IsTup s.heap l (v :: r).toArray := ⟨_, N.get hm, rfl, _, rfl⟩
  refine tail_any ht.typeIs F.slot_tuple_getitem.lookup (getItem_tuple ht (by omega) (by omega) (j := 0) ?_ (x := v) (by simp) h) hs
  unfold seqIndex?; simp
theorem slice_one {prog : Program} {w : World} {A : Around} {E : Value → Shared → Prop} {s : Shared} {h₀ : Heap} {L : Addr} {m : Str → Option Value} {news : List (Addr × Obj)} {value slice : PySem.Expr} {t : Addr} {v : Value} {r : List Value} {n : Nat} {u : Tok} {Q : Value → Shared → Prop}
    (F : Fr h₀ L s.heap m) (N : News h₀ L s.heap news) (hm : (t, ({ cls := .type "tuple", data := .seq (v :: r).toArray n } : Obj)) ∈ news) (hr : r.length ≤ 1000)
    (h : ∀ D h', Fr h₀ L h' m → News h₀ L h' ((D, ({ cls := .type "tuple", data := .seq r.toArray } : Obj)) :: news) → AllLt D news → Q (.ref D) { s with heap := h' })
    (hs : subscripted slice false (.ref t) (.ref s.heap.objs.size) = operate [.ref s.heap.objs.size, .ref t] (getItem (.ref t) (.ref s.heap.objs.size)))
    (hg : ∀ r, letTemporaryGo value (.ref t) r = pure ()) :
    wpAny (model prog w) A (subscriptTail value slice (.ref t) (.ref s.heap.objs.size)) Q E { s with heap := s.heap.push { cls := .type "slice", data := .fields #[.int 1 u, .none, .none] } } :=
  slice_tuple_from (a := 1) F N (items := (v :: r).toArray) ⟨_, N.get hm, rfl, _, rfl⟩ (Nat.le_refl _) (by simp) (fun h' F' N' => h _ h' F' N' (allLt_of fun p hp => Nat.lt_succ_of_lt (Heap.lt_size (N p hp).1))) hs hg
    (by rw [List.size_toArray, List.length_cons, sizeLine_eq]; omega)
theorem tup_a {w : World} {h : Heap} (X : (hd.heap_1 w.params).In h) : ∃ t, IsTup h 123 [Value.str (Str.ofString "?a") t].toArray := by
  have hR : PySem.Challenge.rw_pq0025_01 = PySem.Challenge.rw_pq0025_01 := rfl
  (revert X hR; k_fill; intro X hR)
  exact ⟨_, _, X 123 _ (by k_is), rfl, _, rfl⟩
theorem tup_b {w : World} {h : Heap} (X : (hd.heap_1 w.params).In h) : ∃ t, IsTup h 124 [Value.str (Str.ofString "?b") t].toArray := by
  have hR : PySem.Challenge.rw_pq0025_01 = PySem.Challenge.rw_pq0025_01 := rfl
  (revert X hR; k_fill; intro X hR)
  exact ⟨_, _, X 124 _ (by k_is), rfl, _, rfl⟩
theorem tup_c {w : World} {h : Heap} (X : (hd.heap_1 w.params).In h) : ∃ t, IsTup h 125 [Value.str (Str.ofString "?c") t].toArray := by
  have hR : PySem.Challenge.rw_pq0025_01 = PySem.Challenge.rw_pq0025_01 := rfl
  (revert X hR; k_fill; intro X hR)
  exact ⟨_, _, X 125 _ (by k_is), rfl, _, rfl⟩
theorem Tm.In.tup {w : World} {h₀ h : Heap} {L : Addr} {m : Str → Option Value} {l news : List (Addr × Obj)} {v : Value} {σ : Str} (hT : Tm.In l v (.leaf σ)) (F : Fr h₀ L h m) (X : (hd.heap_1 w.params).In h₀) (N : News h₀ L h news) (i : ∀ p ∈ l, p ∈ news) : ∃ a t, v = .ref a ∧ IsTup h a [Value.str σ t].toArray := by
  cases hT with
  | leaf e => exact ⟨_, _, rfl, ⟨_, N.get (i _ e), rfl, _, rfl⟩⟩
  | va => exact (tup_a (X.keeps F.keep)).elim fun t ht => ⟨_, t, rfl, ht⟩
  | vb => exact (tup_b (X.keeps F.keep)).elim fun t ht => ⟨_, t, rfl, ht⟩
  | vc => exact (tup_c (X.keeps F.keep)).elim fun t ht => ⟨_, t, rfl, ht⟩
theorem len_leaf {prog : Program} {w : World} {A : Around} {E : Value → Shared → Prop} {s : Shared} {Q : Value → Shared → Prop} {h₀ : Heap} {L : Addr} {m : Str → Option Value} {l news : List (Addr × Obj)} {v : Value} {σ : Str} (hT : Tm.In l v (.leaf σ)) (F : Fr h₀ L s.heap m) (X : (hd.heap_1 w.params).In h₀) (N : News h₀ L s.heap news) (i : ∀ p ∈ l, p ∈ news)
    (h : Q (.int 1 (s.toks + 1)) { s with toks := s.toks + 1 + 1 }) : wpAny (model prog w) A (call (.builtin "len") [v]) Q E s := by
  obtain ⟨a, t, rfl, ht⟩ := hT.tup F X N i
  exact len_tuple ht (by show ((1 : Nat) : Int) < 2 ^ 63; decide) h
theorem item_leaf {prog : Program} {w : World} {A : Around} {E : Value → Shared → Prop} {s : Shared} {Q : Value → Shared → Prop} {h₀ : Heap} {L : Addr} {m : Str → Option Value} {l news : List (Addr × Obj)} {v : Value} {σ : Str} {value slice : PySem.Expr} {u : Tok} (hT : Tm.In l v (.leaf σ)) (F1 : Fr h₀ L s.heap m) (X : (hd.heap_1 w.params).In h₀) (N : News h₀ L s.heap news) (i : ∀ p ∈ l, p ∈ news)
    (h : ∀ t, Q (.str σ t) s) (hs : ∀ a, subscripted slice false (.ref a) (.int 0 u) = operate [.ref a, .int 0 u] (getItem (.ref a) (.int 0 u))) : wpAny (model prog w) A (subscriptTail value slice v (.int 0 u)) Q E s := by
  obtain ⟨a, t, rfl, ht⟩ := hT.tup F1 X N i
  refine tail_any ht.typeIs F.slot_tuple_getitem.lookup (getItem_tuple ht (by omega) (by omega) (j := 0) ?_ (x := .str σ t) (by simp) (h t)) (hs a)
  unfold seqIndex?; simp
theorem words_C5_2 : True := by
  w_top off
  (k_with "subscriptTail Name Slice ref ref" => (k_here; (with_reducible show wpAny _ _ (subscriptTail _ (PySem.Expr.Slice _ _ none _) (Value.ref _) (Value.ref _)) _ _ _); k_dflt (refine' slice_one ?Fq ?Nq ?mq ?rq ?_ ?sq ?tq; (case Fq => k_asm); (case Nq => k_asm); (case mq => k_mem); (case rq => exact Nat.le_of_ble_eq_true rfl); (case sq => with_unfolding_all rfl); (case tq => intro _; with_unfolding_all rfl)); intro D'q h'q F'q N'q l1q; (try simp only [AllLt, and_true] at l1q); (try k_sweep)))
  (k_with "k_mem" => (assumption))
  (k_with "call builtin:len" => (k_here; (with_reducible show wpAny _ _ (call (Value.builtin "len") [Value.ref _]) _ _ _); k_dflt (first
  | (refine len_lit 1 (by k_asm) (by k_mem) (by rfl) (by decide) ?_)
  | (refine len_lit 2 (by k_asm) (by k_mem) (by rfl) (by decide) ?_)
  | (refine len_lit 3 (by k_asm) (by k_mem) (by rfl) (by decide) ?_))))
  (k_with "subscriptTail" => (k_here; (with_reducible show wpAny _ _ (subscriptTail _ _ (Value.ref _) (Value.int 0 _)) _ _ _); k_dflt (refine' item_zero ?k1q ?k2q ?_ ?k6q; (case k1q => k_asm); (case k2q => k_mem); (case k6q => with_unfolding_all rfl))))
  (k_with "call builtin:len" => (k_here; (with_reducible show wpAny _ _ (call (Value.builtin "len") [_]) _ _ _); k_dflt (refine len_leaf (by assumption) (by k_asm) (by k_asm) (by k_asm) (by (intro pq hpq; repeat (first | exact hpq | refine List.Mem.tail _ ?_))) ?_)))
  (k_with "subscriptTail" => (k_here; (with_reducible show wpAny _ _ (subscriptTail _ _ _ (Value.int 0 _)) _ _ _); k_dflt (refine item_leaf (by assumption) (by k_asm) (by k_asm) (by k_asm) (by (intro pq hpq; repeat (first | exact hpq | refine List.Mem.tail _ ?_))) ?_ (by intro _; with_unfolding_all rfl)); intro tt'q))
  exact trivial

theorem whole_leaf (σ : Str) : WholeSays (.leaf σ) := by
  intro w dp un gd cn cs a ccd cl outer A₀ base h₀ L m s loose mean mg mb Q E news v de ρ z hb hsz B F X N T hk hT he hv hd hu ret
  (revert X; k_fill; intro X)
  dsimp only [Tm.h] at hd hu hsz
  cases hv
  all_goals (
    refine wpAny_call ?_
    k_dflt (refine' code_defC ?k1 ?k2 ?k3 ?k4 ?k5 ?kA ?kF ?kK ?k6 ?k7 ?k8 ?k9 ?kB ?kD ?_ ?c2 ?c3 ?c4; (case kA => exact rfl); (case kF => exact rfl); (case kK => assumption); (case k1 => k_asm); (case k2 => k_asm); (case k3 => k_asm); (case k4 => k_asm); (case k5 => k_asm); (case k6 => k_is); (case k7 => k_is); (case k8 => (ktr_room)); (case k9 => exact BindsTo.of_eq rfl); (case kB => exact rfl); (case kD => decide +kernel); (case c2 => exact rfl); (case c3 => exact rfl); (case c4 => exact rfl); k_whole; intro g' L' h' tk' cells' FG' F' N' Y' B' X' T' l1; (try k_lt l1); k_cells Y'; (try simp only [List.cons_append, List.nil_append] at N'); (try dsimp only); (try k_fold))
    k_steps
    all_goals first | (refine' ret _ _ _ ?e1 (News.sub ?e2 ?e3); (case e1 => k_asm); (case e2 => k_asm); (case e3 => (intro p hp; repeat (first | exact hp | refine List.Mem.tail _ ?_)))))

theorem CompEnd.same {h₀ : Heap} {L I C D : Addr} {m : Str → Option Value} {s₁ : Shared} {oI oC oD : Obj} {S : List (Addr × Obj) → Prop} {rest : Value → List (Addr × Obj) → Prop} {y : Value} {h' : Heap} {tk : Nat} {news' : List (Addr × Obj)}
    (F : Fr h₀ L h' m) (N : News h₀ L h' ((I, oI) :: (C, oC) :: (D, oD) :: news')) (off : LCg.Off3 I C D news') (hS : S news') (r : rest y news') :
    LCg.CompEnd h₀ L m s₁ I oI C oC D oD S rest y { s₁ with heap := h', toks := tk } := ⟨h', tk, news', rfl, F, N, off, hS, r⟩

theorem words_C5_3 : True := by
  w_top off
  (k_with "exec Assign cons ListComp" => (k_here; k_dflt (refine assign_comp_tup (F₀ := by k_asm) (by rfl) (by with_unfolding_all rfl) (by with_unfolding_all rfl) (by decide) (by rfl) (by decide) (by rfl) (by rfl) (by rfl) ?_)))
  (k_with "SrcT" => (k_here; k_dflt (refine SrcT.intro (by rfl) (by k_asm) (by k_asm) (by k_mem) (by first | size_fits | exact Nat.le_of_ble_eq_true rfl) ?_; intro g'q; lcg_lit)))
  (k_with "CompRest" => (with_unfolding_all first
  | (refine LCg.CompRest.succ ?_; intro v'q I'q oI'q C'q oC'q D'q m'q h'q tk'q E'q hv'q hC'q hx'q F'q N'q off'q ne'q; lcg_open hv'q)
  | refine LCg.CompRest.zero ?_))
  (k_with "binaryOp Mult int int" => (k_dflt (refine mul_int ?_ (mulOk_of_bits (Ev.bits (by assumption) (by assumption)) (Ev.bits (by assumption) (by assumption)) (by omega)))))
  (k_with "CompEnd" => (refine CompEnd.same (by k_asm) (by k_asm) (by assumption) (Or.inr ⟨_, by k_mem⟩) ?_))
  (k_with "call ref" => (k_here; (with_reducible show wpAny _ _ (call (Value.ref 203) [_, Value.ref _]) _ _ _); k_dflt (first | (refine' WholeSays.use ?hbq ?hszq ?Bq ?Fq ?Xq ?Nq ?Tq ?hkq ?hTq ?heq ?hvq ?hdq ?huq ?Cq ?_; (case Bq => k_asm); (case Fq => k_asm); (case Xq => k_asm); (case Nq => k_asm); (case Tq => k_asm); (case hkq => first | exact rfl | assumption); (case hTq => (refine Tm.In.mono ?_ (by assumption); (intro pq hpq; repeat (first | exact hpq | refine List.Mem.tail _ ?_)))); (case heq => (refine EnvIn.mono ?_ (by assumption); (intro pq hpq; repeat (first | exact hpq | refine List.Mem.tail _ ?_)))); (case hvq => assumption); (case Cq => assumption); (case hbq => assumption); (case hszq => omega); (case hdq => ktr_room); (case huq => ktr_units)); intro tz'q h'q tk'q F'q N'q; (try k_sweep))))
  exact trivial

theorem whole_neg (x : Tm) (ih : WholeSays x) : WholeSays (.neg x) := by
  intro w dp un gd cn cs a ccd cl outer A₀ base h₀ L m s loose mean mg mb Q E news v de ρ z hb hsz B F X N T hk hT he hv hd hu ret
  (revert X; k_fill; intro X)
  dsimp only [Tm.h] at hd hu hsz
  cases hv <;> cases hT
  all_goals (
    refine wpAny_call ?_
    k_dflt (refine' code_defC ?k1 ?k2 ?k3 ?k4 ?k5 ?kA ?kF ?kK ?k6 ?k7 ?k8 ?k9 ?kB ?kD ?_ ?c2 ?c3 ?c4; (case kA => exact rfl); (case kF => exact rfl); (case kK => assumption); (case k1 => k_asm); (case k2 => k_asm); (case k3 => k_asm); (case k4 => k_asm); (case k5 => k_asm); (case k6 => k_is); (case k7 => k_is); (case k8 => (ktr_room)); (case k9 => exact BindsTo.of_eq rfl); (case kB => exact rfl); (case kD => decide +kernel); (case c2 => exact rfl); (case c3 => exact rfl); (case c4 => exact rfl); k_whole; intro g' L' h' tk' cells' FG' F' N' Y' B' X' T' l1; (try k_lt l1); k_cells Y'; (try simp only [List.cons_append, List.nil_append] at N'); (try dsimp only); (try k_fold))
    k_steps
    all_goals first | (refine' ret _ _ _ ?e1 (News.sub ?e2 ?e3); (case e1 => k_asm); (case e2 => k_asm); (case e3 => (intro p hp; repeat (first | exact hp | refine List.Mem.tail _ ?_)))))
theorem whole_bin (o : Bool) (x y : Tm) (ih : WholeSays x) (ih2 : WholeSays y) : WholeSays (.bin o x y) := by
  intro w dp un gd cn cs a ccd cl outer A₀ base h₀ L m s loose mean mg mb Q E news v de ρ z hb hsz B F X N T hk hT he hv hd hu ret
  (revert X; k_fill; intro X)
  dsimp only [Tm.h] at hd hu hsz
  cases hv <;> cases hT
  all_goals (
    refine wpAny_call ?_
    k_dflt (refine' code_defC ?k1 ?k2 ?k3 ?k4 ?k5 ?kA ?kF ?kK ?k6 ?k7 ?k8 ?k9 ?kB ?kD ?_ ?c2 ?c3 ?c4; (case kA => exact rfl); (case kF => exact rfl); (case kK => assumption); (case k1 => k_asm); (case k2 => k_asm); (case k3 => k_asm); (case k4 => k_asm); (case k5 => k_asm); (case k6 => k_is); (case k7 => k_is); (case k8 => (ktr_room)); (case k9 => exact BindsTo.of_eq rfl); (case kB => exact rfl); (case kD => decide +kernel); (case c2 => exact rfl); (case c3 => exact rfl); (case c4 => exact rfl); k_whole; intro g' L' h' tk' cells' FG' F' N' Y' B' X' T' l1; (try k_lt l1); k_cells Y'; (try simp only [List.cons_append, List.nil_append] at N'); (try dsimp only); (try k_fold))
    k_steps
    all_goals first | (refine' ret _ _ _ ?e1 (News.sub ?e2 ?e3); (case e1 => k_asm); (case e2 => k_asm); (case e3 => (intro p hp; repeat (first | exact hp | refine List.Mem.tail _ ?_)))))
theorem whole_says : ∀ T, WholeSays T
  | .leaf s => whole_leaf s
  | .neg x => whole_neg x (whole_says x)
  | .bin o x y => whole_bin o x y (whole_says x) (whole_says y)
end Mine
end

theorem Mine.reset_C6 : True := by
  w_top off
  k_with_none
  exact trivial
section
open PySem PySem.W PyProof.Rows PySem.Calls PyProof.V
set_option maxRecDepth 100000
set_option maxHeartbeats 8000000
namespace Mine
def optV (r : Option Int) (t : Tok) : Value := match r with | some z => .int z t | none => .none
def WOf (σ : Str) (r : Option Int) : Prop := ∀ {w : World} {dp un : Nat} {gd : Option (List Code)} {cn : Str} {cs : Scope} {a : Addr} {ccd : Value} {cl : List (Str × Addr)} {outer : List Env} {A₀ : Around} {base h₀ : Heap} {L : Addr} {m : Str → Option Value} {s : Shared} {loose : List Str} {mean : ExcName → Option Value} {mg mb : Str → Option Value}
    {Q E : Value → Shared → Prop} {news : List (Addr × Obj)} {tσ : Tok}
    (_B : Below A₀ base outer h₀) (_F : Fr h₀ L s.heap m) (_X : (hd.heap_1 w.params).In h₀)
    (_N : News h₀ L s.heap news) (_T : Top view loose mean mg mb h₀) (_hk : cs.kind = .function)
    (_hd : dp + 1 < recursionLimit) (_hu : un + 300 < cLine)
    (_ret : ∀ t h' tk', Fr h₀ L h' m → News h₀ L h' news → Q (optV r t) { s with heap := h', toks := tk' }),
    wpAny (model PySem.Challenge.rw_pq0025_01.row.prog w) (ktrTop dp un gd cn cs L a ccd cl outer) (call (.ref 26) [.str σ tσ]) Q E s
theorem words_C6_1 : True := by
  w_top off
  k_with_none
  (k_with "k_ne" => (refine neN ?_; (try dsimp only); first | assumption | exact Ne.symm (by assumption) | exact Nat.ne_of_gt (by assumption) | exact Nat.ne_of_lt (by assumption) | (refine' Nat.ne_of_gt ?_; iterate 6 (try (first | exact Nat.lt_succ_self _ | refine' Nat.lt_succ_of_lt ?_)); done) | (refine' Nat.ne_of_lt ?_; iterate 6 (try (first | exact Nat.lt_succ_self _ | refine' Nat.lt_succ_of_lt ?_)); done) | exact Nat.ne_of_gt (And.left (by assumption)) | exact Nat.ne_of_lt (And.left (by assumption)) | exact Nat.ne_of_gt (And.left (And.right (by assumption))) | exact Nat.ne_of_gt (And.right (by assumption)) | exact Nat.ne_of_lt (And.left (And.right (by assumption))) | exact Nat.ne_of_lt (And.right (by assumption)) | exact Nat.ne_of_gt (And.left (And.right (And.right (by assumption)))) | exact Nat.ne_of_gt (And.right (And.right (by assumption))) | exact Nat.ne_of_lt (And.left (And.right (And.right (by assumption)))) | exact Nat.ne_of_lt (And.right (And.right (by assumption))) | exact Nat.ne_of_gt (And.left (And.right (And.right (And.right (by assumption))))) | exact Nat.ne_of_gt (And.right (And.right (And.right (by assumption)))) | exact Nat.ne_of_lt (And.left (And.right (And.right (And.right (by assumption))))) | exact Nat.ne_of_lt (And.right (And.right (And.right (by assumption)))) | exact Nat.ne_of_gt (And.left (And.right (And.right (And.right (And.right (by assumption)))))) | exact Nat.ne_of_gt (And.right (And.right (And.right (And.right (by assumption))))) | exact Nat.ne_of_lt (And.left (And.right (And.right (And.right (And.right (by assumption)))))) | exact Nat.ne_of_lt (And.right (And.right (And.right (And.right (by assumption))))) | exact Nat.ne_of_gt (And.left (And.right (And.right (And.right (And.right (And.right (by assumption))))))) | exact Nat.ne_of_gt (And.right (And.right (And.right (And.right (And.right (by assumption)))))) | exact Nat.ne_of_lt (And.left (And.right (And.right (And.right (And.right (And.right (by assumption))))))) | exact Nat.ne_of_lt (And.right (And.right (And.right (And.right (And.right (by assumption)))))) | exact Nat.ne_of_gt (And.left (And.right (And.right (And.right (And.right (And.right (And.right (by assumption)))))))) | exact Nat.ne_of_gt (And.right (And.right (And.right (And.right (And.right (And.right (by assumption))))))) | exact Nat.ne_of_lt (And.left (And.right (And.right (And.right (And.right (And.right (And.right (by assumption)))))))) | exact Nat.ne_of_lt (And.right (And.right (And.right (And.right (And.right (And.right (by assumption)))))))))
  (k_with "execs cons" => (k_here; (with_reducible refine gen_toks ?_); intro tkq))
  (k_with "execs nil" => (k_here; (with_reducible refine gen_toks ?_); intro tkq))
  (k_with "execs cons" => k_fold)
  (k_with "eval Call" => k_fold)
  exact trivial

theorem ne_empty {prog : Program} {w : World} {A : Around} {E : Value → Shared → Prop} {s : Shared} {Q : Value → Shared → Prop} {h₀ : Heap} {L a b : Addr} {news : List (Addr × Obj)} {ys : List Value} {ds : List PyData} {n n' : Nat} (v : Bool) (N : News h₀ L s.heap news)
    (ma : (a, listOf ys.toArray n) ∈ news) (mb : (b, listOf #[] n') ∈ news) (hc : CarriedAll ys ds) (hu : A.units + 64 < cLine) (hs : SeqAt.shaped (.list ds) = true) (hv : ds.isEmpty = v) (h : Q (.bool (!v)) s) :
    wpAny (model prog w) A (compareOp .NotEq (.ref a) (.ref b)) Q E s := by
  refine ne_dataH (reads_newData (N.isList ma) hc) (reads_newData (ys := []) (ds := []) (N.isList mb) .nil) hs rfl hu ?_
  subst hv
  cases ds with
  | nil => exact h
  | cons _ _ => exact h
theorem words_C6_2 : True := by
  w_top off
  (k_with "compareOp NotEq ref ref" => (k_here; (with_reducible show wpAny _ _ (compareOp CmpOp.NotEq (Value.ref _) (Value.ref _)) _ _ _); k_dflt (first
  | (refine' ne_empty true ?Nq ?m1q ?m2q ?cq ?uq ?sq ?vq ?_; (case Nq => k_asm); (case m1q => k_mem); (case m2q => k_mem); (case cq => assumption); (case uq => ktr_units); (case sq => decide +kernel); (case vq => decide +kernel))
  | (refine' ne_empty false ?Nq ?m1q ?m2q ?cq ?uq ?sq ?vq ?_; (case Nq => k_asm); (case m1q => k_mem); (case m2q => k_mem); (case cq => assumption); (case uq => ktr_units); (case sq => decide +kernel); (case vq => decide +kernel)))))
  (k_with "execs cons" => k_fold)
  (k_with "eval Call" => k_fold)
  exact trivial
theorem wof_m7 : WOf (Str.ofString "-7") (some (-7)) := by
  intro w dp un gd cn cs a ccd cl outer A₀ base h₀ L m s loose mean mg mb Q E news tσ B F X N T hk hd hu ret
  (revert X; k_fill; intro X)
  refine wpAny_call ?_
  k_dflt ktr_enter
  (all_goals try k_fold)
  k_steps
  all_goals (refine' ret _ _ _ ?e1 (News.sub ?e2 ?e3); (case e1 => k_asm); (case e2 => k_asm); (case e3 => (intro p hp; repeat (first | exact hp | refine List.Mem.tail _ ?_))))
theorem wof_w : WOf (Str.ofString "w") none := by
  intro w dp un gd cn cs a ccd cl outer A₀ base h₀ L m s loose mean mg mb Q E news tσ B F X N T hk hd hu ret
  (revert X; k_fill; intro X)
  refine wpAny_call ?_
  k_dflt ktr_enter
  (all_goals try k_fold)
  k_steps
  all_goals (refine' ret tσ _ _ ?e1 (News.sub ?e2 ?e3); (case e1 => k_asm); (case e2 => k_asm); (case e3 => (intro p hp; repeat (first | exact hp | refine List.Mem.tail _ ?_))))
theorem wof_a : WOf (Str.ofString "?a") none := by
  intro w dp un gd cn cs a ccd cl outer A₀ base h₀ L m s loose mean mg mb Q E news tσ B F X N T hk hd hu ret
  (revert X; k_fill; intro X)
  refine wpAny_call ?_
  k_dflt ktr_enter
  (all_goals try k_fold)
  k_steps
  all_goals (refine' ret tσ _ _ ?e1 (News.sub ?e2 ?e3); (case e1 => k_asm); (case e2 => k_asm); (case e3 => (intro p hp; repeat (first | exact hp | refine List.Mem.tail _ ?_))))
theorem wof_big : WOf (Str.ofString "1000000007") (some 1000000007) := by
  intro w dp un gd cn cs a ccd cl outer A₀ base h₀ L m s loose mean mg mb Q E news tσ B F X N T hk hd hu ret
  (revert X; k_fill; intro X)
  refine wpAny_call ?_
  k_dflt ktr_enter
  (all_goals try k_fold)
  k_steps
  all_goals (refine' ret _ _ _ ?e1 (News.sub ?e2 ?e3); (case e1 => k_asm); (case e2 => k_asm); (case e3 => (intro p hp; repeat (first | exact hp | refine List.Mem.tail _ ?_))))
theorem wof_007 : WOf (Str.ofString "007") (some 7) := by
  intro w dp un gd cn cs a ccd cl outer A₀ base h₀ L m s loose mean mg mb Q E news tσ B F X N T hk hd hu ret
  (revert X; k_fill; intro X)
  refine wpAny_call ?_
  k_dflt ktr_enter
  (all_goals try k_fold)
  k_steps
  all_goals (refine' ret _ _ _ ?e1 (News.sub ?e2 ?e3); (case e1 => k_asm); (case e2 => k_asm); (case e3 => (intro p hp; repeat (first | exact hp | refine List.Mem.tail _ ?_))))
theorem wof_0 : WOf (Str.ofString "0") (some 0) := by
  intro w dp un gd cn cs a ccd cl outer A₀ base h₀ L m s loose mean mg mb Q E news tσ B F X N T hk hd hu ret
  (revert X; k_fill; intro X)
  refine wpAny_call ?_
  k_dflt ktr_enter
  (all_goals try k_fold)
  k_steps
  all_goals (refine' ret _ _ _ ?e1 (News.sub ?e2 ?e3); (case e1 => k_asm); (case e2 => k_asm); (case e3 => (intro p hp; repeat (first | exact hp | refine List.Mem.tail _ ?_))))
theorem wof_1 : WOf (Str.ofString "1") (some 1) := by
  intro w dp un gd cn cs a ccd cl outer A₀ base h₀ L m s loose mean mg mb Q E news tσ B F X N T hk hd hu ret
  (revert X; k_fill; intro X)
  refine wpAny_call ?_
  k_dflt ktr_enter
  (all_goals try k_fold)
  k_steps
  all_goals (refine' ret _ _ _ ?e1 (News.sub ?e2 ?e3); (case e1 => k_asm); (case e2 => k_asm); (case e3 => (intro p hp; repeat (first | exact hp | refine List.Mem.tail _ ?_))))
theorem wof_2 : WOf (Str.ofString "2") (some 2) := by
  intro w dp un gd cn cs a ccd cl outer A₀ base h₀ L m s loose mean mg mb Q E news tσ B F X N T hk hd hu ret
  (revert X; k_fill; intro X)
  refine wpAny_call ?_
  k_dflt ktr_enter
  (all_goals try k_fold)
  k_steps
  all_goals (refine' ret _ _ _ ?e1 (News.sub ?e2 ?e3); (case e1 => k_asm); (case e2 => k_asm); (case e3 => (intro p hp; repeat (first | exact hp | refine List.Mem.tail _ ?_))))
theorem wof_3 : WOf (Str.ofString "3") (some 3) := by
  intro w dp un gd cn cs a ccd cl outer A₀ base h₀ L m s loose mean mg mb Q E news tσ B F X N T hk hd hu ret
  (revert X; k_fill; intro X)
  refine wpAny_call ?_
  k_dflt ktr_enter
  (all_goals try k_fold)
  k_steps
  all_goals (refine' ret _ _ _ ?e1 (News.sub ?e2 ?e3); (case e1 => k_asm); (case e2 => k_asm); (case e3 => (intro p hp; repeat (first | exact hp | refine List.Mem.tail _ ?_))))
theorem wof_5 : WOf (Str.ofString "5") (some 5) := by
  intro w dp un gd cn cs a ccd cl outer A₀ base h₀ L m s loose mean mg mb Q E news tσ B F X N T hk hd hu ret
  (revert X; k_fill; intro X)
  refine wpAny_call ?_
  k_dflt ktr_enter
  (all_goals try k_fold)
  k_steps
  all_goals (refine' ret _ _ _ ?e1 (News.sub ?e2 ?e3); (case e1 => k_asm); (case e2 => k_asm); (case e3 => (intro p hp; repeat (first | exact hp | refine List.Mem.tail _ ?_))))
theorem wof_12 : WOf (Str.ofString "12") (some 12) := by
  intro w dp un gd cn cs a ccd cl outer A₀ base h₀ L m s loose mean mg mb Q E news tσ B F X N T hk hd hu ret
  (revert X; k_fill; intro X)
  refine wpAny_call ?_
  k_dflt ktr_enter
  (all_goals try k_fold)
  k_steps
  all_goals (refine' ret _ _ _ ?e1 (News.sub ?e2 ?e3); (case e1 => k_asm); (case e2 => k_asm); (case e3 => (intro p hp; repeat (first | exact hp | refine List.Mem.tail _ ?_))))
end Mine
end

theorem Mine.reset_C7 : True := by
  w_top off
  k_with_none
  exact trivial
section
open PySem PySem.W PyProof.Rows PySem.Calls PyProof.V
set_option maxRecDepth 100000
set_option maxHeartbeats 8000000
namespace Mine
def RingIn (w : World) (l : List (Addr × Obj)) (rg : Addr) (n : Int) : Prop :=
  ∃ dx t tn k, (rg, instObj 172 dx) ∈ l ∧ (dx, dictOf [⟨PyData.keyHash w.params (Str.ofString "n"), .str (Str.ofString "n") t, .int n tn⟩] k) ∈ l
theorem RingIn.mono {w : World} {l l' : List (Addr × Obj)} {rg : Addr} {n : Int} (h : ∀ p ∈ l, p ∈ l') (e : RingIn w l rg n) : RingIn w l' rg n :=
  let ⟨dx, t, tn, k, a, b⟩ := e; ⟨dx, t, tn, k, h _ a, h _ b⟩
def ValSays (T : Tm) : Prop := ∀ {w : World} {dp un : Nat} {gd : Option (List Code)} {cn : Str} {cs : Scope} {a : Addr} {ccd : Value} {cl : List (Str × Addr)} {outer : List Env} {A₀ : Around} {base h₀ : Heap} {L : Addr} {m : Str → Option Value} {s : Shared} {loose : List Str} {mean : ExcName → Option Value} {mg mb : Str → Option Value}
    {Q E : Value → Shared → Prop} {news : List (Addr × Obj)} {v : Value} {de rg : Addr} {ρ ρ' : Str → Option Int} {z n : Int}
    (_hb : ∀ σ z, ρ σ = some z → Builtin.Int.intBits z ≤ 300) (_hw : ∀ σ z, ρ' σ = some z → PyData.strOk σ = true ∧ (ρ σ = some z ∨ (ρ σ = none ∧ WOf σ (some z))))
    (_n0 : 0 < n) (_n1 : n ≤ 1000000007)
    (_B : Below A₀ base outer h₀) (_F : Fr h₀ L s.heap m) (_X : (hd.heap_1 w.params).In h₀)
    (_N : News h₀ L s.heap news) (_T : Top view loose mean mg mb h₀) (_hk : cs.kind = .function)
    (_hT : Tm.In news v T) (_he : EnvIn w news de ρ) (_hr : RingIn w news rg n) (_hv : Ev ρ' T z)
    (_hd : dp + (T.h + 1) < recursionLimit) (_hu : un + (24 * T.h + 400) < cLine)
    (_ret : ∀ t h' tk', Fr h₀ L h' m → News h₀ L h' news → Q (.int (Int.fmod z n) t) { s with heap := h', toks := tk' }),
    wpAny (model PySem.Challenge.rw_pq0025_01.row.prog w) (ktrTop dp un gd cn cs L a ccd cl outer) (call (.ref 169) [.ref rg, v, .ref de]) Q E s

theorem notin_ops {prog : Program} {w : World} {A : Around} {E : Value → Shared → Prop} {s : Shared} {Q : Value → Shared → Prop} {h₀ : Heap} {L c q k1 k2 k3 : Addr} {news : List (Addr × Obj)} {σ : Str} {k : Int} {t u t1 t2 t3 u1 u2 u3 : Tok} (b : Bool) (N : News h₀ L s.heap news)
    (hc : (c, tupO #[.ref k1, .ref k2, .ref k3]) ∈ news) (h1 : (k1, tupO #[.str (Str.ofString "add") t1, .int 3 u1]) ∈ news) (h2 : (k2, tupO #[.str (Str.ofString "mul") t2, .int 3 u2]) ∈ news) (h3 : (k3, tupO #[.str (Str.ofString "neg") t3, .int 2 u3]) ∈ news)
    (hq : (q, tupO #[.str σ t, .int k u]) ∈ news) (hu : A.units + 64 < cLine) (hσ : PyData.strOk σ = true)
    (hb : (!([(Str.ofString "add", (3 : Int)), (Str.ofString "mul", 3), (Str.ofString "neg", 2)].any fun p => p.1 == σ && p.2 == k)) = b) (h : Q (.bool b) s) :
    wpAny (model prog w) A (compareOp .NotIn (.ref q) (.ref c)) Q E s := by
  have rd : ∀ {a : Addr} {τ : Str} {i : Int} {x y : Tok}, (a, tupO #[.str τ x, .int i y]) ∈ news → Reads s.heap (.ref a) (.tuple [.str τ, .int i]) [] := fun hm =>
    .tuple (N.get hm) rfl rfl (.cons (as := []) (.str _ _) (.cons (as := []) (.int _ _) .nil))
  have rc : Reads s.heap (.ref c) (.tuple [.tuple [.str (Str.ofString "add"), .int 3], .tuple [.str (Str.ofString "mul"), .int 3], .tuple [.str (Str.ofString "neg"), .int 2]]) [] :=
    .tuple (N.get hc) rfl rfl (.cons (as := []) (rd h1) (.cons (as := []) (rd h2) (.cons (as := []) (rd h3) .nil)))
  refine SeqAt.notIn_tuple_reads rc (rd hq) (by decide +kernel) (by simp [PyData.canLay0, PyData.canLayAll0, hσ]) ?_ ?_
  · have : min (PyData.depthAll [.tuple [.str (Str.ofString "add"), .int 3], .tuple [.str (Str.ofString "mul"), .int 3], .tuple [.str (Str.ofString "neg"), .int 2]]) (PyData.tuple [.str σ, .int k]).depth ≤ 5 := Nat.le_trans (Nat.min_le_left _ _) (by decide +kernel)
    omega
  · subst hb
    simpa [PyData.eqv, PyData.eqvAll] using h
theorem env_notin {w : World} {A : Around} {E : Value → Shared → Prop} {s : Shared} {h₀ : Heap} {L de : Addr} {news l : List (Addr × Obj)} {ρ : Str → Option Int} {σ : Str} {t : Tok} {Q : Value → Shared → Prop} {r : Option Int}
    (e : EnvIn w l de ρ) (N : News h₀ L s.heap news) (i : ∀ p ∈ l, p ∈ news) (hz : ρ σ = r) (h : Q (.bool (!r.isSome)) { s with toks := s.toks + 1 }) :
    wpAny (model PySem.Challenge.rw_pq0025_01.row.prog w) A (compareOp .NotIn (.str σ t) (.ref de)) Q E s := by
  obtain ⟨D, T, r'⟩ := e.tab (News.sub N i)
  refine notin_strTab T ?_
  rw [r' σ, hz, Option.isSome_map]
  exact h
theorem WOf.use {σ : Str} {r : Option Int} {w : World} {dp un : Nat} {gd : Option (List Code)} {cn : Str} {cs : Scope} {a : Addr} {ccd : Value} {cl : List (Str × Addr)} {outer : List Env} {A₀ : Around} {base h₀ : Heap} {L : Addr} {m : Str → Option Value} {s : Shared} {loose : List Str} {mean : ExcName → Option Value} {mg mb : Str → Option Value}
    {Q E : Value → Shared → Prop} {news : List (Addr × Obj)} {tσ : Tok} (C : WOf σ r)
    (_B : Below A₀ base outer h₀) (_F : Fr h₀ L s.heap m) (_X : (hd.heap_1 w.params).In h₀)
    (_N : News h₀ L s.heap news) (_T : Top view loose mean mg mb h₀) (_hk : cs.kind = .function)
    (_hd : dp + 1 < recursionLimit) (_hu : un + 300 < cLine)
    (_ret : ∀ t h' tk', Fr h₀ L h' m → News h₀ L h' news → Q (optV r t) { s with heap := h', toks := tk' }) :
    wpAny (model PySem.Challenge.rw_pq0025_01.row.prog w) (ktrTop dp un gd cn cs L a ccd cl outer) (call (.ref 26) [.str σ tσ]) Q E s := C _B _F _X _N _T _hk _hd _hu _ret

theorem words_C7_1 : True := by
  w_top off
  k_with_none
  (k_with "k_ne" => (refine neN ?_; (try dsimp only); first | assumption | exact Ne.symm (by assumption) | exact Nat.ne_of_gt (by assumption) | exact Nat.ne_of_lt (by assumption) | (refine' Nat.ne_of_gt ?_; iterate 6 (try (first | exact Nat.lt_succ_self _ | refine' Nat.lt_succ_of_lt ?_)); done) | (refine' Nat.ne_of_lt ?_; iterate 6 (try (first | exact Nat.lt_succ_self _ | refine' Nat.lt_succ_of_lt ?_)); done) | exact Nat.ne_of_gt (And.left (by assumption)) | exact Nat.ne_of_lt (And.left (by assumption)) | exact Nat.ne_of_gt (And.left (And.right (by assumption))) | exact Nat.ne_of_gt (And.right (by assumption)) | exact Nat.ne_of_lt (And.left (And.right (by assumption))) | exact Nat.ne_of_lt (And.right (by assumption)) | exact Nat.ne_of_gt (And.left (And.right (And.right (by assumption)))) | exact Nat.ne_of_gt (And.right (And.right (by assumption))) | exact Nat.ne_of_lt (And.left (And.right (And.right (by assumption)))) | exact Nat.ne_of_lt (And.right (And.right (by assumption))) | exact Nat.ne_of_gt (And.left (And.right (And.right (And.right (by assumption))))) | exact Nat.ne_of_gt (And.right (And.right (And.right (by assumption)))) | exact Nat.ne_of_lt (And.left (And.right (And.right (And.right (by assumption))))) | exact Nat.ne_of_lt (And.right (And.right (And.right (by assumption)))) | exact Nat.ne_of_gt (And.left (And.right (And.right (And.right (And.right (by assumption)))))) | exact Nat.ne_of_gt (And.right (And.right (And.right (And.right (by assumption))))) | exact Nat.ne_of_lt (And.left (And.right (And.right (And.right (And.right (by assumption)))))) | exact Nat.ne_of_lt (And.right (And.right (And.right (And.right (by assumption))))) | exact Nat.ne_of_gt (And.left (And.right (And.right (And.right (And.right (And.right (by assumption))))))) | exact Nat.ne_of_gt (And.right (And.right (And.right (And.right (And.right (by assumption)))))) | exact Nat.ne_of_lt (And.left (And.right (And.right (And.right (And.right (And.right (by assumption))))))) | exact Nat.ne_of_lt (And.right (And.right (And.right (And.right (And.right (by assumption)))))) | exact Nat.ne_of_gt (And.left (And.right (And.right (And.right (And.right (And.right (And.right (by assumption)))))))) | exact Nat.ne_of_gt (And.right (And.right (And.right (And.right (And.right (And.right (by assumption))))))) | exact Nat.ne_of_lt (And.left (And.right (And.right (And.right (And.right (And.right (And.right (by assumption)))))))) | exact Nat.ne_of_lt (And.right (And.right (And.right (And.right (And.right (And.right (by assumption)))))))))
  (k_with "execs cons" => (k_here; (with_reducible refine gen_toks ?_); intro tkq))
  (k_with "execs nil" => (k_here; (with_reducible refine gen_toks ?_); intro tkq))
  (k_with "subscriptTail" => (k_here; (with_reducible show wpAny _ _ (subscriptTail _ _ (Value.ref _) (Value.str _ _)) _ _ _); k_dflt (refine' item_env ?k1q ?k2q ?k3q ?k4q ?_ ?k5q ?k6q; (case k1q => assumption); (case k2q => k_asm); (case k3q => (intro pq hpq; repeat (first | exact hpq | refine List.Mem.tail _ ?_))); (case k4q => assumption); (case k5q => with_unfolding_all rfl); (case k6q => intro _; with_unfolding_all rfl)); intro tz'q))
  (k_with "compareOp NotIn str ref" => (k_here; (with_reducible show wpAny _ _ (compareOp _ (Value.str _ _) (Value.ref _)) _ _ _); k_dflt (refine' env_notin ?k1q ?k2q ?k3q ?k4q ?_; (case k1q => assumption); (case k2q => k_asm); (case k3q => (intro pq hpq; repeat (first | exact hpq | refine List.Mem.tail _ ?_))); (case k4q => assumption)); (try dsimp only [Option.isSome, Bool.not_true, Bool.not_false])))
  (k_with "subscriptTail Name Slice ref ref" => (k_here; (with_reducible show wpAny _ _ (subscriptTail _ (PySem.Expr.Slice _ _ none _) (Value.ref _) (Value.ref _)) _ _ _); k_dflt (refine' slice_one ?Fq ?Nq ?mq ?rq ?_ ?sq ?tq; (case Fq => k_asm); (case Nq => k_asm); (case mq => k_mem); (case rq => exact Nat.le_of_ble_eq_true rfl); (case sq => with_unfolding_all rfl); (case tq => intro _; with_unfolding_all rfl)); intro D'q h'q F'q N'q l1q; (try simp only [AllLt, and_true] at l1q); (try k_sweep)))
  (k_with "k_mem" => (assumption))
  (k_with "compareOp NotIn ref ref" => (k_here; (with_reducible show wpAny _ _ (compareOp _ (Value.ref _) (Value.ref _)) _ _ _); k_dflt (first
  | (refine' notin_ops true ?Nq ?cq ?h1q ?h2q ?h3q ?qq ?uq ?oq ?bq ?_; (case Nq => k_asm); (case cq => k_mem); (case h1q => k_mem); (case h2q => k_mem); (case h3q => k_mem); (case qq => k_mem); (case uq => ktr_units); (case oq => first | assumption | decide); (case bq => first | rfl | decide | (simp; done)))
  | (refine' notin_ops false ?Nq ?cq ?h1q ?h2q ?h3q ?qq ?uq ?oq ?bq ?_; (case Nq => k_asm); (case cq => k_mem); (case h1q => k_mem); (case h2q => k_mem); (case h3q => k_mem); (case qq => k_mem); (case uq => ktr_units); (case oq => first | assumption | decide); (case bq => first | rfl | decide | (simp; done))))))
  (k_with "call builtin:len" => (k_here; (with_reducible show wpAny _ _ (call (Value.builtin "len") [Value.ref _]) _ _ _); k_dflt (first
  | (refine len_lit 1 (by k_asm) (by k_mem) (by rfl) (by decide) ?_)
  | (refine len_lit 2 (by k_asm) (by k_mem) (by rfl) (by decide) ?_)
  | (refine len_lit 3 (by k_asm) (by k_mem) (by rfl) (by decide) ?_))))
  (k_with "subscriptTail" => (k_here; (with_reducible show wpAny _ _ (subscriptTail _ _ (Value.ref _) (Value.int 0 _)) _ _ _); k_dflt (refine' item_zero ?k1q ?k2q ?_ ?k6q; (case k1q => k_asm); (case k2q => k_mem); (case k6q => with_unfolding_all rfl))))
  (k_with "call ref" => (k_here; (with_reducible show wpAny _ _ (call (Value.ref 26) [Value.str _ _]) _ _ _); k_dflt (refine' WOf.use ?Cq ?Bq ?Fq ?Xq ?Nq ?Tq ?hkq ?hdq ?huq ?_; (case Cq => assumption); (case Bq => k_asm); (case Fq => k_asm); (case Xq => k_asm); (case Nq => k_asm); (case Tq => k_asm); (case hkq => first | exact rfl | assumption); (case hdq => ktr_room); (case huq => ktr_units)); intro tz'q h'q tk'q F'q N'q; (try dsimp only [optV]); (try k_sweep)))
  (k_with "call builtin:len" => (k_here; (with_reducible show wpAny _ _ (call (Value.builtin "len") [_]) _ _ _); k_dflt (refine len_leaf (by assumption) (by k_asm) (by k_asm) (by k_asm) (by (intro pq hpq; repeat (first | exact hpq | refine List.Mem.tail _ ?_))) ?_)))
  (k_with "subscriptTail" => (k_here; (with_reducible show wpAny _ _ (subscriptTail _ _ _ (Value.int 0 _)) _ _ _); k_dflt (refine item_leaf (by assumption) (by k_asm) (by k_asm) (by k_asm) (by (intro pq hpq; repeat (first | exact hpq | refine List.Mem.tail _ ?_))) ?_ (by intro _; with_unfolding_all rfl)); intro tt'q))
  (k_with "execs cons" => k_fold)
  (k_with "eval Call" => k_fold)
  exact trivial

theorem named_says {w : World} {dp un : Nat} {gd : Option (List Code)} {cn : Str} {cs : Scope} {a : Addr} {ccd : Value} {cl : List (Str × Addr)} {outer : List Env} {A₀ : Around} {base h₀ : Heap} {L : Addr} {m : Str → Option Value} {s : Shared} {loose : List Str} {mean : ExcName → Option Value} {mg mb : Str → Option Value}
    {Q E : Value → Shared → Prop} {news : List (Addr × Obj)} {v : Value} {de : Addr} {ρ : Str → Option Int} {σ : Str} {z : Int}
    (B : Below A₀ base outer h₀) (F : Fr h₀ L s.heap m) (X : (hd.heap_1 w.params).In h₀)
    (N : News h₀ L s.heap news) (T : Top view loose mean mg mb h₀) (hk : cs.kind = .function)
    (hT : Tm.In news v (.leaf σ)) (he : EnvIn w news de ρ) (hv : ρ σ = some z)
    (hd : dp + 1 < recursionLimit) (hu : un + 100 < cLine)
    (ret : ∀ t h' tk', Fr h₀ L h' m → News h₀ L h' news → Q (.int z t) { s with heap := h', toks := tk' }) :
    wpAny (model PySem.Challenge.rw_pq0025_01.row.prog w) (ktrTop dp un gd cn cs L a ccd cl outer) (call (.ref 136) [v, .ref de]) Q E s := by
  (revert X; k_fill; intro X)
  all_goals (
    refine wpAny_call ?_
    k_dflt ktr_enter
    (all_goals try k_fold)
    k_steps
    all_goals first | (refine' ret _ _ _ ?e1 (News.sub ?e2 ?e3); (case e1 => k_asm); (case e2 => k_asm); (case e3 => (intro p hp; repeat (first | exact hp | refine List.Mem.tail _ ?_)))))
theorem words_C7_2 : True := by
  w_top off
  (k_with "call ref" => (k_here; (with_reducible show wpAny _ _ (call (Value.ref 136) [_, Value.ref _]) _ _ _); k_dflt (refine' named_says ?Bq ?Fq ?Xq ?Nq ?Tq ?hkq ?hTq ?heq ?hvq ?hdq ?huq ?_; (case Bq => k_asm); (case Fq => k_asm); (case Xq => k_asm); (case Nq => k_asm); (case Tq => k_asm); (case hkq => first | exact rfl | assumption); (case hTq => (refine Tm.In.mono ?_ (by assumption); (intro pq hpq; repeat (first | exact hpq | refine List.Mem.tail _ ?_)))); (case heq => (refine EnvIn.mono ?_ (by assumption); (intro pq hpq; repeat (first | exact hpq | refine List.Mem.tail _ ?_)))); (case hvq => assumption); (case hdq => ktr_room); (case huq => ktr_units)); intro tz'q h'q tk'q F'q N'q; (try k_sweep)))
  (k_with "execs cons" => k_fold)
  (k_with "eval Call" => k_fold)
  exact trivial

theorem val_leaf (σ : Str) : ValSays (.leaf σ) := by
  intro w dp un gd cn cs a ccd cl outer A₀ base h₀ L m s loose mean mg mb Q E news v de rg ρ ρ' z n hb hw n0 n1 B F X N T hk hT he hr hv hd hu ret
  (revert X; k_fill; intro X)
  dsimp only [Tm.h] at hd hu
  obtain ⟨dx, t, tn, k, hr1, hr2⟩ := hr
  have N1 : News h₀ L s.heap ((rg, _) :: (dx, _) :: news) := News.sub N (List.forall_mem_cons.mpr ⟨hr1, List.forall_mem_cons.mpr ⟨hr2, fun _ h => h⟩⟩)
  clear N
  cases hv with
  | leaf hz =>
  obtain ⟨hok, hz' | ⟨hz', hC⟩⟩ := hw _ _ hz
  all_goals (
    refine wpAny_call ?_
    k_dflt (refine' code_defC ?k1 ?k2 ?k3 ?k4 ?k5 ?kA ?kF ?kK ?k6 ?k7 ?k8 ?k9 ?kB ?kD ?_ ?c2 ?c3 ?c4; (case kA => exact rfl); (case kF => exact rfl); (case kK => assumption); (case k1 => k_asm); (case k2 => k_asm); (case k3 => k_asm); (case k4 => k_asm); (case k5 => k_asm); (case k6 => k_is); (case k7 => k_is); (case k8 => (ktr_room)); (case k9 => exact BindsTo.of_eq rfl); (case kB => exact rfl); (case kD => decide +kernel); (case c2 => exact rfl); (case c3 => exact rfl); (case c4 => exact rfl); k_whole; intro g' L' h' tk' cells' FG' F' N' Y' B' X' T' l1; (try k_lt l1); k_cells Y'; (try simp only [List.cons_append, List.nil_append] at N'); (try dsimp only); (try k_fold))
    k_steps
    all_goals first | (refine' ret _ _ _ ?e1 (News.sub ?e2 ?e3); (case e1 => k_asm); (case e2 => k_asm); (case e3 => (intro p hp; repeat (first | exact hp | refine List.Mem.tail _ ?_)))))
end Mine
end

theorem Mine.reset_C8 : True := by
  w_top off
  k_with_none
  exact trivial
section
open PySem PySem.W PyProof.Rows PySem.Calls PyProof.V
set_option maxRecDepth 100000
set_option maxHeartbeats 8000000
namespace Mine
theorem ValSays.use {T0 : Tm} (C : ValSays T0) {w : World} {dp un : Nat} {gd : Option (List Code)} {cn : Str} {cs : Scope} {a : Addr} {ccd : Value} {cl : List (Str × Addr)} {outer : List Env} {A₀ : Around} {base h₀ : Heap} {L : Addr} {m : Str → Option Value} {s : Shared} {loose : List Str} {mean : ExcName → Option Value} {mg mb : Str → Option Value}
    {Q E : Value → Shared → Prop} {news : List (Addr × Obj)} {v : Value} {de rg : Addr} {ρ ρ' : Str → Option Int} {z n : Int}
    (_hb : ∀ σ z, ρ σ = some z → Builtin.Int.intBits z ≤ 300) (_hw : ∀ σ z, ρ' σ = some z → PyData.strOk σ = true ∧ (ρ σ = some z ∨ (ρ σ = none ∧ WOf σ (some z))))
    (_n0 : 0 < n) (_n1 : n ≤ 1000000007)
    (_B : Below A₀ base outer h₀) (_F : Fr h₀ L s.heap m) (_X : (hd.heap_1 w.params).In h₀)
    (_N : News h₀ L s.heap news) (_T : Top view loose mean mg mb h₀) (_hk : cs.kind = .function)
    (_hT : Tm.In news v T0) (_he : EnvIn w news de ρ) (_hr : RingIn w news rg n) (_hv : Ev ρ' T0 z)
    (_hd : dp + (T0.h + 1) < recursionLimit) (_hu : un + (24 * T0.h + 400) < cLine)
    (_ret : ∀ t h' tk', Fr h₀ L h' m → News h₀ L h' news → 0 ≤ Int.fmod z n → Int.fmod z n < 1000000007 → Q (.int (Int.fmod z n) t) { s with heap := h', toks := tk' }) :
    wpAny (model PySem.Challenge.rw_pq0025_01.row.prog w) (ktrTop dp un gd cn cs L a ccd cl outer) (call (.ref 169) [.ref rg, v, .ref de]) Q E s := C _hb _hw _n0 _n1 _B _F _X _N _T _hk _hT _he _hr _hv _hd _hu (fun t h' tk' a b => _ret t h' tk' a b (Int.fmod_nonneg_of_pos _ _n0) (Int.lt_of_lt_of_le (Int.fmod_lt_of_pos _ _n0) _n1))
theorem bits_small {z : Int} (h0 : 0 ≤ z) (h1 : z < 1000000007) : Builtin.Int.intBits z ≤ 200 := by
  have h2 : z < 2 ^ 40 := Int.lt_trans h1 (by decide)
  first
  | exact Nat.le_trans (bits_fmod_by (n := 133) (by decide) (by decide)) (by decide)
  | (have e : z = Int.fmod z (10 ^ 40) := (Int.fmod_eq_of_lt h0 (Int.lt_trans h1 (by decide))).symm
     rw [e]
     exact Nat.le_trans (bits_fmod_by (n := 133) (by decide) (by decide)) (by decide))
theorem fm_neg (a n : Int) (h : 0 < n) : Int.fmod (-(Int.fmod a n)) n = Int.fmod (0 - a) n := by
  simp only [Int.fmod_eq_emod_of_nonneg _ (Int.le_of_lt h), Int.zero_sub]
  have e : -(a % n) = -a + n * (a / n) := by
    have := Int.emod_add_mul_ediv a n
    generalize a / n = q at *
    generalize n * q = r at *
    omega
  rw [e, Int.add_mul_emod_self_left]
theorem fm_add (a b n : Int) (h : 0 < n) : Int.fmod (Int.fmod a n + Int.fmod b n) n = Int.fmod (a + b) n := by
  simp only [Int.fmod_eq_emod_of_nonneg _ (Int.le_of_lt h)]
  exact (Int.add_emod a b n).symm
theorem fm_mul (a b n : Int) (h : 0 < n) : Int.fmod (Int.fmod a n * Int.fmod b n) n = Int.fmod (a * b) n := by
  simp only [Int.fmod_eq_emod_of_nonneg _ (Int.le_of_lt h)]
  exact (Int.mul_emod a b n).symm
theorem words_C8_1 : True := by
  w_top off
  k_with_none
  (k_with "k_ne" => (refine neN ?_; (try dsimp only); first | assumption | exact Ne.symm (by assumption) | exact Nat.ne_of_gt (by assumption) | exact Nat.ne_of_lt (by assumption) | (refine' Nat.ne_of_gt ?_; iterate 6 (try (first | exact Nat.lt_succ_self _ | refine' Nat.lt_succ_of_lt ?_)); done) | (refine' Nat.ne_of_lt ?_; iterate 6 (try (first | exact Nat.lt_succ_self _ | refine' Nat.lt_succ_of_lt ?_)); done) | exact Nat.ne_of_gt (And.left (by assumption)) | exact Nat.ne_of_lt (And.left (by assumption)) | exact Nat.ne_of_gt (And.left (And.right (by assumption))) | exact Nat.ne_of_gt (And.right (by assumption)) | exact Nat.ne_of_lt (And.left (And.right (by assumption))) | exact Nat.ne_of_lt (And.right (by assumption)) | exact Nat.ne_of_gt (And.left (And.right (And.right (by assumption)))) | exact Nat.ne_of_gt (And.right (And.right (by assumption))) | exact Nat.ne_of_lt (And.left (And.right (And.right (by assumption)))) | exact Nat.ne_of_lt (And.right (And.right (by assumption))) | exact Nat.ne_of_gt (And.left (And.right (And.right (And.right (by assumption))))) | exact Nat.ne_of_gt (And.right (And.right (And.right (by assumption)))) | exact Nat.ne_of_lt (And.left (And.right (And.right (And.right (by assumption))))) | exact Nat.ne_of_lt (And.right (And.right (And.right (by assumption)))) | exact Nat.ne_of_gt (And.left (And.right (And.right (And.right (And.right (by assumption)))))) | exact Nat.ne_of_gt (And.right (And.right (And.right (And.right (by assumption))))) | exact Nat.ne_of_lt (And.left (And.right (And.right (And.right (And.right (by assumption)))))) | exact Nat.ne_of_lt (And.right (And.right (And.right (And.right (by assumption))))) | exact Nat.ne_of_gt (And.left (And.right (And.right (And.right (And.right (And.right (by assumption))))))) | exact Nat.ne_of_gt (And.right (And.right (And.right (And.right (And.right (by assumption)))))) | exact Nat.ne_of_lt (And.left (And.right (And.right (And.right (And.right (And.right (by assumption))))))) | exact Nat.ne_of_lt (And.right (And.right (And.right (And.right (And.right (by assumption)))))) | exact Nat.ne_of_gt (And.left (And.right (And.right (And.right (And.right (And.right (And.right (by assumption)))))))) | exact Nat.ne_of_gt (And.right (And.right (And.right (And.right (And.right (And.right (by assumption))))))) | exact Nat.ne_of_lt (And.left (And.right (And.right (And.right (And.right (And.right (And.right (by assumption)))))))) | exact Nat.ne_of_lt (And.right (And.right (And.right (And.right (And.right (And.right (by assumption)))))))))
  (k_with "execs cons" => (k_here; (with_reducible refine gen_toks ?_); intro tkq))
  (k_with "execs nil" => (k_here; (with_reducible refine gen_toks ?_); intro tkq))
  (k_with "subscriptTail Name Slice ref ref" => (k_here; (with_reducible show wpAny _ _ (subscriptTail _ (PySem.Expr.Slice _ _ none _) (Value.ref _) (Value.ref _)) _ _ _); k_dflt (refine' slice_one ?Fq ?Nq ?mq ?rq ?_ ?sq ?tq; (case Fq => k_asm); (case Nq => k_asm); (case mq => k_mem); (case rq => exact Nat.le_of_ble_eq_true rfl); (case sq => with_unfolding_all rfl); (case tq => intro _; with_unfolding_all rfl)); intro D'q h'q F'q N'q l1q; (try simp only [AllLt, and_true] at l1q); (try k_sweep)))
  (k_with "k_mem" => (assumption))
  (k_with "compareOp NotIn ref ref" => (k_here; (with_reducible show wpAny _ _ (compareOp _ (Value.ref _) (Value.ref _)) _ _ _); k_dflt (first
  | (refine' notin_ops true ?Nq ?cq ?h1q ?h2q ?h3q ?qq ?uq ?oq ?bq ?_; (case Nq => k_asm); (case cq => k_mem); (case h1q => k_mem); (case h2q => k_mem); (case h3q => k_mem); (case qq => k_mem); (case uq => ktr_units); (case oq => first | assumption | decide +kernel); (case bq => first | rfl | decide +kernel | (simp; done)))
  | (refine' notin_ops false ?Nq ?cq ?h1q ?h2q ?h3q ?qq ?uq ?oq ?bq ?_; (case Nq => k_asm); (case cq => k_mem); (case h1q => k_mem); (case h2q => k_mem); (case h3q => k_mem); (case qq => k_mem); (case uq => ktr_units); (case oq => first | assumption | decide +kernel); (case bq => first | rfl | decide +kernel | (simp; done))))))
  (k_with "call builtin:len" => (k_here; (with_reducible show wpAny _ _ (call (Value.builtin "len") [Value.ref _]) _ _ _); k_dflt (first
  | (refine len_lit 1 (by k_asm) (by k_mem) (by rfl) (by decide) ?_)
  | (refine len_lit 2 (by k_asm) (by k_mem) (by rfl) (by decide) ?_)
  | (refine len_lit 3 (by k_asm) (by k_mem) (by rfl) (by decide) ?_))))
  (k_with "subscriptTail" => (k_here; (with_reducible show wpAny _ _ (subscriptTail _ _ (Value.ref _) (Value.int 0 _)) _ _ _); k_dflt (refine' item_zero ?k1q ?k2q ?_ ?k6q; (case k1q => k_asm); (case k2q => k_mem); (case k6q => with_unfolding_all rfl))))
  (k_with "exec Assign cons ListComp" => (k_here; k_dflt (refine assign_comp_tup (F₀ := by k_asm) (by rfl) (by with_unfolding_all rfl) (by with_unfolding_all rfl) (by decide) (by rfl) (by decide) (by rfl) (by rfl) (by rfl) ?_)))
  (k_with "SrcT" => (k_here; k_dflt (refine SrcT.intro (by rfl) (by k_asm) (by k_asm) (by k_mem) (by first | size_fits | exact Nat.le_of_ble_eq_true rfl) ?_; intro g'q; lcg_lit)))
  (k_with "CompRest" => (with_unfolding_all first
  | (refine LCg.CompRest.succ ?_; intro v'q I'q oI'q C'q oC'q D'q m'q h'q tk'q E'q hv'q hC'q hx'q F'q N'q off'q ne'q; lcg_open hv'q)
  | refine LCg.CompRest.zero ?_))
  (k_with "binaryOp Mult int int" => (k_dflt (refine mul_int ?_ (mulOk_of_bits (bits_small (by assumption) (by assumption)) (bits_small (by assumption) (by assumption)) (by omega)))))
  (k_with "CompEnd" => (refine CompEnd.same (by k_asm) (by k_asm) (by assumption) (Or.inr ⟨_, by k_mem⟩) ?_))
  (k_with "call ref" => (k_here; (with_reducible show wpAny _ _ (call (Value.ref 169) [Value.ref _, _, Value.ref _]) _ _ _); k_dflt (first | (refine' ValSays.use ?Cq ?hbq ?hwq ?n0q ?n1q ?Bq ?Fq ?Xq ?Nq ?Tq ?hkq ?hTq ?heq ?hrq ?hvq ?hdq ?huq ?_; (case Bq => k_asm); (case Fq => k_asm); (case Xq => k_asm); (case Nq => k_asm); (case Tq => k_asm); (case hkq => first | exact rfl | assumption); (case hTq => (refine Tm.In.mono ?_ (by assumption); (intro pq hpq; repeat (first | exact hpq | refine List.Mem.tail _ ?_)))); (case heq => (refine EnvIn.mono ?_ (by assumption); (intro pq hpq; repeat (first | exact hpq | refine List.Mem.tail _ ?_)))); (case hrq => (refine RingIn.mono ?_ (by assumption); (intro pq hpq; repeat (first | exact hpq | refine List.Mem.tail _ ?_)))); (case Cq => assumption); (case hvq => assumption); (case hbq => assumption); (case hwq => assumption); (case n0q => assumption); (case n1q => assumption); (case hdq => ktr_room); (case huq => ktr_units)); intro tz'q h'q tk'q F'q N'q z0'q z1'q; (try k_sweep))))
  (k_with "execs cons" => k_fold)
  (k_with "eval Call" => k_fold)
  exact trivial

theorem val_neg (x : Tm) (ih : ValSays x) : ValSays (.neg x) := by
  intro w dp un gd cn cs a ccd cl outer A₀ base h₀ L m s loose mean mg mb Q E news v de rg ρ ρ' z n hb hw n0 n1 B F X N T hk hT he hr hv hd hu ret
  (revert X; k_fill; intro X)
  dsimp only [Tm.h] at hd hu
  have hrr := hr
  obtain ⟨dx, t, tn, k, hr1, hr2⟩ := hr
  have N1 : News h₀ L s.heap ((rg, _) :: (dx, _) :: news) := News.sub N (List.forall_mem_cons.mpr ⟨hr1, List.forall_mem_cons.mpr ⟨hr2, fun _ h => h⟩⟩)
  clear N
  have ret' : ∀ y t h' tk', y = Int.fmod z n → Fr h₀ L h' m → News h₀ L h' news → Q (.int y t) { s with heap := h', toks := tk' } := fun y t h' tk' e a b => by rw [e]; exact ret t h' tk' a b
  cases hv <;> cases hT
  all_goals (
    refine wpAny_call ?_
    k_dflt (refine' code_defC ?k1 ?k2 ?k3 ?k4 ?k5 ?kA ?kF ?kK ?k6 ?k7 ?k8 ?k9 ?kB ?kD ?_ ?c2 ?c3 ?c4; (case kA => exact rfl); (case kF => exact rfl); (case kK => assumption); (case k1 => k_asm); (case k2 => k_asm); (case k3 => k_asm); (case k4 => k_asm); (case k5 => k_asm); (case k6 => k_is); (case k7 => k_is); (case k8 => (ktr_room)); (case k9 => exact BindsTo.of_eq rfl); (case kB => exact rfl); (case kD => decide +kernel); (case c2 => exact rfl); (case c3 => exact rfl); (case c4 => exact rfl); k_whole; intro g' L' h' tk' cells' FG' F' N' Y' B' X' T' l1; (try k_lt l1); k_cells Y'; (try simp only [List.cons_append, List.nil_append] at N'); (try dsimp only); (try k_fold))
    k_steps
    all_goals first | (refine' ret' _ _ _ _ ?e0 ?e1 (News.sub ?e2 ?e3); (case e0 => first | exact fm_neg _ _ n0 | exact fm_add _ _ _ n0 | exact fm_mul _ _ _ n0); (case e1 => k_asm); (case e2 => k_asm); (case e3 => (intro p hp; repeat (first | exact hp | refine List.Mem.tail _ ?_)))))
theorem val_bin (o : Bool) (x y : Tm) (ih : ValSays x) (ih2 : ValSays y) : ValSays (.bin o x y) := by
  intro w dp un gd cn cs a ccd cl outer A₀ base h₀ L m s loose mean mg mb Q E news v de rg ρ ρ' z n hb hw n0 n1 B F X N T hk hT he hr hv hd hu ret
  (revert X; k_fill; intro X)
  dsimp only [Tm.h] at hd hu
  have hrr := hr
  obtain ⟨dx, t, tn, k, hr1, hr2⟩ := hr
  have N1 : News h₀ L s.heap ((rg, _) :: (dx, _) :: news) := News.sub N (List.forall_mem_cons.mpr ⟨hr1, List.forall_mem_cons.mpr ⟨hr2, fun _ h => h⟩⟩)
  clear N
  have ret' : ∀ y t h' tk', y = Int.fmod z n → Fr h₀ L h' m → News h₀ L h' news → Q (.int y t) { s with heap := h', toks := tk' } := fun y t h' tk' e a b => by rw [e]; exact ret t h' tk' a b
  cases hv <;> cases hT
  all_goals (
    refine wpAny_call ?_
    k_dflt (refine' code_defC ?k1 ?k2 ?k3 ?k4 ?k5 ?kA ?kF ?kK ?k6 ?k7 ?k8 ?k9 ?kB ?kD ?_ ?c2 ?c3 ?c4; (case kA => exact rfl); (case kF => exact rfl); (case kK => assumption); (case k1 => k_asm); (case k2 => k_asm); (case k3 => k_asm); (case k4 => k_asm); (case k5 => k_asm); (case k6 => k_is); (case k7 => k_is); (case k8 => (ktr_room)); (case k9 => exact BindsTo.of_eq rfl); (case kB => exact rfl); (case kD => decide +kernel); (case c2 => exact rfl); (case c3 => exact rfl); (case c4 => exact rfl); k_whole; intro g' L' h' tk' cells' FG' F' N' Y' B' X' T' l1; (try k_lt l1); k_cells Y'; (try simp only [List.cons_append, List.nil_append] at N'); (try dsimp only); (try k_fold))
    k_steps
    all_goals first | (refine' ret' _ _ _ _ ?e0 ?e1 (News.sub ?e2 ?e3); (case e0 => first | exact fm_neg _ _ n0 | exact fm_add _ _ _ n0 | exact fm_mul _ _ _ n0); (case e1 => k_asm); (case e2 => k_asm); (case e3 => (intro p hp; repeat (first | exact hp | refine List.Mem.tail _ ?_)))))
theorem val_says : ∀ T, ValSays T
  | .leaf s => val_leaf s
  | .neg x => val_neg x (val_says x)
  | .bin o x y => val_bin o x y (val_says x) (val_says y)
end Mine
end

theorem Mine.reset_D6 : True := by
  w_top off
  k_with_none
  exact trivial
section
open PySem PySem.W PyProof.Rows PySem.Calls PyProof.V
set_option maxRecDepth 100000
set_option maxHeartbeats 800000
namespace Mine
def valOf : Value → Option Int
  | .int z _ => some z
  | _ => none
def KvsAre (kvs : List (Str × Value)) (ρ : Str → Option Int) : Prop := (∀ p ∈ kvs, ∃ z t, p.2 = Value.int z t) ∧ ∀ σ, (valueAt kvs σ).bind valOf = ρ σ
theorem valueAt_cons (k : Str) (v : Value) (r : List (Str × Value)) (σ : Str) : valueAt ((k, v) :: r) σ = if k = σ then some v else valueAt r σ := by
  unfold valueAt
  rw [List.find?_cons]
  by_cases h : k = σ <;> simp [h]
theorem valueAt_app (a b : List (Str × Value)) (σ : Str) : valueAt (a ++ b) σ = (valueAt a σ).or (valueAt b σ) := by
  induction a with
  | nil => simp [valueAt]
  | cons p r ih =>
    obtain ⟨k, v⟩ := p
    rw [List.cons_append, valueAt_cons, valueAt_cons, ih]
    by_cases h : k = σ <;> simp [h]
theorem valueAt_map (kvs : List (Str × Value)) (k : Str) (v : Value) (σ : Str) : valueAt (kvs.map fun kv => if kv.1 = k then (kv.1, v) else kv) σ = if k = σ then (valueAt kvs σ).map fun _ => v else valueAt kvs σ := by
  induction kvs with
  | nil => simp [valueAt]
  | cons p r ih =>
    obtain ⟨k', v'⟩ := p
    rw [List.map_cons, valueAt_cons]
    by_cases h : k' = k
    · subst h
      simp only [if_true]
      rw [valueAt_cons, ih]
      by_cases h2 : k' = σ <;> simp [h2]
    · simp only [if_neg h]
      rw [valueAt_cons, ih]
      by_cases h2 : k' = σ
      · subst h2
        simp [Ne.symm h]
      · simp [h2]
theorem valueAt_stored (kvs : List (Str × Value)) (k : Str) (v : Value) (σ : Str) : valueAt (stored kvs k v) σ = if k = σ then some v else valueAt kvs σ := by
  unfold stored
  have e := valueAt_isSome_eq_any kvs k
  split
  · rename_i h
    rw [valueAt_map]
    by_cases h2 : k = σ
    · subst h2
      rw [h] at e
      obtain ⟨x, hx⟩ := Option.isSome_iff_exists.mp e
      simp [hx]
    · simp [h2]
  · rename_i h
    have h' : valueAt kvs k = none := by
      cases q : valueAt kvs k with
      | none => rfl
      | some x => rw [q] at e; exact absurd e.symm h
    rw [valueAt_app, valueAt_cons]
    by_cases h2 : k = σ
    · subst h2
      simp [h']
    · simp [h2, valueAt]
theorem KvsAre.nil : KvsAre [] (fun _ => none) := ⟨fun _ h => (nomatch h), fun _ => rfl⟩
theorem KvsAre.stored {kvs : List (Str × Value)} {ρ : Str → Option Int} (h : KvsAre kvs ρ) (k : Str) (z : Int) (t : Tok) : KvsAre (stored kvs k (.int z t)) (fun σ => if k = σ then some z else ρ σ) := by
  refine ⟨fun p hp => ?_, fun σ => ?_⟩
  · unfold PySem.stored at hp
    split at hp
    · obtain ⟨q, hq, rfl⟩ := List.mem_map.mp hp
      split
      · exact ⟨z, t, rfl⟩
      · exact h.1 q hq
    · rcases List.mem_append.mp hp with hp | hp
      · exact h.1 p hp
      · rw [List.mem_singleton.mp hp]; exact ⟨z, t, rfl⟩
  · rw [valueAt_stored]
    by_cases h2 : k = σ
    · simp [h2, valOf]
    · simp only [h2, if_false]; exact h.2 σ
theorem KvsAre.cons {kvs : List (Str × Value)} {ρ : Str → Option Int} (h : KvsAre kvs ρ) (k : Str) (z : Int) (t : Tok) : KvsAre ((k, .int z t) :: kvs) (fun σ => if k = σ then some z else ρ σ) := by
  refine ⟨fun p hp => ?_, fun σ => ?_⟩
  · rcases List.mem_cons.mp hp with rfl | hp
    · exact ⟨z, t, rfl⟩
    · exact h.1 p hp
  · rw [valueAt_cons]
    by_cases h2 : k = σ
    · simp [h2, valOf]
    · simp only [h2, if_false]; exact h.2 σ
theorem KvsAre.congr {kvs : List (Str × Value)} {ρ ρ' : Str → Option Int} (h : KvsAre kvs ρ) (e : ∀ σ, ρ σ = ρ' σ) : KvsAre kvs ρ' := ⟨h.1, fun σ => (h.2 σ).trans (e σ)⟩
theorem KvsAre.merged {ka : List (Str × Value)} {ρa : Str → Option Int} (h : KvsAre ka ρa) : ∀ {kb : List (Str × Value)} {ρb : Str → Option Int}, KvsAre kb ρb → (kb.map (·.1)).Nodup → KvsAre (merged ka kb) (fun σ => (ρb σ).or (ρa σ)) := by
  intro kb
  induction kb generalizing ka ρa with
  | nil =>
    intro ρb hb _
    refine h.congr fun σ => ?_
    have : ρb σ = none := (hb.2 σ).symm
    simp [this]
  | cons p r ih =>
    intro ρb hb hn
    obtain ⟨k, v⟩ := p
    obtain ⟨z, t, hv⟩ := hb.1 (k, v) (.head _)
    dsimp only at hv
    subst hv
    have hr : KvsAre r (fun σ => if k = σ then none else ρb σ) := by
      refine ⟨fun p hp => hb.1 p (.tail _ hp), fun σ => ?_⟩
      by_cases h2 : k = σ
      · subst h2
        simp only [if_true]
        rw [List.map_cons, List.nodup_cons] at hn
        rw [valueAt_none_of_not_mem hn.1]
        rfl
      · simp only [h2, if_false]
        have := hb.2 σ
        rw [valueAt_cons, if_neg h2] at this
        exact this
    rw [List.map_cons, List.nodup_cons] at hn
    have q := ih (h.stored k z t) hr hn.2
    refine KvsAre.congr (kvs := PySem.merged (PySem.stored ka k (.int z t)) r) q fun σ => ?_
    have hk := hb.2 σ
    rw [valueAt_cons] at hk
    by_cases h2 : k = σ
    · subst h2
      simp only [if_true] at hk ⊢
      rw [← hk]
      rfl
    · simp only [h2, if_false]
theorem KvsAre.flat {kvs : List (Str × Value)} {ρ : Str → Option Int} (h : KvsAre kvs ρ) : ∃ D, FlatPairs PyData.str kvs D ∧ ∀ σ, Spec.lookup (.str σ) D = (ρ σ).map PyData.int := by
  obtain ⟨h1, h2⟩ := h
  have key : ∀ kvs : List (Str × Value), (∀ p ∈ kvs, ∃ z t, p.2 = Value.int z t) → ∃ D, FlatPairs PyData.str kvs D ∧ ∀ σ, Spec.lookup (.str σ) D = ((valueAt kvs σ).bind valOf).map PyData.int := by
    intro kvs
    induction kvs with
    | nil => exact fun _ => ⟨[], .nil, fun _ => rfl⟩
    | cons p r ih =>
      intro hp
      obtain ⟨k, v⟩ := p
      obtain ⟨z, t, hv⟩ := hp (k, v) (.head _)
      dsimp only at hv
      subst hv
      obtain ⟨D, hD, hl⟩ := ih fun p hp' => hp p (.tail _ hp')
      refine ⟨(.str k, .int z) :: D, .cons (Flat.int z t) hD, fun σ => ?_⟩
      rw [valueAt_cons]
      unfold Spec.lookup
      rw [show Spec.same (.str k) (.str σ) = decide (k = σ) from PyProof.V.same_str k σ, hl σ]
      by_cases h2 : k = σ <;> simp [h2, valOf]
  obtain ⟨D, hD, hl⟩ := key kvs h1
  exact ⟨D, hD, fun σ => by rw [hl, h2]⟩
theorem KvsAre.env {w : World} {l : List (Addr × Obj)} {de : Addr} {oe : Obj} {kvs : List (Str × Value)} {ρ : Str → Option Int} (h : KvsAre kvs ρ) (hm : (de, oe) ∈ l) (lo : (de == sysModules) = false) (hd : oe.IsDictOf (strKind PySem.Challenge.rw_pq0025_01.row.prog w) kvs) : EnvIn w l de ρ := by
  obtain ⟨D, hD, hl⟩ := h.flat
  exact ⟨oe, kvs, D, hm, lo, hd, hD, hl⟩
inductive PairsL (l : List (Addr × Obj)) : List Value → List (Str × Value) → Prop
  | nil : PairsL l [] []
  | cons {T : Addr} {σ : Str} {tk : Tok} {x : Value} {ys : List Value} {ps : List (Str × Value)} : (T, tupO #[.str σ tk, x]) ∈ l → PairsL l ys ps → PairsL l (.ref T :: ys) ((σ, x) :: ps)
theorem PairsL.len {l : List (Addr × Obj)} : ∀ {ys : List Value} {ps : List (Str × Value)}, PairsL l ys ps → ps.length = ys.length
  | _, _, .nil => rfl
  | _, _, .cons _ r => congrArg (· + 1) r.len
theorem PairsL.mono {l l' : List (Addr × Obj)} (i : ∀ p ∈ l, p ∈ l') : ∀ {ys : List Value} {ps : List (Str × Value)}, PairsL l ys ps → PairsL l' ys ps
  | _, _, .nil => .nil
  | _, _, .cons h r => .cons (i _ h) (r.mono i)
theorem PairsL.app {l : List (Addr × Obj)} : ∀ {ys zs : List Value} {ps qs : List (Str × Value)}, PairsL l ys ps → PairsL l zs qs → PairsL l (ys ++ zs) (ps ++ qs)
  | _, _, _, _, .nil, h => h
  | _, _, _, _, .cons a r, h => .cons a (r.app h)
theorem PairsL.get {l : List (Addr × Obj)} : ∀ {ys : List Value} {ps : List (Str × Value)}, PairsL l ys ps → ∀ (j : Nat) (v : Value), ys[j]? = some v → ∃ (T : Addr) (σ : Str) (tk : Tok) (x : Value), v = Value.ref T ∧ ps[j]? = some (σ, x) ∧ (T, tupO #[.str σ tk, x]) ∈ l
  | _, _, .nil, _, _, h => by simp at h
  | _, _, .cons (T := T) (σ := σ) (tk := tk) (x := x) a _, 0, v, h => by
    have e : Value.ref T = v := by simpa using h
    exact ⟨T, σ, tk, x, e.symm, rfl, a⟩
  | _, _, .cons _ r, j + 1, v, h => by
    obtain ⟨T, σ, tk, x, h1, h2, h3⟩ := r.get j v (by simpa using h)
    exact ⟨T, σ, tk, x, h1, by simpa using h2, h3⟩
section
variable {prog : Program} {w : World} {A : Around} {E : Value → Shared → Prop} {s : Shared} {h₀ : Heap} {L : Addr} {m : Str → Option Value} {news : List (Addr × Obj)}
theorem dict_rule {D : Addr} {ys : List Value} {n : Nat} {ps : List (Str × Value)} {Q : Value → Shared → Prop} (hh : A.handled = none) (F : Fr h₀ L s.heap m) (N : News h₀ L s.heap news) (hbig : h₀.NoLimit) (hm : (D, listOf ys.toArray n) ∈ news) (hP : PairsL news ys ps) (hl : ys.length ≤ 100) (hn : (ps.map (·.1)).Nodup)
    (ret : ∀ d o h' tk, Fr h₀ L h' m → News h₀ L h' ((d, o) :: news) → (∀ q ∈ news, q.1 < d) → (d == sysModules) = false → o.IsDictOf (strKind prog w) ps → Q (.ref d) { s with heap := h', toks := tk }) : wpAny (model prog w) A (call (.type "dict") [.ref D]) Q E s := by
  refine dict_of_pairs (ps := ps) hh (N _ hm).1 rfl rfl rfl (by simpa using hP.len) (by simpa using hl) hn (fun j v hj => ?_) fun h' tk hD k => ?_
  · obtain ⟨T, σ, tk, x, e1, e2, e3⟩ := hP.get j v (by simpa using hj)
    exact ⟨T, σ, tk, x, e1, e2, _, (N _ e3).1, rfl, _, rfl⟩
  · obtain ⟨o, ho, hd⟩ := Heap.dictOf_iff.mp hD
    exact ret _ o h' tk (F.kept k) (N.kept_cons F k (Nat.le_refl _) ho) (fun q hq => Heap.lt_size (N q hq).1) (F.notModules (modules_low hbig)) hd
theorem star_rule {env : Env} {xa xb : PySem.Expr} {pos : Pos} {oa ob : Addr} {oA oB : Obj} {ka kb : List (Str × Value)} {Q : Value → Shared → Prop} (F : Fr h₀ L s.heap m) (N : News h₀ L s.heap news) (hbig : h₀.NoLimit)
    (ma : (oa, oA) ∈ news) (mb : (ob, oB) ∈ news) (hoa : (oa == sysModules) = false) (hob : (ob == sysModules) = false) (hda : oA.IsDictOf (strKind prog w) ka) (hdb : oB.IsDictOf (strKind prog w) kb) (hsz : ka.length + kb.length ≤ 100)
    (ea : ∀ h' (Q' : Value → Shared → Prop) (E' : Value → Shared → Prop), Fr h₀ L h' m → News h₀ L h' news → Q' (.ref oa) { s with heap := h' } → wpAny (model prog w) A (eval xa env) Q' E' { s with heap := h' })
    (eb : ∀ h' (Q' : Value → Shared → Prop) (E' : Value → Shared → Prop), Fr h₀ L h' m → News h₀ L h' news → Q' (.ref ob) { s with heap := h' } → wpAny (model prog w) A (eval xb env) Q' E' { s with heap := h' })
    (ret : ∀ d o h', Fr h₀ L h' m → News h₀ L h' ((d, o) :: news) → (∀ q ∈ news, q.1 < d) → (d == sysModules) = false → o.IsDictOf (strKind prog w) (merged (merged [] ka) kb) → Q (.ref d) { s with heap := h' }) :
    wpAny (model prog w) A (eval (.Dict [none, none] [xa, xb] pos) env) Q E s := by
  refine star_two hoa hob (Heap.dictOf_iff.mpr ⟨oA, (N _ ma).1, hda⟩) (Heap.dictOf_iff.mpr ⟨oB, (N _ mb).1, hdb⟩) hsz (fun h' Q' E' k hq => ea h' Q' E' (F.kept k) (fun p hp => ⟨k _ _ (N p hp).1, (N p hp).2⟩) hq) (fun h' Q' E' k hq => eb h' Q' E' (F.kept k) (fun p hp => ⟨k _ _ (N p hp).1, (N p hp).2⟩) hq) fun h' hD k => ?_
  obtain ⟨o, ho, hd⟩ := Heap.dictOf_iff.mp hD
  exact ret _ o h' (F.kept k) (N.kept_cons F k (Nat.le_refl _) ho) (fun q hq => Heap.lt_size (N q hq).1) (F.notModules (modules_low hbig)) hd
end
end Mine
end

theorem Mine.reset_X1 : True := by
  w_top off
  k_with_none
  exact trivial
section
open PySem PySem.W
set_option maxRecDepth 100000
set_option maxHeartbeats 8000000
namespace Mine
abbrev bmT : List Value := [.ref 52, .type "Exception", .type "BaseException", .type "object"]
abbrev tfObj : Obj := excClassObj (Str.ofString "TermFault") (Str.ofString "TermFault") 65 64 [.ref 52] bmT true [] [] false none none (some (.ref 56)) none (some (.str (Str.ofString "TermFault") 244)) (some (.str (Str.ofString "TermFault") 252)) (some (.bool true)) "Exception.__new__"
theorem tf_cls {w : World} {h : Heap} (X : (hd.heap_1 w.params).In h) : h.get? 65 = some tfObj := by
  have hR : PySem.Challenge.rw_pq0025_01 = PySem.Challenge.rw_pq0025_01 := rfl
  (revert X hR; k_fill; intro X hR)
  exact X 65 _ (by k_is)
section
variable {M : Model} {A : Around} {E : Value → Shared → Prop} {h : Heap} {g : Array GenState} {d : Drawn} {t : Nat} {os : OsState}
theorem tf_check_new {rest : List Value} {Q : Unit → Shared → Prop} (hC : h.get? 65 = some tfObj) (hq : Q () ⟨h, g, d, t, os⟩) :
    wpAny M A (checkBuiltinCall "Exception.__new__" ⟨.ref 65 :: rest, []⟩) Q E ⟨h, g, d, t, os⟩ := by
  have F := PySem.F.excBase_Exception
  have hcont : (Value.ref 65 :: bmT).contains (.type "Exception") = true := by decide +kernel
  have hstar := F.noStar
  simp only [checkBuiltinCall, F.newKind, F.newSplit, F.newRow]
  repeat (first | refine wpAny_loadPart_at hC ?_ | (refine wpAny_isSubtype_exc hC ?_; rw [hcont]) | refine wpAny_staticBase_exc hC ?_ | refine wpAny_madeBy_exc hC ?_ | simp only [bne_self_eq_false, Bool.false_eq_true, if_false] | wp_step)
  exact hq
end
section
variable {prog : Program} {w : World} {A : Around} {R : Result → Shared → Prop} {E : Value → Shared → Prop} {h : Heap} {g : Array GenState} {d : Drawn} {t : Nat} {os : OsState}
theorem tf_new {rest : List Value} (hC : h.get? 65 = some tfObj)
    (hq : R (.ok (.ret (.ref (h.objs.size + 1)))) ⟨(h.push { cls := .type "tuple", data := .seq rest.toArray }).push
      { cls := .ref 65, data := .fields #[.ref h.objs.size, .none, .none, .none, .bool false, .none] }, g, d, t, os⟩) (hrest : rest.length ≤ sizeLine) :
    codeAny (model prog w) A (.builtin "Exception.__new__" ⟨.ref 65 :: rest, []⟩) R ⟨h, g, d, t, os⟩ := by
  have F := PySem.F.excBase_Exception
  have hends := F.ends
  have hcB : (Value.ref 65 :: bmT).contains (.type "Exception") = true := by decide +kernel
  have hcA : (Value.ref 65 :: bmT).contains (.type "AttributeError") = false := by decide +kernel
  have hcN : (Value.ref 65 :: bmT).contains (.type "NameError") = false := by decide +kernel
  refine codeAny_builtinAt F.entry ?_
  unfold Builtin.«BaseException.__new__»
  refine wpAt_bind ?_
  show wpAt _ _ _ (stack >>= _) _ _ _
  refine wpAt_bind (wpAt_stack fun p below => wpAt_of_wpAny ?_)
  wp_walk
  refine wpAt_of_wpAny ?_
  rw [F.owner]
  repeat (first | with_reducible refine wpAny_madeHere_exc F.canon hC ?_ | with_reducible refine wpAny_loadPart_at hC ?_ | (with_reducible refine wpAny_isSubtype_exc hC ?_; first | rw [hcB] | rw [hcA] | rw [hcN]) | wp_step)
  show R _ _
  rw [Heap.size_push]
  exact hq
theorem tf_made {rest : List Value} {Q : Fin → Shared → Prop} (X : (hd.heap_1 w.params).In h)
    (hq : ∀ h' e, Heap.MadeExcOf h h' e (.ref 65) rest → (hd.heap_1 w.params).In h' →
      wpAny (model prog w) A (call (.ref 42) (.ref e :: rest)) (fun r s' => r = .none ∧ Q (.done (.ret (.ref e))) s') E ⟨h', g, d, t, os⟩) (hrest : rest.length ≤ sizeLine) :
    wpAny (model prog w) A (Builtin.«type.__call__» ⟨.ref 65 :: rest, []⟩) Q E ⟨h, g, d, t, os⟩ := by
  have F := PySem.F.excBase_Exception
  have hC := tf_cls X
  repeat (first | with_reducible refine wpAny_loadPart_at hC ?_ | with_reducible refine wpAny_madeBy_exc hC ?_ | wp_step)
  refine codeAny_call_builtin_code (Code.quiet_builtin _ F.quiet) (tf_check_new hC ?_)
  refine tf_new hC ?_ hrest
  show wpAny _ _ _ _ _ _
  have kp : ∀ b o, h.get? b = some o → ((h.push { cls := .type "tuple", data := .seq rest.toArray }).push { cls := .ref 65, data := .fields #[.ref h.objs.size, .none, .none, .none, .bool false, .none] }).get? b = some o :=
    fun b o hb => Heap.get?_push_of_some _ (Heap.get?_push_of_some _ hb)
  have X₁ := X.keeps kp
  have hC₁ := tf_cls X₁
  have hget : ((h.push { cls := .type "tuple", data := .seq rest.toArray }).push
      { cls := .ref 65, data := .fields #[.ref h.objs.size, .none, .none, .none, .bool false, .none] }).get? (h.objs.size + 1) = some
      { cls := .ref 65, data := .fields #[.ref h.objs.size, .none, .none, .none, .bool false, .none] } := by heap_get
  have hcC : (Value.ref 65 :: bmT).contains (.ref 65) = true := by decide +kernel
  have hl : Looks (model prog w) ((h.push { cls := .type "tuple", data := .seq rest.toArray }).push { cls := .ref 65, data := .fields #[.ref h.objs.size, .none, .none, .none, .bool false, .none] }) (typeLookup (.ref 65) "__init__") (some (.ref 42)) := by
    have hR : PySem.Challenge.rw_pq0025_01 = PySem.Challenge.rw_pq0025_01 := rfl
    (revert X₁ hR; k_fill; intro X₁ hR)
    exact looks_findIn X₁ (by k_is)
  have hf : Looks (model prog w) ((h.push { cls := .type "tuple", data := .seq rest.toArray }).push { cls := .ref 65, data := .fields #[.ref h.objs.size, .none, .none, .none, .bool false, .none] }) (typeOf (.ref 42)) (.type "function") := by
    have hR : PySem.Challenge.rw_pq0025_01 = PySem.Challenge.rw_pq0025_01 := rfl
    (revert X₁ hR; k_fill; intro X₁ hR)
    exact looks_typeIn X₁ (by k_is)
  unfold isInstance
  repeat (first | with_reducible refine wpAny_loadPart_at hget ?_ | (with_reducible refine wpAny_isSubtype_exc hC₁ ?_; rw [hcC]) | wp_step)
  show wpAny _ _ (typeLookup (.ref 65) _) _ _ _
  refine hl.here ?_
  refine wpAny_holding (wpAny_bind ?_)
  unfold bindSpecial
  refine wpAny_bind (hf.here ?_)
  rw [if_pos (by decide)]
  refine wpAny_pure (wpAny_bind (wpAny_mono (hq _ (h.objs.size + 1) ⟨kp, Heap.get?_none_of_le (Nat.le_succ _), h.objs.size, hget, Heap.get?_none_of_le (Nat.le_refl _), ?_⟩ X₁) (fun r s' hr => ?_) fun _ _ z => z))
  · exact Heap.get?_push_of_some _ (Heap.get?_push_at rfl rfl)
  · obtain ⟨rfl, hQ⟩ := hr
    wp_walk
    exact hQ
theorem tf_call {rest : List Value} {Q : Value → Shared → Prop} (X : (hd.heap_1 w.params).In h)
    (hq : ∀ h' e, Heap.MadeExcOf h h' e (.ref 65) rest → (hd.heap_1 w.params).In h' →
      wpAny (model prog w) (A.under (.builtin "type.__call__" ⟨.ref 65 :: rest, []⟩)) (call (.ref 42) (.ref e :: rest)) (fun r s' => r = .none ∧ Q (.ref e) s') E ⟨h', g, d, t, os⟩) (hrest : rest.length ≤ sizeLine) :
    wpAny (model prog w) A (call (.ref 65) rest) Q E ⟨h, g, d, t, os⟩ := by
  have hC := tf_cls X
  have f1 := tc_lookup
  have f2 := tc_bind (.ref 65)
  have hT : (⟨h, g, d, t, os⟩ : Shared).TypeIs (.ref 65) "type" := ⟨_, hC, rfl⟩
  refine wpAny_call (codeAny_of_tree ?_)
  show wpAny _ _ (callAny (.ref 65) _) _ _ _
  repeat (any_goals (first | assumption | with_reducible refine wpAny_loadPart_at hC ?_ | wp_step))
  refine ⟨rfl, ?_⟩
  refine codeAny_call_builtin_at (Code.quiet_builtin _ (by decide +kernel)) entry_typeCall (wpAny_check_type_call_sub hC (tf_made X (fun h' e hm X' => ?_) hrest))
  exact hq h' e hm X'
end
end Mine
end

theorem Mine.reset_X2 : True := by
  w_top off
  k_with_none
  exact trivial
section
open PySem PySem.W
set_option maxRecDepth 100000
set_option maxHeartbeats 800000
namespace Mine
theorem wd_slot : Slot "wrapper_descriptor" "__get__" "wrapper_descriptor.__get__" := .of (owner := "wrapper_descriptor") (n := "__get__") (by rw [typeLookup_type, builtinLookup_eq_fast]; kernel_rfl) (by decide +kernel) (by decide +kernel) (by decide +kernel)
  (by first | exact .inl (by decide +kernel) | exact .inr (by decide +kernel)) (by rw [isSubtype_type]; kernel_rfl)
theorem wd_entry : entryFor table "wrapper_descriptor.__get__" = some Builtin.«wrapper_descriptor.__get__» := entryFor_of_tree (by kernel_rfl)
theorem wd_args (a b c : Value) : argsOk "wrapper_descriptor.__get__" ⟨[a, b, c], []⟩ := by unfold argsOk; kernel_rfl
theorem ei_type : typeOf (.builtin "Exception.__init__") = pure (.type "wrapper_descriptor") := by kernel_rfl
section
variable {prog : Program} {w : World} {A : Around} {E : Value → Shared → Prop} {h : Heap} {g : Array GenState} {d : Drawn} {t : Nat} {os : OsState}
theorem wd_get {e : Addr} {oe : Obj} {Q : Fin → Shared → Prop} (hC : h.get? 65 = some tfObj) (he : h.get? e = some oe) (hcls : oe.cls = .ref 65)
    (hq : Q (.done (.ret (.ref h.objs.size))) ⟨h.push { cls := .type "method-wrapper", data := .fields #[.builtin "Exception.__init__", .ref e] }, g, d, t, os⟩) :
    wpAny (model prog w) A (Builtin.«wrapper_descriptor.__get__» ⟨[.builtin "Exception.__init__", .ref e, .ref 65], []⟩) Q E ⟨h, g, d, t, os⟩ := by
  have hcB : (Value.ref 65 :: bmT).contains (.type "Exception") = true := by decide +kernel
  have hs : ".".intercalate ("Exception.__init__".cutAt '.').dropLast = "Exception" := by decide +kernel
  unfold Builtin.«wrapper_descriptor.__get__»
  repeat (first
    | (with_reducible refine wpAny_loadPart_at he ?_; rw [hcls])
    | (rw [hs])
    | (with_reducible refine wpAny_isSubtype_exc hC ?_; rw [hcB])
    | (unfold newFields; refine wpAny_bind (wpAny_newObj_type ?_ (by size_fits)))
    | wp_step
    | dsimp only)
  all_goals exact hq
theorem sup_ga {so D x C : Addr} {l₀ l : List Value} {K : Frag} {name : Str} {i : String} {tk : Tok} {Q : Fin → Shared → Prop}
    (hso : h.get? so = some { cls := .type "super", dict := none, data := .fields #[.ref D, .ref x, .ref C], slots := #[] }) (hno : Looks (model prog w) h (opaqueClassAbove (.ref C)) none)
    (hC : Looks (model prog w) h (mroOf (.ref C)) l₀) (hl : (l₀.dropWhile (· != .ref D)).drop 1 = l) (X : K.In h)
    (hf : alongIn K name l = some (some (.builtin i))) (ht : typeOf (.builtin i) = pure (.type "wrapper_descriptor")) (hxC : x ≠ C) (hn : (name == ("__class__" : Str)) = false)
    (hget : wpAny (model prog w) A.in1 (Builtin.«wrapper_descriptor.__get__» ⟨[.builtin i, .ref x, .ref C], []⟩) (fun fin s' => ∃ v, fin = .done (.ret v) ∧ Q (.done (.ret v)) s') E ⟨h, g, d, t, os⟩) :
    wpAny (model prog w) A (Builtin.«super.__getattribute__» ⟨[.ref so, .str name tk], []⟩) Q E ⟨h, g, d, t, os⟩ := by
  have hlk := wd_slot.lookup
  have hne : (Value.ref x == Value.ref C) = false := by simp [hxC]
  have hTf : (⟨h, g, d, t, os⟩ : Shared).TypeIs (.builtin i) "wrapper_descriptor" := ht
  have hdt : ({ cls := .type "super", dict := none, data := .fields #[.ref D, .ref x, .ref C], slots := #[] } : Obj).data = .fields #[.ref D, .ref x, .ref C] := rfl
  have f0 : (#[.ref D, .ref x, .ref C] : Array Value)[0]? = some (.ref D) := rfl
  have f1 : (#[.ref D, .ref x, .ref C] : Array Value)[1]? = some (.ref x) := rfl
  have f2 : (#[.ref D, .ref x, .ref C] : Array Value)[2]? = some (.ref C) := rfl
  have hcall : wpAny (model prog w) A (call (.builtin "wrapper_descriptor.__get__") [.builtin i, .ref x, .ref C]) (fun v s' => Q (.done (.ret v)) s') E ⟨h, g, d, t, os⟩ := wpAny_call_entry wd_slot hTf wd_entry hget (wd_args _ _ _)
  unfold Builtin.«super.__getattribute__»
  repeat (first
    | (with_reducible refine wpAny_field hso hdt f0 ?_) | (with_reducible refine wpAny_field hso hdt f1 ?_) | (with_reducible refine wpAny_field hso hdt f2 ?_)
    | (with_reducible refine ks_wpAny_notOpaque hno ?_)
    | (with_reducible refine Looks.at hC ?_; rw [hl])
    | (refine ks_forIn_along X (fun _ _ => rfl) rfl ?_ hf)
    | (with_reducible refine wpAny_typeOf hTf ?_)
    | (with_reducible refine wpAny_mono hcall ?_ (fun _ _ z => z); intro _ _ _)
    | (simp only [hn, hne, Bool.or_false, Bool.false_eq_true, if_false])
    | wp_step
    | dsimp only)
  all_goals assumption
theorem sup_getMethod {so D x C : Addr} {l₀ l : List Value} {K : Frag} {name : Str} {i : String} {pl : Sem Bool} {s' : Shared} {v : Addr} {Q : Value × List Value → Shared → Prop}
    (hso : h.get? so = some { cls := .type "super", dict := none, data := .fields #[.ref D, .ref x, .ref C], slots := #[] }) (hno : Looks (model prog w) h (opaqueClassAbove (.ref C)) none)
    (hC : Looks (model prog w) h (mroOf (.ref C)) l₀) (hl : (l₀.dropWhile (· != .ref D)).drop 1 = l) (X : K.In h)
    (hf : alongIn K name l = some (some (.builtin i))) (ht : typeOf (.builtin i) = pure (.type "wrapper_descriptor")) (hxC : x ≠ C) (hn : (name == ("__class__" : Str)) = false)
    (hget : ∀ A E, wpAny (model prog w) A (Builtin.«wrapper_descriptor.__get__» ⟨[.builtin i, .ref x, .ref C], []⟩) (fun fin s₁ => fin = .done (.ret (.ref v)) ∧ s₁ = s') E ⟨h, g, d, t + 1, os⟩)
    (hq : Q (.ref v, []) s') : wpAny (model prog w) A (getMethod (.ref so) name pl) Q E ⟨h, g, d, t, os⟩ := by
  have hlk := F.ks_slot_super_ga.lookup
  have hcan := F.ks_canon_super_ga
  have hT : ∀ t', (⟨h, g, d, t', os⟩ : Shared).TypeIs (.ref so) "super" := fun _ => ⟨_, hso, rfl⟩
  unfold getMethod
  refine wpAny_bind (wpAny_specialOf (hT _) hlk ?_)
  show wpAny _ _ (if (Manifest.canonical "super.__getattribute__" != "object.__getattribute__") = true then _ else _) _ _ _
  rw [if_pos hcan]
  unfold getAttr getAttrBy
  refine wpAny_bind (wpAny_bind (wpAny_mkText (wpAny_holding (wpAny_bind (wpAny_typeOf (hT _) (wpAny_bind (wpAny_of_eq hlk ?_)))))))
  show wpAny _ _ (getAttrByItsOwn (.ref so) (.str name t) (.type "super") (.builtin "super.__getattribute__") true false) _ _ _
  unfold getAttrByItsOwn hookBefore callGetattribute boundAndCalled
  refine wpAny_bind (wpAny_of_eq (show (if onTheHeap (.type "super") then typeLookup (.type "super") "__getattr__" else pure none) = pure none from rfl) ?_)
  refine wpAny_bind (wpAny_attempt (wpAny_holding ?_))
  show wpAny _ _ (bindSpecial (.builtin "super.__getattribute__") (.ref so) >>= _) _ _ _
  refine wpAny_bind (wpAny_of_eq (F.ks_slot_super_ga.bind _) ?_)
  refine wpAny_mono (Q := fun u s₁ => u = .ref v ∧ s₁ = s') (E := fun _ _ => False)
    (wpAny_call_entry F.ks_slot_super_ga (hT _) F.ks_entry_super_ga (sup_ga hso hno hC hl X hf ht hxC hn (wpAny_mono (hget _ _) (fun fin s₁ hh => ?_) fun _ _ z => z)) (F.ks_gaArgs_super _ _)) (fun u s₁ hv => ?_) fun _ _ z => z.elim
  · obtain ⟨rfl, rfl⟩ := hh
    exact ⟨_, rfl, _, rfl, rfl, rfl⟩
  · obtain ⟨rfl, rfl⟩ := hv
    exact wpAny_pure (wpAny_pure hq)
end
abbrev mwObj (e : Addr) : Obj := { cls := .type "method-wrapper", data := .fields #[.builtin "Exception.__init__", .ref e] }
abbrev excObj (dd : Option Addr) (t : Addr) : Obj := { cls := .ref 65, dict := dd, data := .fields #[.ref t, .none, .none, .none, .bool false, .none] }
section
variable {prog : Program} {w : World} {A : Around} {E : Value → Shared → Prop} {s : Shared} {h₀ : Heap} {L : Addr} {m : Str → Option Value} {news : List (Addr × Obj)}
theorem exc_method {so e : Addr} {oe : Obj} {pl : Sem Bool} {Q : Value × List Value → Shared → Prop} (F : PyProof.Rows.Fr h₀ L s.heap m) (X₀ : (hd.heap_1 w.params).In h₀) (N : PyProof.Rows.News h₀ L s.heap news)
    (hso : (so, ks_superObj 52 e 65) ∈ news) (he : (e, oe) ∈ news) (hcls : oe.cls = .ref 65)
    (h : ∀ q h', PyProof.Rows.Fr h₀ L h' m → PyProof.Rows.News h₀ L h' ((q, mwObj e) :: news) → (∀ p ∈ news, p.1 < q) → Q (.ref q, []) { s with heap := h', toks := s.toks + 1 }) :
    wpAny (model prog w) A (getMethod (.ref so) (Str.ofString "__init__") pl) Q E s := by
  have X := X₀.keeps F.keep
  have hC := tf_cls X
  have hR : PySem.Challenge.rw_pq0025_01 = PySem.Challenge.rw_pq0025_01 := rfl
  have hmro : Looks (model prog w) s.heap (mroOf (.ref 65)) (.ref 65 :: bmT) := fun A Q E s' k q => by
    have := k _ _ hC
    obtain ⟨hh, g, d, t, os⟩ := s'
    exact wpAny_mroOf_exc this q
  have hne : e ≠ 65 := by
    rintro rfl
    have := (N _ he).2.2
    rw [tf_cls X₀] at this; cases this
  have hno : Looks (model prog w) s.heap (opaqueClassAbove (.ref 65)) none := by
    (revert X hR; k_fill; intro X hR)
    exact looks_opaque X (by k_is)
  have hf : alongIn (hd.heap_1 w.params) (Str.ofString "__init__") [.type "Exception", .type "BaseException", .type "object"] = some (some (.builtin "Exception.__init__")) := by kernel_rfl
  have hl : ((Value.ref 65 :: bmT).dropWhile (· != .ref 52)).drop 1 = [.type "Exception", .type "BaseException", .type "object"] := by kernel_rfl
  have hso' := (N _ hso).1
  have he' := (N _ he).1
  obtain ⟨hh, g, d, t, os⟩ := s
  refine sup_getMethod hso' hno hmro hl X hf ei_type hne (by decide) (fun A E => wd_get hC he' hcls ⟨rfl, rfl⟩) ?_
  obtain ⟨F', N', l'⟩ := ks_newsPush (s := ⟨hh, g, d, t, os⟩) (o := mwObj e) F N rfl (Heap.get?_push_at rfl rfl) (fun b o e => Heap.get?_push_of_some _ e)
  exact h _ _ F' N' l'
end
end Mine
end

theorem Mine.reset_X3 : True := by
  w_top off
  k_with_none
  exact trivial
section
open PySem PySem.W
set_option maxRecDepth 100000
set_option maxHeartbeats 800000
namespace Mine
section
variable {prog : Program} {w : World} {A : Around} {E : Value → Shared → Prop} {h : Heap} {g : Array GenState} {d : Drawn} {t : Nat} {os : OsState}
theorem check_bound {M : Model} {e : Addr} {oe : Obj} {rest : List Value} {Q : Unit → Shared → Prop} (hC : h.get? 65 = some tfObj) (he : h.get? e = some oe) (hcls : oe.cls = .ref 65) (hq : Q () ⟨h, g, d, t, os⟩) :
    wpAny M A (checkBoundCall "Exception.__init__" ⟨.ref e :: rest, []⟩) Q E ⟨h, g, d, t, os⟩ := by
  have F := PySem.F.excBase_Exception
  have hcB : (Value.ref 65 :: bmT).contains (.type "Exception") = true := by decide +kernel
  have hshort := F.noStar
  simp only [checkBoundCall, F.initKind, F.initRow]
  unfold Bind.checkArgs
  repeat (first | (with_reducible refine wpAny_loadPart_at he ?_; rw [hcls]) | with_reducible refine wpAny_loadPart_at hC ?_ | (with_reducible refine wpAny_isSubtype_exc hC ?_; rw [hcB]) | wp_step)
  refine wpAny_onRaise ?_
  rw [show ∀ (a b : String) (n : Nat), Bind.check ⟨.positional, "*", "Exception", .self, [⟨"args", .varPos, false⟩]⟩ a b n (List.map (fun x => x.fst) ({ pos := Value.ref e :: rest } : Args).kw) = pure () from
    fun a b n => check_star_args _ _ _ _ _ _]
  exact wpAny_pure hq
theorem mw_code {q e t0 : Addr} {dd : Option Addr} {v : Value} {R : Result → Shared → Prop} (hC : h.get? 65 = some tfObj) (hq : h.get? q = some (mwObj e)) (he : h.get? e = some (excObj dd t0))
    (h1 : R (.ok (.ret .none)) ⟨(h.push { cls := .type "tuple", data := .seq #[v] }).update e (Obj.mapFields (·.setIfInBounds 0 (.ref h.objs.size))), g, d, t, os⟩) :
    codeAny (model prog w) A (.call (.ref q) ⟨[v], []⟩) R ⟨h, g, d, t, os⟩ := by
  have F := PySem.F.excBase_Exception
  refine codeAny_of_tree ?_
  show wpAny _ A.in1 (callAny (.ref q) ⟨[v], []⟩) _ _ _
  unfold callAny
  refine wpAny_bind (wpAny_load hq ?_)
  show wpAny _ A.in1 (do checkBoundCall "Exception.__init__" ⟨.ref e :: [v], []⟩; again (.builtin "Exception.__init__" ⟨.ref e :: [v], []⟩)) _ _ _
  refine wpAny_bind (check_bound hC he rfl ?_)
  refine wpAny_pure ⟨Code.quiet_builtin _ (by decide +kernel), codeAny_builtin F.initEntry ?_⟩
  unfold Builtin.«BaseException.__init__»
  wp_walk
  exact h1
theorem exc_sa {e t0 : Addr} {name : Str} {tk : Tok} {v : Value} {Q : Fin → Shared → Prop} (hC : h.get? 65 = some tfObj) (he : h.get? e = some (excObj none t0))
    (hl : Looks (model prog w) h (typeLookup (.ref 65) name) none)
    (hq : ∀ h' tk' dx od, h.objs.size ≤ dx → h'.get? dx = some od → h'.get? e = some (excObj (some dx) t0) → (∀ b ob, b ≠ e → h.get? b = some ob → h'.get? b = some ob) → Q (.done (.ret .none)) ⟨h', g, d, tk', os⟩) :
    wpAny (model prog w) A (Builtin.«object.__setattr__» ⟨[.ref e, .str name tk, v], []⟩) Q E ⟨h, g, d, t, os⟩ := by
  have hpass := PySem.F.store_Exception.passes (.ref e)
  obtain ⟨o, ho⟩ : ∃ o, o = excObj none t0 := ⟨_, rfl⟩
  have hx : h.get? e = some o := by rw [ho]; exact he
  have hc : o.cls = .ref 65 := by rw [ho]
  have hdn : o.dict = none := by rw [ho]
  have hnc : ∀ c, o.data ≠ .cls c := fun c q => by rw [ho] at q; cases q
  unfold Builtin.«object.__setattr__»
  repeat (first | rw [refuse_eq] | (rw [refuseLoop_ref, refuseLoop_ref, hpass]) | (with_reducible refine wpAny_loadPart_at hx ?_; rw [hc]) | with_reducible refine wpAny_mroOf_exc hC ?_ | (with_reducible refine Looks.at hl ?_) | with_reducible refine wpAny_loadPart_at hC ?_ | wp_step)
  rw [hdn]
  first | rw [if_neg (by simp [typeHasDict])] | skip
  split
  · rename_i hcd
    cases hcd
  split
  · rename_i c hcd
    exact absurd hcd (hnc c)
  have hx₁ : (h.push { cls := .type "dict", data := .dict #[] }).get? e = some o := Heap.get?_push_of_some _ hx
  have hxs : e ≠ h.objs.size := Nat.ne_of_lt (Heap.lt_size hx)
  refine wpAny_bind (wpAny_alloc' ?_)
  refine wpAny_bind (wpAny_update' hx₁ ?_)
  refine wpAny_pure ?_
  have hgd : ((h.push { cls := .type "dict", data := .dict #[] }).update e fun o => { cls := o.cls, dict := some h.objs.size, data := o.data, slots := o.slots }).get? h.objs.size
      = some { cls := .type "dict", data := .dict #[] } :=
    (Heap.get?_update_ne _ _ _ _ hxs.symm).trans (Heap.get?_push_at rfl rfl)
  have hnd : ((h.push { cls := .type "dict", data := .dict #[] }).update e fun o => { cls := o.cls, dict := some h.objs.size, data := o.data, slots := o.slots }).Ns h.objs.size (fun _ => none) :=
    ⟨_, #[], _, hgd, rfl, fun e he => absurd he (by simp), fun _ => rfl⟩
  show wpAny _ _ (Builtin.ObjectAttr.storeInDict h.objs.size (.str name tk) name v) _ _ _
  unfold Builtin.ObjectAttr.storeInDict Builtin.ObjectAttr.newKeyGuard
  refine wpAny_bind (wpAny_pure (wpAny_bind (wpAny_nsSet1 (Heap.Ns1.of_empty hnd) fun h' hn' hs => ?_)))
  obtain ⟨oD, esD, epD, hoD, hdD, hcD⟩ := hn'.count (Within.cons name v Within.nil)
  refine wpAny_bind (wpAny_lookBehind hoD (by rw [hdD]; exact pastItsLine_dict (Nat.le_trans hcD (by rw [List.length_cons, List.length_nil, sizeLine_eq]; omega))) ?_)
  wp_walk
  refine hq h' _ h.objs.size oD (Nat.le_refl _) hoD ((hs.2 e hxs).trans ((Heap.get?_update_self _ hx₁ (by rw [ho]; rfl)).trans (by rw [ho]))) fun b ob hbx hb => ?_
  exact (hs.2 b (Nat.ne_of_lt (Heap.lt_size hb))).trans ((Heap.get?_update_ne _ _ _ _ hbx).trans (Heap.get?_push_of_some _ hb))
theorem exc_set {e t0 : Addr} {name : Str} {v : Value} {K : Frag} {Q : Unit → Shared → Prop} (X : K.In h) (hC : h.get? 65 = some tfObj) (he : h.get? e = some (excObj none t0))
    (hs : findIn K (.ref 65) "__setattr__" = some (some (.builtin "object.__setattr__"))) (hl : Looks (model prog w) h (typeLookup (.ref 65) name) none)
    (hq : ∀ h' tk' dx od, h.objs.size ≤ dx → h'.get? dx = some od → h'.get? e = some (excObj (some dx) t0) → (∀ b ob, b ≠ e → h.get? b = some ob → h'.get? b = some ob) → Q () ⟨h', g, d, tk', os⟩) :
    wpAny (model prog w) A (setAttr (.ref e) name v) Q E ⟨h, g, d, t, os⟩ := by
  have SF := PySem.F.store_object
  have I : InstAt h e (excObj none t0) 65 none := ⟨he, rfl, rfl, trivial⟩
  refine set_plain (s := ⟨h, g, d, t, os⟩) X I hs ?_
  have sub : Looks (model prog w) h (isInstance (.ref e) (.type "object")) true := I.type.andThen fun A Q E s' k q => by
    have := k _ _ hC
    obtain ⟨hh, g, d, t, os⟩ := s'
    refine wpAny_isSubtype_exc this ?_
    rw [show (Value.ref 65 :: bmT).contains (.type "object") = true from by decide +kernel]
    exact q
  refine codeAny_call_builtin SF.slot.plain SF.entry (@check_slot (model prog w) _ _ ⟨h, g, d, t + 1, os⟩ "object.__setattr__" "object" "__setattr__" (.ref e) [.str name t, v] [] _ SF.kind SF.split sub (SF.args (.ref e) (.str name t) v) ?_)
  exact exc_sa hC he hl fun h' tk' dx od a b c k => hq h' tk' dx od a b c k
end
end Mine
end

theorem Mine.reset_X4 : True := by
  w_top off
  k_with_none
  exact trivial
section
open PySem PySem.W PyProof.Rows
set_option maxRecDepth 100000
set_option maxHeartbeats 8000000
namespace Mine
theorem lt_of_all {l : List (Addr × Obj)} {t : Addr} (h : ∀ p ∈ l, p.1 < t) {p : Addr × Obj} (hp : p ∈ l) : p.1 < t := h p hp
theorem ne_of_all {l : List (Addr × Obj)} {t e : Addr} (h : ∀ p ∈ l, p.1 ≠ e ∧ p.1 ≠ t) {p : Addr × Obj} (hp : p ∈ l) : p.1 ≠ e ∧ p.1 ≠ t := h p hp
theorem upd_push {h₀ h h' : Heap} {L e t' : Addr} {m : Str → Option Value} {news : List (Addr × Obj)} {o o' ot : Obj} {f : Obj → List (Addr × Obj)} (F : Fr h₀ L h m) (N : News h₀ L h news) (U : UpdF e o news f)
    (k : ∀ b ob, b ≠ e → h.get? b = some ob → h'.get? b = some ob) (he : h'.get? e = some o') (hn : h.objs.size ≤ t') (ht : h'.get? t' = some ot) :
    Fr h₀ L h' m ∧ News h₀ L h' ((t', ot) :: f o') ∧ ∀ p ∈ news, p.1 < t' := by
  obtain ⟨pre, post, rfl, hf, a1, a2⟩ := U.split
  have he0 := N (e, o) (by simp)
  obtain ⟨oL, es, ep, hL, r⟩ := F.ns
  have hlt : ∀ p ∈ pre ++ (e, o) :: post, p.1 < t' := fun p hp => Nat.lt_of_lt_of_le (Heap.lt_size (N p hp).1) hn
  refine ⟨⟨⟨oL, es, ep, k _ _ (Ne.symm he0.2.1) hL, r⟩, fun b ob q => k _ _ (fun z => by rw [z, he0.2.2] at q; cases q) (F.keep b ob q), F.above⟩, fun p hp => ?_, hlt⟩
  rcases List.mem_cons.mp hp with rfl | hp
  · refine ⟨ht, Nat.ne_of_gt (Nat.lt_of_lt_of_le (Heap.lt_size hL) hn), ?_⟩
    cases z : h₀.get? t' with
    | none => rfl
    | some ob => exact absurd (Nat.lt_of_lt_of_le (Heap.lt_size (F.keep _ _ z)) hn) (Nat.lt_irrefl _)
  · rw [hf] at hp
    rcases List.mem_append.mp hp with q | q
    · exact ⟨k _ _ (a1 p q) (N p (List.mem_append_left _ q)).1, (N p (List.mem_append_left _ q)).2⟩
    rcases List.mem_cons.mp q with rfl | q
    · exact ⟨he, he0.2⟩
    · have := N p (by simp [q])
      exact ⟨k _ _ (a2 p q) this.1, this.2⟩
section
variable {prog : Program} {w : World} {A : Around} {E : Value → Shared → Prop} {s : Shared} {h₀ : Heap} {L e t0 : Addr} {m : Str → Option Value} {news : List (Addr × Obj)} {f : Obj → List (Addr × Obj)}
theorem mw_say {q : Addr} {v : Value} {Q : Value → Shared → Prop} (F : Fr h₀ L s.heap m) (X₀ : (hd.heap_1 w.params).In h₀) (N : News h₀ L s.heap news) (hq : (q, mwObj e) ∈ news) (U : UpdF e (excObj none t0) news f)
    (h : ∀ t' h', Fr h₀ L h' m → News h₀ L h' ((t', tupO #[v]) :: f (excObj none t')) → (∀ p ∈ news, p.1 < t') → Q .none { s with heap := h' }) :
    wpAny (model prog w) A (call (.ref q) [v]) Q E s := by
  have hm : (e, excObj none t0) ∈ news := by obtain ⟨pre, post, rfl, _⟩ := U.split; simp
  have he := (N _ hm).1
  have hlt := Heap.lt_size he
  have hC := tf_cls (X₀.keeps F.keep)
  have hq' := (N _ hq).1
  obtain ⟨hh, g, d, t, os⟩ := s
  refine wpAny_call (mw_code hC hq' he ?_)
  have he1 : ((hh.push { cls := .type "tuple", data := .seq #[v] }).update e (Obj.mapFields (·.setIfInBounds 0 (.ref hh.objs.size)))).get? e = some (excObj none hh.objs.size) :=
    Heap.get?_update_self _ (Heap.get?_push_of_some _ he) rfl
  obtain ⟨F', N', l⟩ := upd_push (h' := (hh.push { cls := .type "tuple", data := .seq #[v] }).update e (Obj.mapFields (·.setIfInBounds 0 (.ref hh.objs.size)))) (t' := hh.objs.size) (ot := tupO #[v]) F N U
    (fun b ob hb q => (Heap.get?_update_ne _ _ _ _ hb).trans (Heap.get?_push_of_some _ q)) he1 (Nat.le_refl _) ((Heap.get?_update_ne _ _ _ _ (Nat.ne_of_gt hlt)).trans (Heap.get?_push_at rfl rfl))
  exact h _ _ F' N' l
theorem exc_setL {v : Value} {Q : Unit → Shared → Prop} (F : Fr h₀ L s.heap m) (X₀ : (hd.heap_1 w.params).In h₀) (N : News h₀ L s.heap news) (U : UpdF e (excObj none t0) news f)
    (h : ∀ dx od h' tk', Fr h₀ L h' m → News h₀ L h' ((dx, od) :: f (excObj (some dx) t0)) → (∀ p ∈ news, p.1 < dx) → Q () { s with heap := h', toks := tk' }) :
    wpAny (model prog w) A (setAttr (.ref e) (Str.ofString "what") v) Q E s := by
  have hm : (e, excObj none t0) ∈ news := by obtain ⟨pre, post, rfl, _⟩ := U.split; simp
  have he := (N _ hm).1
  have X := X₀.keeps F.keep
  have hC := tf_cls X
  have hR : PySem.Challenge.rw_pq0025_01 = PySem.Challenge.rw_pq0025_01 := rfl
  have hs : findIn (hd.heap_1 w.params) (.ref 65) "__setattr__" = some (some (.builtin "object.__setattr__")) := by
    (revert X hR; k_fill; intro X hR)
    k_is
  have hl : Looks (model prog w) s.heap (typeLookup (.ref 65) (Str.ofString "what")) none := by
    (revert X hR; k_fill; intro X hR)
    exact looks_findIn X (by k_is)
  obtain ⟨hh, g, d, t, os⟩ := s
  refine exc_set X hC he hs hl fun h' tk' dx od a1 a2 a3 k => ?_
  obtain ⟨F', N', l⟩ := upd_push F N U k a3 a1 a2
  exact h _ _ _ _ F' N' l
end
theorem words_X4_1 : True := by
  w_top off
  k_with_none
  (k_with "k_ne" => (refine neN ?_; (try dsimp only); first | assumption | exact Ne.symm (by assumption) | exact Nat.ne_of_gt (by assumption) | exact Nat.ne_of_lt (by assumption) | (refine' Nat.ne_of_gt ?_; iterate 6 (try (first | exact Nat.lt_succ_self _ | refine' Nat.lt_succ_of_lt ?_)); done) | (refine' Nat.ne_of_lt ?_; iterate 6 (try (first | exact Nat.lt_succ_self _ | refine' Nat.lt_succ_of_lt ?_)); done) | exact Nat.ne_of_gt (And.left (by assumption)) | exact Nat.ne_of_lt (And.left (by assumption)) | exact Nat.ne_of_gt (And.left (And.right (by assumption))) | exact Nat.ne_of_gt (And.right (by assumption)) | exact Nat.ne_of_lt (And.left (And.right (by assumption))) | exact Nat.ne_of_lt (And.right (by assumption)) | exact Nat.ne_of_gt (And.left (And.right (And.right (by assumption)))) | exact Nat.ne_of_gt (And.right (And.right (by assumption))) | exact Nat.ne_of_lt (And.left (And.right (And.right (by assumption)))) | exact Nat.ne_of_lt (And.right (And.right (by assumption))) | exact Nat.ne_of_gt (And.left (And.right (And.right (And.right (by assumption))))) | exact Nat.ne_of_gt (And.right (And.right (And.right (by assumption)))) | exact Nat.ne_of_lt (And.left (And.right (And.right (And.right (by assumption))))) | exact Nat.ne_of_lt (And.right (And.right (And.right (by assumption)))) | exact Nat.ne_of_gt (And.left (And.right (And.right (And.right (And.right (by assumption)))))) | exact Nat.ne_of_gt (And.right (And.right (And.right (And.right (by assumption))))) | exact Nat.ne_of_lt (And.left (And.right (And.right (And.right (And.right (by assumption)))))) | exact Nat.ne_of_lt (And.right (And.right (And.right (And.right (by assumption))))) | exact Nat.ne_of_gt (And.left (And.right (And.right (And.right (And.right (And.right (by assumption))))))) | exact Nat.ne_of_gt (And.right (And.right (And.right (And.right (And.right (by assumption)))))) | exact Nat.ne_of_lt (And.left (And.right (And.right (And.right (And.right (And.right (by assumption))))))) | exact Nat.ne_of_lt (And.right (And.right (And.right (And.right (And.right (by assumption)))))) | exact Nat.ne_of_gt (And.left (And.right (And.right (And.right (And.right (And.right (And.right (by assumption)))))))) | exact Nat.ne_of_gt (And.right (And.right (And.right (And.right (And.right (And.right (by assumption))))))) | exact Nat.ne_of_lt (And.left (And.right (And.right (And.right (And.right (And.right (And.right (by assumption)))))))) | exact Nat.ne_of_lt (And.right (And.right (And.right (And.right (And.right (And.right (by assumption)))))))))
  (k_with "getMethod ref" => (k_here; k_dflt (refine' exc_method ?k1q ?k2q ?k3q ?k4q ?k5q ?k6q ?_; (case k1q => k_asm); (case k2q => k_asm); (case k3q => k_asm); (case k4q => k_mem); (case k5q => k_mem); (case k6q => exact rfl); intro q'q h'q F'q N'q l1q; (try k_lt l1q)); (try dsimp only)))
  (k_with "call ref" => (k_here; k_dflt (refine' mw_say ?k1q ?k2q ?k3q ?k4q ?k5q ?_; (case k1q => k_asm); (case k2q => k_asm); (case k3q => k_asm); (case k4q => k_mem); (case k5q => k_updF); intro t'q h'q F'q N'q l1q; have l9q := l1q; (try k_lt l1q); (try dsimp only at N'q); (try k_sweep))))
  (k_with "setAttr ref" => (k_here; k_dflt (refine' exc_setL ?k1q ?k2q ?k3q ?k5q ?_; (case k1q => k_asm); (case k2q => k_asm); (case k3q => k_asm); (case k5q => k_updF); intro dx'q od'q h'q tk'q F'q N'q l1q; (try k_lt l1q); (try dsimp only at N'q); (try k_sweep))))
  (k_with "k_all" => (assumption))
  (k_with "execs cons" => (k_here; (with_reducible refine gen_toks ?_); intro tkq))
  (k_with "execs nil" => (k_here; (with_reducible refine gen_toks ?_); intro tkq))
  exact trivial
def MwP (q x : Addr) (h : Heap) : Prop := h.get? q = some (mwObj x)
theorem callWith_mw {M : Model} {A : Around} {E : Value → Shared → Prop} {s : Shared} {env : Env} {pos : Pos} {first : List Value} {Q : Value → Shared → Prop} {h₀ : Heap} {L q x : Addr} {news : List (Addr × Obj)} {e : PySem.Expr} {rest : List PySem.Expr} (_N : News h₀ L s.heap news) (_q : (q, mwObj x) ∈ news)
    (h : wpAny M A (spliced (backTo pos (starEach (e :: rest) env))) (fun vs s₁ => MwP q x s₁.heap ∧ wpAny M A (call (.ref q) (first ++ vs)) Q E s₁) E s)
    (he : starEach (e :: rest) env = (false, eval e env) :: starEach rest env := by rfl) (hplain : (backTo pos (starEach rest env)).any (·.1) = false := by rfl) :
    wpAny M A (callWith pos (.ref q) first (backTo pos (starEach (e :: rest) env)) []) Q E s := by
  rw [he] at h ⊢
  exact callWith_of (P := MwP q x) (by show ((false || (backTo pos (starEach rest env)).any (·.1)) || false) = false; rw [hplain]; rfl)
    (fun h hq => ⟨.machine, .inr (.inl rfl), (Looks.ld (part := none) hq).andThen .now⟩) (PySem.Calls.evalArgs_plain h)
theorem mwP {h₀ : Heap} {L : Addr} {h : Heap} {news : List (Addr × Obj)} {q x : Addr} (N : News h₀ L h news) (hq : (q, mwObj x) ∈ news) : MwP q x h := (N _ hq).1
theorem words_X4_2 : True := by
  w_top off
  (k_with "callWith ref" => (k_here; k_dflt (refine' callWith_mw ?k1q ?k2q ?_; (case k1q => k_asm); (case k2q => k_mem); k_whole)))
  (k_with "And" => ((with_reducible show MwP _ _ _ ∧ _); (refine' ⟨mwP ?Nq ?qq, ?_⟩; (case Nq => k_asm); (case qq => k_mem)); try dsimp only [List.nil_append, List.cons_append]))
  exact trivial
theorem exc_inst {h₀ h : Heap} {L e t0 : Addr} {news : List (Addr × Obj)} (N : News h₀ L h news) (hm : (e, excObj none t0) ∈ news) : InstAt h e (excObj none t0) 65 none := ⟨(N _ hm).1, rfl, rfl, trivial⟩
theorem words_X4_3 : True := by
  w_top off
  (k_with "wpAt" => (ks_step "attributeBase Call"; k_here; k_dflt (refine ks_node (by k_asm) (by k_asm) (by k_asm) (by k_asm) (by k_is) (by rfl) (by rfl) (exc_inst (by k_asm) (by k_mem)) (by k_is) (by rfl) (by first | rfl | decide +kernel) (by k_is) (by k_is) (by k_is) (by k_is) (by decide) (by rfl) (by rfl) (by rfl) (by rfl) (by decide +kernel) (by first | boot_by_name | rfl | kernel_rfl) ?_; intro so'q h'q F'q N'q l1q; (try k_lt l1q))))
  exact trivial
theorem tf_says {w : World} {dp un : Nat} {gd : Option (List Code)} {cn : Str} {cs : Scope} {a : Addr} {ccd : Value} {cl : List (Str × Addr)} {outer : List Env} {A₀ : Around} {base h₀ : Heap} {L : Addr} {m : Str → Option Value} {s : Shared} {loose : List Str} {mean : ExcName → Option Value} {mg mb : Str → Option Value}
    {Q E : Value → Shared → Prop} {news : List (Addr × Obj)} {msg : Str} {t : Tok}
    (B : Below A₀ base outer h₀) (F : Fr h₀ L s.heap m) (X : (hd.heap_1 w.params).In h₀)
    (N : News h₀ L s.heap news) (T : Top view loose mean mg mb h₀) (hk : cs.kind = .function)
    (hd : dp + 4 < recursionLimit) (hu : un + 300 < cLine)
    (ret : ∀ e t2 dx h' tk', Fr h₀ L h' m → News h₀ L h' ((e, excObj (some dx) t2) :: (t2, tupO #[.str msg t]) :: news) → (∀ p ∈ news, p.1 ≠ e ∧ p.1 ≠ t2) → Q (.ref e) { s with heap := h', toks := tk' }) :
    wpAny (model PySem.Challenge.rw_pq0025_01.row.prog w) (ktrTop dp un gd cn cs L a ccd cl outer) (call (.ref 65) [.str msg t]) Q E s := by
  (revert X; k_fill; intro X)
  have X1 := X.keeps F.keep
  obtain ⟨hh, g, d, tk, os⟩ := s
  refine tf_call X1 (fun h' e M _ => ?_) (by show 1 ≤ sizeLine; rw [sizeLine_eq]; decide)
  obtain ⟨t0, he, ht0, ht⟩ := M.there
  have fresh : ∀ b, hh.get? b = none → h₀.get? b = none := fun b hb => by
    cases q : h₀.get? b with
    | none => rfl
    | some o => rw [F.keep _ _ q] at hb; cases hb
  have neL : ∀ b, hh.get? b = none → b ≠ L := fun b hb q => by obtain ⟨oL, _, _, hL, _⟩ := F.ns; rw [q, hL] at hb; cases hb
  have F' : Fr h₀ L h' m := F.keeps M.keeps
  have N' : News h₀ L h' ((e, excObj none t0) :: (t0, tupO #[.str msg t]) :: news) := by
    intro p hp
    rcases List.mem_cons.mp hp with rfl | hp
    · exact ⟨he, neL _ M.new, fresh _ M.new⟩
    rcases List.mem_cons.mp hp with rfl | hp
    · exact ⟨ht, neL _ ht0, fresh _ ht0⟩
    · exact ⟨M.keeps _ _ (N p hp).1, (N p hp).2⟩
  have ne1 : t0 ≠ e := fun q => by rw [← q, ht] at he; cases he
  have hne : ∀ p ∈ (t0, tupO #[.str msg t]) :: news, p.1 ≠ e := by
    intro p hp
    rcases List.mem_cons.mp hp with rfl | hp
    · exact ne1
    · intro q
      have := (N p hp).1
      rw [q, M.new] at this; cases this
  clear fresh neL he ht ht0 M N F
  refine wpAny_call ?_
  k_dflt (refine' ks_code_super ?k1 ?k2 ?k3 ?k4 ?k5 ?kA ?kF ?kK ?k6 ?k7 ?k8 ?k9 ?kB ?_ ?c1 ?c2 ?c3 ?c4; (case kA => exact rfl); (case kF => exact rfl); (case kK => exact hk); (case k1 => k_asm); (case k2 => k_asm); (case k3 => k_asm); (case k4 => k_asm); (case k5 => k_asm); (case k6 => k_is); (case k7 => k_is); (case k8 => ktr_room); (case k9 => exact BindsTo.of_eq rfl); (case kB => exact locs rfl); (case c1 => decide); (case c2 => exact rfl); (case c3 => exact rfl); (case c4 => exact rfl); intro g' L' h' FG' F' N' B' X' T' l1; (try k_lt l1); (try dsimp only); (try k_lift B'))
  (all_goals try k_fold)
  k_steps
  all_goals (first | (refine' mwP ?N ?q; (case N => k_asm); (case q => k_mem)) | (refine' ret _ _ _ _ _ ?e1 (News.sub ?e2 ?e3) ?e4; (case e1 => k_asm); (case e2 => k_asm); (case e3 => (refine' List.forall_mem_cons.mpr ⟨?a, List.forall_mem_cons.mpr ⟨?b, ?c⟩⟩; (case a => k_mem); (case b => k_mem); (case c => (intro p hp; repeat (first | exact hp | refine List.Mem.tail _ ?_))))); (case e4 => (intro p hp; refine ⟨hne p (.tail _ hp), Nat.ne_of_lt (lt_of_all (by assumption) ?_)⟩; (repeat (first | exact hp | refine List.Mem.tail _ ?_))))))
end Mine
end

theorem Mine.reset_X5 : True := by
  w_top off
  k_with_none
  exact trivial
section
open PySem PySem.W PyProof.Rows PySem.Calls
set_option maxRecDepth 100000
set_option maxHeartbeats 8000000
namespace Mine
theorem frames_mem {env : Env} {outer : List Env} {L b : Addr} (hf : env.frame = some L) (hm : b ∈ (env :: outer).filterMap (·.frame)) : b = L ∨ b ∈ outer.filterMap (·.frame) := by
  obtain ⟨ev, he, hb⟩ := List.mem_filterMap.mp hm
  rcases List.mem_cons.mp he with rfl | he
  · exact .inl (Option.some.inj (hb.symm.trans hf))
  · exact .inr (List.mem_filterMap.mpr ⟨ev, he, hb⟩)
section
variable {M : Model} {A : Around} {E : Value → Shared → Prop} {s' : Shared} {base g g₂ h : Heap} {outer : List Env} {L e t : Addr} {m : Str → Option Value} {env : Env} {Q : Unit → Shared → Prop} {news news' : List (Addr × Obj)}
theorem leave_tf {dd : Option Addr} {vs : List Value} (K : Below A base outer g) (F : Fr g L s'.heap m) (N : News g L s'.heap news) (hf : env.frame = some L) (hk : env.scope.kind = .function)
    (he : (e, excObj dd t) ∈ news) (ht : (t, tupO vs.toArray) ∈ news) (sub : ∀ p ∈ news', p ∈ news ∧ p.1 ≠ e ∧ p.1 ≠ t)
    (hQ : ∀ h', RaisedS base g outer e (.ref 65) t vs news' h' → g.UpToSlots h' → Q () { s' with heap := h' }) :
    wpAny M (A.deeper env) (leaving env (.ref e)) Q E s' := by
  have K' := pushX (env := env) K F hf hk
  have hin : ∀ ev ∈ (env :: outer), ∀ b, ev.frame = some b → b ∈ e :: t :: (env :: outer).filterMap (·.frame) := fun ev hev b hb => .tail _ (.tail _ (List.mem_filterMap.mpr ⟨ev, hev, hb⟩))
  have fr : ∀ p ∈ news, base.get? p.1 = none := fun p hp => fresh_of_stays K.stays (N p hp).2.2
  have st : base.StaysIn (hideAll s'.heap (e :: t :: (env :: outer).filterMap (·.frame))) := fun b o q => hideAll_get _ (K'.stays b o q) fun hm => by
    rcases List.mem_cons.mp hm with rfl | hm
    · rw [fr _ he] at q; cases q
    rcases List.mem_cons.mp hm with rfl | hm
    · rw [fr _ ht] at q; cases q
    · rw [(K'.frames.mem hm).1] at q; cases q
  have sg : ∀ b o, g.get? b = some o → b ∉ outer.filterMap (·.frame) → (hideAll s'.heap (e :: t :: (env :: outer).filterMap (·.frame))).get? b = some o := fun b o q nm => hideAll_get _ (F.keep b o q) fun hm => by
    rcases List.mem_cons.mp hm with rfl | hm
    · rw [(N _ he).2.2] at q; cases q
    rcases List.mem_cons.mp hm with rfl | hm
    · rw [(N _ ht).2.2] at q; cases q
    rcases frames_mem hf hm with z | z
    · rw [z, kts_self F] at q; cases q
    · exact nm z
  have hl : ∀ q ∈ news', (hideAll s'.heap (e :: t :: (env :: outer).filterMap (·.frame))).get? q.1 = some q.2 ∧ g.get? q.1 = none ∧ base.get? q.1 = none := fun q hq => by
    obtain ⟨hq, n1, n2⟩ := sub q hq
    refine ⟨hideAll_get _ (N q hq).1 fun hm => ?_, (N q hq).2.2, fr q hq⟩
    rcases List.mem_cons.mp hm with z | hm
    · exact n1 z
    rcases List.mem_cons.mp hm with z | hm
    · exact n2 z
    obtain ⟨ev, hev, hfr⟩ := List.mem_filterMap.mp hm
    rcases List.mem_cons.mp hev with rfl | hev
    · rw [hf] at hfr; exact (N q hq).2.1 (Option.some.inj hfr).symm
    · obtain ⟨o, ho, _⟩ := (K.frames.mem (List.mem_filterMap.mpr ⟨ev, hev, hfr⟩)).2
      rw [(N q hq).2.2] at ho; cases ho
  refine wpAny_leaving_firstW (a0 := .ref t) (base := hideAll s'.heap (e :: t :: (env :: outer).filterMap (·.frame))) K'.stack (funFrames_hide K'.frames hin) hf (N _ he).1 (fun b o q => of_hideAll _ q) (hideAll_none _ (.head _)) rfl rfl rfl fun h' hL => ?_
  obtain ⟨k1, ⟨_, _, k2⟩, k3, k4⟩ := hL
  have up : s'.heap.UpToSlots h' := k4
  exact hQ h' ⟨⟨_, st, sg, hl, ⟨k1, hideAll_none _ (.head _), k2, k3⟩, hideAll_none _ (.tail _ (.head _))⟩, Heap.TupAt.of_slots ⟨_, _, (N _ ht).1, rfl, rfl⟩ up⟩ ((Heap.UpToSlots.of_keeps F.keep).trans up)
theorem raised_down {cls : Value} {vs : List Value} (F : Fr g L g₂ m) (hf : env.frame = some L) {B : Heap} (hBG : ∀ b o, g₂.get? b = some o → b ∉ (env :: outer).filterMap (·.frame) → B.get? b = some o) :
    ∀ b o, g.get? b = some o → b ∉ outer.filterMap (·.frame) → B.get? b = some o := fun b o q nm => hBG b o (F.keep b o q) (fun hm => by
      rcases frames_mem hf hm with z | z
      · rw [z, kts_self F] at q
        cases q
      · exact nm z)
theorem leave_onG {cls : Value} {vs : List Value} (K : Below A base outer g) (hf : env.frame = some L) (F : Fr g L g₂ m) (R : RaisedS base g₂ (env :: outer) e cls t vs news s'.heap) (hsm : g₂.UpToSlots s'.heap)
    (hQ : ∀ h', RaisedS base g outer e cls t vs news h' → g.UpToSlots h' → Q () { s' with heap := h' }) :
    wpAny M (A.deeper env) (leaving env (.ref e)) Q E s' := by
  obtain ⟨⟨B, hB, hBG, hl, hfl, hnew⟩, htup⟩ := R
  exact wpAny_leaves_onW (Around.frames_deeper K.stack) hf hfl fun h' x1 x2 =>
    hQ h' ⟨⟨B, hB, raised_down (cls := cls) (vs := vs) F hf hBG, fun q hq => ⟨(hl q hq).1, kts_none F.keep (hl q hq).2.1, (hl q hq).2.2⟩, x1, hnew⟩, htup.of_slots x2⟩ ((Heap.UpToSlots.of_keeps F.keep).trans (hsm.trans x2))
def HeldS (base G : Heap) (l : List Env) (e : Addr) (cls : Value) (t : Addr) (vs : List Value) (news : List (Addr × Obj)) (L : Addr) (h : Heap) : Prop :=
  (∃ B, base.StaysIn B ∧ (∀ b o, G.get? b = some o → b ∉ l.filterMap (·.frame) → B.get? b = some o) ∧ (∀ q ∈ news, B.get? q.1 = some q.2 ∧ G.get? q.1 = none ∧ base.get? q.1 = none) ∧ Heap.HeldW B l e cls (.ref t) L h ∧ B.get? t = none) ∧ h.TupAt t vs
theorem looks_onS {cls : Value} {vs : List Value} {cenv : Env} (hfr : A.frames = some (env :: outer)) (hf : env.frame = some L) (hc : cenv.frame = env.frame) (R : RaisedS base g₂ (env :: outer) e cls t vs news s'.heap)
    (hQ : ∀ h', HeldS base g₂ (env :: outer) e cls t vs news L h' → s'.heap.UpToSlots h' → Q () { s' with heap := h' }) :
    wpAny M A (noteFrame (.ref e) cenv) Q E s' := by
  obtain ⟨⟨B, hB, hBG, hl, hfl, hnew⟩, htup⟩ := R
  have q : noteFrame (.ref e) cenv = noteFrame (.ref e) env := by unfold noteFrame PySem.frameOf; simp only [hc]
  rw [q]
  exact wpAny_looks_onW hfr hf hfl fun h' x1 x2 => hQ h' ⟨⟨B, hB, hBG, hl, x1, hnew⟩, htup.of_slots x2⟩ x2
theorem leave_heldS {cls : Value} {vs : List Value} (hf : env.frame = some L) (F : Fr g L g₂ m) (R : HeldS base g₂ (env :: outer) e cls t vs news L s'.heap) (hsm : g₂.UpToSlots s'.heap)
    (hQ : ∀ h', RaisedS base g outer e cls t vs news h' → g.UpToSlots h' → Q () { s' with heap := h' }) :
    wpAny M A (leaving env (.ref e)) Q E s' := by
  obtain ⟨⟨B, hB, hBG, hl, hh, hnew⟩, htup⟩ := R
  unfold leaving
  refine wpAny_bind (wpAny_noteFrame_againW hf hh.2.2.2 ?_)
  refine wpAny_landsW hh fun h' hfl sm => ?_
  obtain ⟨k1, k2, ⟨_, _, k3⟩, k4⟩ := hfl
  exact hQ h' ⟨⟨B, hB, raised_down (cls := cls) (vs := vs) F hf hBG, fun q hq => ⟨(hl q hq).1, kts_none F.keep (hl q hq).2.1, (hl q hq).2.2⟩, ⟨k1, k2, k3, k4⟩, hnew⟩, htup.of_slots sm⟩ ((Heap.UpToSlots.of_keeps F.keep).trans (hsm.trans sm))
end
end Mine
end

theorem Mine.reset_X6 : True := by
  w_top off
  k_with_none
  exact trivial
section
open PySem PySem.W PyProof.Rows PySem.Calls PyProof.V
set_option maxRecDepth 100000
set_option maxHeartbeats 8000000
namespace Mine
def TfUp (E : Value → Shared → Prop) (v : Value) (s₁ : Shared) : Prop := ∃ e t dd, v = .ref e ∧ s₁.heap.get? 65 = some tfObj ∧ s₁.heap.get? e = some (excObj dd t) ∧ E (.ref e) s₁
theorem TfUp.intro {w : World} {E : Value → Shared → Prop} {s₁ : Shared} {h₀ : Heap} {L e t : Addr} {dd : Option Addr} {m : Str → Option Value} {news : List (Addr × Obj)} (F : Fr h₀ L s₁.heap m) (X : (hd.heap_1 w.params).In h₀) (N : News h₀ L s₁.heap news)
    (he : (e, excObj dd t) ∈ news) (h : E (.ref e) s₁) : TfUp E (.ref e) s₁ := ⟨e, t, dd, rfl, tf_cls (X.keeps F.keep), (N _ he).1, h⟩
section
variable {M : Model} {A : Around} {E : Value → Shared → Prop} {s : Shared} {env : Env} {Q : Flow → Shared → Prop}
theorem raise_made {x : Sem Value} (hh : A.handled = none) (h : wpAny M A x (fun v s₁ => TfUp E v s₁) E s) : wpAny M A (raiseStmt env (some x) none) Q E s := by
  have hcB : (Value.ref 65 :: bmT).contains (.type "BaseException") = true := by decide +kernel
  unfold raiseStmt
  refine wpAny_bind (wpAny_mono h (fun v s₁ h₁ => ?_) fun _ _ x => x)
  obtain ⟨e, t, dd, rfl, hC, he, hE⟩ := h₁
  obtain ⟨hp, g, d, tk, os⟩ := s₁
  repeat (first | with_reducible refine wpAny_loadPart_at he ?_ | with_reducible refine wpAny_loadPart_at hC ?_ | (with_reducible refine wpAny_isSubtype_exc hC ?_; rw [hcB]) | wp_step)
  exact wpAny_raiseNew_none hh hE
theorem raise_tf {e : PySem.Expr} {pos : Pos} (hh : A.handled = none) (h : wpAny M A (eval e env) (fun v s₁ => TfUp E v s₁) E s) : wpAny M A (exec (.Raise (some e) none pos) env) Q E s := by
  rw [arm_exec_Raise]
  simp only [evalOpt, Option.map]
  exact wpAny_bind (wpAny_standAt (raise_made hh (wpAny_bind (wpAny_mono h (fun v s₃ h₃ => wpAny_bind (wpAny_standAt (wpAny_pure h₃))) fun _ _ x => x))))
end
theorem env_notin2 {w : World} {A : Around} {E : Value → Shared → Prop} {s : Shared} {h₀ : Heap} {L de : Addr} {news l : List (Addr × Obj)} {ρ : Str → Option Int} {σ : Str} {t : Tok} {Q : Value → Shared → Prop}
    (e : EnvIn w l de ρ) (N : News h₀ L s.heap news) (i : ∀ p ∈ l, p ∈ news) (hz : ρ σ = none) (h : Q (.bool true) { s with toks := s.toks + 1 }) :
    wpAny (model PySem.Challenge.rw_pq0025_01.row.prog w) A (compareOp .NotIn (.str σ t) (.ref de)) Q E s := env_notin e N i hz h
theorem words_X6_1 : True := by
  w_top off
  k_with_none
  (k_with "k_ne" => (refine neN ?_; (try dsimp only); first | assumption | exact Ne.symm (by assumption) | exact Nat.ne_of_gt (by assumption) | exact Nat.ne_of_lt (by assumption) | (refine' Nat.ne_of_gt ?_; iterate 6 (try (first | exact Nat.lt_succ_self _ | refine' Nat.lt_succ_of_lt ?_)); done) | (refine' Nat.ne_of_lt ?_; iterate 6 (try (first | exact Nat.lt_succ_self _ | refine' Nat.lt_succ_of_lt ?_)); done) | exact Nat.ne_of_gt (And.left (by assumption)) | exact Nat.ne_of_lt (And.left (by assumption)) | exact Nat.ne_of_gt (And.left (And.right (by assumption))) | exact Nat.ne_of_gt (And.right (by assumption)) | exact Nat.ne_of_lt (And.left (And.right (by assumption))) | exact Nat.ne_of_lt (And.right (by assumption)) | exact Nat.ne_of_gt (And.left (And.right (And.right (by assumption)))) | exact Nat.ne_of_gt (And.right (And.right (by assumption))) | exact Nat.ne_of_lt (And.left (And.right (And.right (by assumption)))) | exact Nat.ne_of_lt (And.right (And.right (by assumption))) | exact Nat.ne_of_gt (And.left (And.right (And.right (And.right (by assumption))))) | exact Nat.ne_of_gt (And.right (And.right (And.right (by assumption)))) | exact Nat.ne_of_lt (And.left (And.right (And.right (And.right (by assumption))))) | exact Nat.ne_of_lt (And.right (And.right (And.right (by assumption)))) | exact Nat.ne_of_gt (And.left (And.right (And.right (And.right (And.right (by assumption)))))) | exact Nat.ne_of_gt (And.right (And.right (And.right (And.right (by assumption))))) | exact Nat.ne_of_lt (And.left (And.right (And.right (And.right (And.right (by assumption)))))) | exact Nat.ne_of_lt (And.right (And.right (And.right (And.right (by assumption))))) | exact Nat.ne_of_gt (And.left (And.right (And.right (And.right (And.right (And.right (by assumption))))))) | exact Nat.ne_of_gt (And.right (And.right (And.right (And.right (And.right (by assumption)))))) | exact Nat.ne_of_lt (And.left (And.right (And.right (And.right (And.right (And.right (by assumption))))))) | exact Nat.ne_of_lt (And.right (And.right (And.right (And.right (And.right (by assumption)))))) | exact Nat.ne_of_gt (And.left (And.right (And.right (And.right (And.right (And.right (And.right (by assumption)))))))) | exact Nat.ne_of_gt (And.right (And.right (And.right (And.right (And.right (And.right (by assumption))))))) | exact Nat.ne_of_lt (And.left (And.right (And.right (And.right (And.right (And.right (And.right (by assumption)))))))) | exact Nat.ne_of_lt (And.right (And.right (And.right (And.right (And.right (And.right (by assumption)))))))))
  (k_with "execs cons" => (k_here; (with_reducible refine gen_toks ?_); intro tkq))
  (k_with "execs nil" => (k_here; (with_reducible refine gen_toks ?_); intro tkq))
  (k_with "compareOp NotIn str ref" => (k_here; (with_reducible show wpAny _ _ (compareOp _ (Value.str _ _) (Value.ref _)) _ _ _); k_dflt (refine' env_notin2 ?k1q ?k2q ?k3q ?k4q ?_; (case k1q => assumption); (case k2q => k_asm); (case k3q => (intro pq hpq; repeat (first | exact hpq | refine List.Mem.tail _ ?_))); (case k4q => assumption))))
  (k_with "k_mem" => (assumption))
  (k_with "call builtin:len" => (k_here; (with_reducible show wpAny _ _ (call (Value.builtin "len") [Value.ref _]) _ _ _); k_dflt (first
  | (refine len_lit 1 (by k_asm) (by k_mem) (by rfl) (by decide) ?_)
  | (refine len_lit 2 (by k_asm) (by k_mem) (by rfl) (by decide) ?_)
  | (refine len_lit 3 (by k_asm) (by k_mem) (by rfl) (by decide) ?_))))
  (k_with "subscriptTail" => (k_here; (with_reducible show wpAny _ _ (subscriptTail _ _ (Value.ref _) (Value.int 0 _)) _ _ _); k_dflt (refine' item_zero ?k1q ?k2q ?_ ?k6q; (case k1q => k_asm); (case k2q => k_mem); (case k6q => with_unfolding_all rfl))))
  (k_with "exec Raise some none" => (k_here; k_dflt (refine' raise_tf ?hq ?_; (case hq => exact rfl))))
  (k_with "call ref" => (k_here; (with_reducible show wpAny _ _ (call (Value.ref 65) [Value.str _ _]) _ _ _); k_dflt (refine' tf_says ?Bq ?Fq ?Xq ?Nq ?Tq ?hkq ?hdq ?huq ?_; (case Bq => k_asm); (case Fq => k_asm); (case Xq => k_asm); (case Nq => k_asm); (case Tq => k_asm); (case hkq => first | exact rfl | assumption); (case hdq => ktr_room); (case huq => ktr_units)); intro e'q t2'q dx'q h'q tk'q F'q N'q ne'q; (try k_sweep)))
  (k_with "TfUp" => (k_here; k_dflt (refine' TfUp.intro ?Fq ?Xq ?Nq ?eq ?_; (case Fq => k_asm); (case Xq => k_asm); (case Nq => k_asm); (case eq => exact List.Mem.head _))))
  (k_with "call builtin:len" => (k_here; (with_reducible show wpAny _ _ (call (Value.builtin "len") [_]) _ _ _); k_dflt (refine len_leaf (by assumption) (by k_asm) (by k_asm) (by k_asm) (by (intro pq hpq; repeat (first | exact hpq | refine List.Mem.tail _ ?_))) ?_)))
  (k_with "subscriptTail" => (k_here; (with_reducible show wpAny _ _ (subscriptTail _ _ _ (Value.int 0 _)) _ _ _); k_dflt (refine item_leaf (by assumption) (by k_asm) (by k_asm) (by k_asm) (by (intro pq hpq; repeat (first | exact hpq | refine List.Mem.tail _ ?_))) ?_ (by intro _; with_unfolding_all rfl)); intro tt'q))
  (k_with "execs cons" => k_fold)
  (k_with "eval Call" => k_fold)
  exact trivial

theorem msg_len {σ : Str} {i : Int} (hi : i = 0) (h : σ.length ≤ 100) : (Str.empty ++ σ ++ Str.ofString " with " ++ Str.ofString (toString i) ++ Str.ofString " kids has no value").length ≤ sizeLine := by
  subst hi
  have e0 : Str.empty.length = 0 := rfl
  have e1 : (Str.ofString " with ").length = 6 := by decide +kernel
  have e2 : (Str.ofString (toString (0 : Int))).length = 1 := by decide +kernel
  have e3 : (Str.ofString " kids has no value").length = 18 := by decide +kernel
  rw [Str.length_append, Str.length_append, Str.length_append, Str.length_append, e0, e1, e2, e3, sizeLine_eq]
  omega
theorem words_X6_2 : True := by
  w_top off
  (k_with "joinParts" => (k_here; (with_reducible refine joinParts_nilE ?_); refine joinParts_nil ?_ (msg_len (by decide) (by assumption))))
  (k_with "execs cons" => k_fold)
  (k_with "eval Call" => k_fold)
  exact trivial
theorem named_refuses {w : World} {dp un : Nat} {gd : Option (List Code)} {cn : Str} {cs : Scope} {a : Addr} {ccd : Value} {cl : List (Str × Addr)} {outer : List Env} {A₀ : Around} {base h₀ : Heap} {L : Addr} {m : Str → Option Value} {s : Shared} {loose : List Str} {mean : ExcName → Option Value} {mg mb : Str → Option Value}
    {Q E : Value → Shared → Prop} {news : List (Addr × Obj)} {v : Value} {de : Addr} {ρ : Str → Option Int} {σ : Str}
    (B : Below A₀ base outer h₀) (F : Fr h₀ L s.heap m) (X : (hd.heap_1 w.params).In h₀)
    (N : News h₀ L s.heap news) (T : Top view loose mean mg mb h₀) (hk : cs.kind = .function)
    (hT : Tm.In news v (.leaf σ)) (he : EnvIn w news de ρ) (hv : ρ σ = none) (hlen : σ.length ≤ 100)
    (hd : dp + 10 < recursionLimit) (hu : un + 500 < cLine)
    (raise : ∀ e t2 vs h' tk' g, Fr h₀ L g m → RaisedS base g (envX cn cs L a ccd cl :: outer) e (.ref 65) t2 vs news h' → g.UpToSlots h' → E (.ref e) { s with heap := h', toks := tk' }) :
    wpAny (model PySem.Challenge.rw_pq0025_01.row.prog w) (ktrTop dp un gd cn cs L a ccd cl outer) (call (.ref 136) [v, .ref de]) Q E s := by
  (revert X; k_fill; intro X)
  all_goals (
    refine wpAny_call ?_
    k_dflt ktr_enter
    (all_goals try k_fold)
    k_steps
    all_goals first | (refine' leave_tf ?K ?F ?N ?hf ?hk ?he ?ht ?sub ?_; (case K => k_asm); (case F => k_asm); (case N => k_asm); (case hf => exact rfl); (case hk => exact rfl); (case he => exact List.Mem.head _); (case ht => exact List.Mem.tail _ (List.Mem.head _)); (case sub => exact fun p hp => ⟨.tail _ (.tail _ (by repeat (first | exact hp | refine List.Mem.tail _ ?_))), ne_of_all (by assumption) (by repeat (first | exact hp | refine List.Mem.tail _ ?_))⟩); intro h9 R9 U9; exact raise _ _ _ _ _ _ (by assumption) R9 U9))
end Mine
end

theorem Mine.reset_X7 : True := by
  w_top off
  k_with_none
  exact trivial
section
open PySem PySem.W PyProof.Rows PySem.Calls PyProof.V
set_option maxRecDepth 100000
set_option maxHeartbeats 4000000
namespace Mine
theorem raisedS_sub {base G h : Heap} {l : List Env} {e t : Addr} {cls : Value} {vs : List Value} {news news' : List (Addr × Obj)} (R : RaisedS base G l e cls t vs news h) (i : ∀ p ∈ news', p ∈ news) : RaisedS base G l e cls t vs news' h := by
  obtain ⟨⟨B, a, b, c, d⟩, f⟩ := R
  exact ⟨⟨B, a, b, fun q hq => c q (i q hq), d⟩, f⟩
theorem words_X7_1 : True := by
  w_top off
  k_with_none
  (k_with "k_ne" => (refine neN ?_; (try dsimp only); first | assumption | exact Ne.symm (by assumption) | exact Nat.ne_of_gt (by assumption) | exact Nat.ne_of_lt (by assumption) | (refine' Nat.ne_of_gt ?_; iterate 6 (try (first | exact Nat.lt_succ_self _ | refine' Nat.lt_succ_of_lt ?_)); done) | (refine' Nat.ne_of_lt ?_; iterate 6 (try (first | exact Nat.lt_succ_self _ | refine' Nat.lt_succ_of_lt ?_)); done) | exact Nat.ne_of_gt (And.left (by assumption)) | exact Nat.ne_of_lt (And.left (by assumption)) | exact Nat.ne_of_gt (And.left (And.right (by assumption))) | exact Nat.ne_of_gt (And.right (by assumption)) | exact Nat.ne_of_lt (And.left (And.right (by assumption))) | exact Nat.ne_of_lt (And.right (by assumption)) | exact Nat.ne_of_gt (And.left (And.right (And.right (by assumption)))) | exact Nat.ne_of_gt (And.right (And.right (by assumption))) | exact Nat.ne_of_lt (And.left (And.right (And.right (by assumption)))) | exact Nat.ne_of_lt (And.right (And.right (by assumption))) | exact Nat.ne_of_gt (And.left (And.right (And.right (And.right (by assumption))))) | exact Nat.ne_of_gt (And.right (And.right (And.right (by assumption)))) | exact Nat.ne_of_lt (And.left (And.right (And.right (And.right (by assumption))))) | exact Nat.ne_of_lt (And.right (And.right (And.right (by assumption)))) | exact Nat.ne_of_gt (And.left (And.right (And.right (And.right (And.right (by assumption)))))) | exact Nat.ne_of_gt (And.right (And.right (And.right (And.right (by assumption))))) | exact Nat.ne_of_lt (And.left (And.right (And.right (And.right (And.right (by assumption)))))) | exact Nat.ne_of_lt (And.right (And.right (And.right (And.right (by assumption))))) | exact Nat.ne_of_gt (And.left (And.right (And.right (And.right (And.right (And.right (by assumption))))))) | exact Nat.ne_of_gt (And.right (And.right (And.right (And.right (And.right (by assumption)))))) | exact Nat.ne_of_lt (And.left (And.right (And.right (And.right (And.right (And.right (by assumption))))))) | exact Nat.ne_of_lt (And.right (And.right (And.right (And.right (And.right (by assumption)))))) | exact Nat.ne_of_gt (And.left (And.right (And.right (And.right (And.right (And.right (And.right (by assumption)))))))) | exact Nat.ne_of_gt (And.right (And.right (And.right (And.right (And.right (And.right (by assumption))))))) | exact Nat.ne_of_lt (And.left (And.right (And.right (And.right (And.right (And.right (And.right (by assumption)))))))) | exact Nat.ne_of_lt (And.right (And.right (And.right (And.right (And.right (And.right (by assumption)))))))))
  (k_with "execs cons" => (k_here; (with_reducible refine gen_toks ?_); intro tkq))
  (k_with "execs nil" => (k_here; (with_reducible refine gen_toks ?_); intro tkq))
  (k_with "compareOp NotIn str ref" => (k_here; (with_reducible show wpAny _ _ (compareOp _ (Value.str _ _) (Value.ref _)) _ _ _); k_dflt (refine' env_notin2 ?k1q ?k2q ?k3q ?k4q ?_; (case k1q => assumption); (case k2q => k_asm); (case k3q => (intro pq hpq; repeat (first | exact hpq | refine List.Mem.tail _ ?_))); (case k4q => assumption))))
  (k_with "k_mem" => (assumption))
  (k_with "compareOp NotIn ref ref" => (k_here; (with_reducible show wpAny _ _ (compareOp _ (Value.ref _) (Value.ref _)) _ _ _); k_dflt (first
  | (refine' notin_ops true ?Nq ?cq ?h1q ?h2q ?h3q ?qq ?uq ?oq ?bq ?_; (case Nq => k_asm); (case cq => k_mem); (case h1q => k_mem); (case h2q => k_mem); (case h3q => k_mem); (case qq => k_mem); (case uq => ktr_units); (case oq => first | assumption | decide +kernel); (case bq => first | rfl | decide | (simp; done))))))
  (k_with "call builtin:len" => (k_here; (with_reducible show wpAny _ _ (call (Value.builtin "len") [Value.ref _]) _ _ _); k_dflt (first
  | (refine len_lit 1 (by k_asm) (by k_mem) (by rfl) (by decide) ?_)
  | (refine len_lit 2 (by k_asm) (by k_mem) (by rfl) (by decide) ?_)
  | (refine len_lit 3 (by k_asm) (by k_mem) (by rfl) (by decide) ?_))))
  (k_with "subscriptTail" => (k_here; (with_reducible show wpAny _ _ (subscriptTail _ _ (Value.ref _) (Value.int 0 _)) _ _ _); k_dflt (refine' item_zero ?k1q ?k2q ?_ ?k6q; (case k1q => k_asm); (case k2q => k_mem); (case k6q => with_unfolding_all rfl))))
  (k_with "call ref" => (k_here; (with_reducible show wpAny _ _ (call (Value.ref 26) [Value.str _ _]) _ _ _); k_dflt (refine' WOf.use ?Cq ?Bq ?Fq ?Xq ?Nq ?Tq ?hkq ?hdq ?huq ?_; (case Cq => assumption); (case Bq => k_asm); (case Fq => k_asm); (case Xq => k_asm); (case Nq => k_asm); (case Tq => k_asm); (case hkq => first | exact rfl | assumption); (case hdq => ktr_room); (case huq => ktr_units)); intro tz'q h'q tk'q F'q N'q; (try dsimp only [optV]); (try k_sweep)))
  (k_with "call ref" => (k_here; (with_reducible show wpAny _ _ (call (Value.ref 136) [_, Value.ref _]) _ _ _); k_dflt (refine' named_refuses ?Bq ?Fq ?Xq ?Nq ?Tq ?hkq ?hTq ?heq ?hvq ?hlq ?hdq ?huq ?_; (case Bq => k_asm); (case Fq => k_asm); (case Xq => k_asm); (case Nq => k_asm); (case Tq => k_asm); (case hkq => first | exact rfl | assumption); (case hTq => (refine Tm.In.mono ?_ (by assumption); (intro pq hpq; repeat (first | exact hpq | refine List.Mem.tail _ ?_)))); (case heq => (refine EnvIn.mono ?_ (by assumption); (intro pq hpq; repeat (first | exact hpq | refine List.Mem.tail _ ?_)))); (case hvq => assumption); (case hlq => assumption); (case hdq => ktr_room); (case huq => ktr_units)); intro e9'q t9'q vs9'q h9'q tk9'q g9'q FG9'q R9'q U9'q))
  (k_with "call builtin:len" => (k_here; (with_reducible show wpAny _ _ (call (Value.builtin "len") [_]) _ _ _); k_dflt (refine len_leaf (by assumption) (by k_asm) (by k_asm) (by k_asm) (by (intro pq hpq; repeat (first | exact hpq | refine List.Mem.tail _ ?_))) ?_)))
  (k_with "subscriptTail" => (k_here; (with_reducible show wpAny _ _ (subscriptTail _ _ _ (Value.int 0 _)) _ _ _); k_dflt (refine item_leaf (by assumption) (by k_asm) (by k_asm) (by k_asm) (by (intro pq hpq; repeat (first | exact hpq | refine List.Mem.tail _ ?_))) ?_ (by intro _; with_unfolding_all rfl)); intro tt'q))
  (k_with "execs cons" => k_fold)
  (k_with "eval Call" => k_fold)
  exact trivial
theorem val_refuses {w : World} {dp un : Nat} {gd : Option (List Code)} {cn : Str} {cs : Scope} {a : Addr} {ccd : Value} {cl : List (Str × Addr)} {outer : List Env} {A₀ : Around} {base h₀ : Heap} {L : Addr} {m : Str → Option Value} {s : Shared} {loose : List Str} {mean : ExcName → Option Value} {mg mb : Str → Option Value}
    {Q E : Value → Shared → Prop} {news : List (Addr × Obj)} {v : Value} {de rg : Addr} {ρ : Str → Option Int} {σ : Str} {n : Int}
    (B : Below A₀ base outer h₀) (F : Fr h₀ L s.heap m) (X : (hd.heap_1 w.params).In h₀)
    (N : News h₀ L s.heap news) (T : Top view loose mean mg mb h₀) (hk : cs.kind = .function)
    (hT : Tm.In news v (.leaf σ)) (he : EnvIn w news de ρ) (hr : RingIn w news rg n) (hv : ρ σ = none) (hC : WOf σ none) (hok : PyData.strOk σ = true) (hlen : σ.length ≤ 100)
    (hd : dp + 12 < recursionLimit) (hu : un + 700 < cLine)
    (raise : ∀ e t2 vs h' tk' g, Fr h₀ L g m → RaisedS base g (envX cn cs L a ccd cl :: outer) e (.ref 65) t2 vs news h' → g.UpToSlots h' → E (.ref e) { s with heap := h', toks := tk' }) :
    wpAny (model PySem.Challenge.rw_pq0025_01.row.prog w) (ktrTop dp un gd cn cs L a ccd cl outer) (call (.ref 169) [.ref rg, v, .ref de]) Q E s := by
  (revert X; k_fill; intro X)
  obtain ⟨dx, t, tn, k, hr1, hr2⟩ := hr
  have N1 : News h₀ L s.heap ((rg, _) :: (dx, _) :: news) := News.sub N (List.forall_mem_cons.mpr ⟨hr1, List.forall_mem_cons.mpr ⟨hr2, fun _ h => h⟩⟩)
  clear N
  all_goals (
    refine wpAny_call ?_
    k_dflt (refine' code_defC ?k1 ?k2 ?k3 ?k4 ?k5 ?kA ?kF ?kK ?k6 ?k7 ?k8 ?k9 ?kB ?kD ?_ ?c2 ?c3 ?c4; (case kA => exact rfl); (case kF => exact rfl); (case kK => assumption); (case k1 => k_asm); (case k2 => k_asm); (case k3 => k_asm); (case k4 => k_asm); (case k5 => k_asm); (case k6 => k_is); (case k7 => k_is); (case k8 => (ktr_room)); (case k9 => exact BindsTo.of_eq rfl); (case kB => exact rfl); (case kD => decide +kernel); (case c2 => exact rfl); (case c3 => exact rfl); (case c4 => exact rfl); k_whole; intro g' L' h' tk' cells' FG' F' N' Y' B' X' T' l1; (try k_lt l1); k_cells Y'; (try simp only [List.cons_append, List.nil_append] at N'); (try dsimp only); (try k_fold))
    k_steps
    all_goals first | (refine' leave_onG ?K ?hf ?F ?R ?U ?_; (case R => assumption); (case K => k_asm); (case hf => exact rfl); (case F => assumption); (case U => assumption); intro h9 R9 U9; exact raise _ _ _ _ _ _ (by assumption) (raisedS_sub R9 (by intro p hp; repeat (first | exact hp | refine List.Mem.tail _ ?_))) U9))
end Mine
end

theorem Mine.reset_X8 : True := by
  w_top off
  k_with_none
  exact trivial
section
open PySem PySem.W PyProof.Rows PySem.Calls
set_option maxRecDepth 100000
set_option maxHeartbeats 4000000
namespace Mine
section
variable {prog : Program} {w : World} {A₀ A : Around} {base h₀ : Heap} {s : Shared} {L : Addr} {m : Str → Option Value} {news : List (Addr × Obj)} {env : Env} {outer : List Env} {K : Frag} {p : Program} {loose : List Str} {mean : ExcName → Option Value} {mg mb : Str → Option Value}
theorem enterX (B : Below A₀ base outer h₀) (F : Fr h₀ L s.heap m) (N : News h₀ L s.heap news) (hA : A.frames = some (env :: outer)) (hf : env.frame = some L) (hk : env.scope.kind = .function) :
    ∃ oL es ep, (hideAll s.heap (news.map (·.1))).get? L = some oL ∧ oL.data = .dict es ep ∧ (∀ h', h'.get? L = some oL → Heap.Ns h' L m) ∧ (∀ (sl : Array (Option Value)) h', h'.get? L = some { oL with slots := sl } → Heap.Ns h' L m) ∧
      h₀.StaysIn (hideAll s.heap (news.map (·.1))) ∧ Below A base (env :: outer) (hideAll s.heap (news.map (·.1))) := by
  have nm : ∀ b o, h₀.get? b = some o → b ∉ news.map (·.1) := fun b o e q => by
    obtain ⟨p, hp, rfl⟩ := List.mem_map.mp q
    rw [(N p hp).2.2] at e; cases e
  have st : h₀.StaysIn (hideAll s.heap (news.map (·.1))) := fun b o e => hideAll_get _ (F.keep b o e) (nm b o e)
  obtain ⟨oL, es, ep, hL, hLd, hLk, hLf⟩ := F.ns
  have nL : L ∉ news.map (·.1) := fun q => by
    obtain ⟨p, hp, e⟩ := List.mem_map.mp q
    exact (N p hp).2.1 e
  have hLg := hideAll_get (news.map (·.1)) hL nL
  have B₁ := pushX (env := env) B F hf hk
  exact ⟨oL, es, ep, hLg, hLd, fun h' e => ⟨oL, es, ep, e, hLd, hLk, hLf⟩, fun sl h' e => ⟨_, es, ep, e, hLd, hLk, hLf⟩, st, ⟨hA, fun b o e => st b o (B.stays b o e), funFrames_hideAll B₁.frames fun ev he b hb hfb => by
    cases he with
    | head => exact nL ((Option.some.inj (hf.symm.trans hfb) : L = b) ▸ hb)
    | tail _ he =>
      obtain ⟨L₁, o₁, hf₁, ho₁⟩ := funFrames_in B.frames ev he
      rw [hf₁] at hfb
      exact nm L₁ o₁ ho₁ ((Option.some.inj hfb : L₁ = b) ▸ hb)⟩⟩
theorem code_try {R : Result → Shared → Prop} {name qual : Str} {params : Arguments} {body : List Stmt} {scope : Scope} {dV kV doc pm cdv ct oc : Value} {an od : Option Addr} {osl : Array (Option Value)} {f : Addr} {args : Args} {binds : List (Str × Value)}
    (B : Below A₀ base [] h₀) (F : Fr h₀ L s.heap m) (X₀ : K.In h₀) (N : News h₀ L s.heap news) (T : Top p loose mean mg mb h₀) (hA : A.frames = some [env]) (hf : env.frame = some L) (hke : env.scope.kind = .function)
    (ho : K.lookup f = some ⟨oc, od, .func (fnOf name qual params body scope dV kV doc pm an cdv ct), osl⟩) (hcd : codeIn K cdv qual = true) (hroom : A.depth < recursionLimit)
    (hbind : BindsTo s (fnOf name qual params body scope dV kV doc pm an cdv ct) args binds) (hloc : ∀ y ∈ binds, scope.names.lookup y.1 = some .local)
    (h : ∀ g L' h₁, Fr h₀ L g m → Fr g L' h₁ (fun y => binds.reverse.lookup y) → News g L' h₁ news → Below A base [env] g → K.In g → Top p loose mean mg mb g → KtsDicts ([env].filterMap (·.frame)) g →
      wpAny (model prog w) (A.deeper (envOf qual scope L' f cdv)) (execs body (envOf qual scope L' f cdv))
        (fun fl s' => LeaveS0 ([env].filterMap (·.frame)) h₀ L m g R (match fl with | .ret v => v | _ => .none) s')
        (fun e s' => wpAny (model prog w) (A.deeper (envOf qual scope L' f cdv)) (leaving (envOf qual scope L' f cdv) e) (fun _ s'' => R (.error e) s'') (fun e' s'' => R (.error e') s'') s')
        { s with heap := h₁, toks := s.toks + binds.length })
    (hco : scope.isCoroutine = false) (hgen : scope.isGenerator = false) (hk : scope.kind = .function)
    (hcell : ∀ x ∈ scope.names, x.2 ≠ .cell) : codeAny (model prog w) A (.call (.ref f) args) R s := by
  have X := X₀.keeps F.keep
  refine codeAny_call_def (fd := fnOf name qual params body scope dV kV doc pm an cdv ct) (body := body) (binds := binds) hroom (X _ _ ho) rfl (T.nolimit.keeps F.keep) (codeRec_of X hcd) rfl hbind hcell hloc (fun h₁ hns hk₁ => ?_) hco hgen hk
  obtain ⟨oL, es, ep, hLg, hLd, hN, hNs, st, B₂⟩ := enterX B F N hA hf hke
  refine wpAny_mono (h _ s.heap.objs.size h₁ ⟨hN _ hLg, st, F.above⟩ ⟨hns, fun b o e => hk₁ b o (of_hideAll _ e), Nat.le_of_eq (hideAll_size _ _)⟩
    (fun p hp => ⟨hk₁ _ _ (N p hp).1, Nat.ne_of_lt (Heap.lt_size (N p hp).1), hideAll_none _ (List.mem_map_of_mem hp)⟩) B₂ (X₀.keeps st) (T.keeps st) (fun b hb => by
      rcases frames_mem hf hb with rfl | z
      · exact ⟨oL, es, ep, hLg, hLd⟩
      · simp at z)) (fun fl s' hl => ?_) fun _ _ y => y
  obtain ⟨g', L', m', news', T', F', N', k⟩ := hl
  have nL₀ : h₀.get? L = none := kts_self F
  obtain ⟨sl, hs⟩ := T'.up hLg
  refine k ⟨hNs sl _ (F'.keep _ _ hs), fun b o e => F'.keep b o (T'.other b o (st b o e) (fun q => by
    rcases frames_mem hf q with z | z
    · rw [z, nL₀] at e
      cases e
    · simp at z)), F.above⟩ fun p hp => ⟨(N' p hp).1, fun q => ?_, ?_⟩
  · have := (N' p hp).2.2; rw [q, hs] at this; cases this
  · cases q : h₀.get? p.1 with
    | none => rfl
    | some o =>
      obtain ⟨sl', hs'⟩ := T'.up (st _ _ q)
      have := (N' p hp).2.2
      rw [hs'] at this
      cases this
end
end Mine
end

theorem Mine.reset_X9 : True := by
  w_top off
  k_with_none
  exact trivial
section
open PySem PySem.W PyProof.Rows PySem.Calls PyProof.V
set_option maxRecDepth 100000
set_option maxHeartbeats 4000000
namespace Mine
theorem words_X9_1 : True := by
  w_top off
  k_with_none
  (k_with "k_ne" => (refine neN ?_; (try dsimp only); first | assumption | exact Ne.symm (by assumption) | exact Nat.ne_of_gt (by assumption) | exact Nat.ne_of_lt (by assumption) | (refine' Nat.ne_of_gt ?_; iterate 6 (try (first | exact Nat.lt_succ_self _ | refine' Nat.lt_succ_of_lt ?_)); done) | (refine' Nat.ne_of_lt ?_; iterate 6 (try (first | exact Nat.lt_succ_self _ | refine' Nat.lt_succ_of_lt ?_)); done) | exact Nat.ne_of_gt (And.left (by assumption)) | exact Nat.ne_of_lt (And.left (by assumption)) | exact Nat.ne_of_gt (And.left (And.right (by assumption))) | exact Nat.ne_of_gt (And.right (by assumption)) | exact Nat.ne_of_lt (And.left (And.right (by assumption))) | exact Nat.ne_of_lt (And.right (by assumption)) | exact Nat.ne_of_gt (And.left (And.right (And.right (by assumption)))) | exact Nat.ne_of_gt (And.right (And.right (by assumption))) | exact Nat.ne_of_lt (And.left (And.right (And.right (by assumption)))) | exact Nat.ne_of_lt (And.right (And.right (by assumption))) | exact Nat.ne_of_gt (And.left (And.right (And.right (And.right (by assumption))))) | exact Nat.ne_of_gt (And.right (And.right (And.right (by assumption)))) | exact Nat.ne_of_lt (And.left (And.right (And.right (And.right (by assumption))))) | exact Nat.ne_of_lt (And.right (And.right (And.right (by assumption)))) | exact Nat.ne_of_gt (And.left (And.right (And.right (And.right (And.right (by assumption)))))) | exact Nat.ne_of_gt (And.right (And.right (And.right (And.right (by assumption))))) | exact Nat.ne_of_lt (And.left (And.right (And.right (And.right (And.right (by assumption)))))) | exact Nat.ne_of_lt (And.right (And.right (And.right (And.right (by assumption))))) | exact Nat.ne_of_gt (And.left (And.right (And.right (And.right (And.right (And.right (by assumption))))))) | exact Nat.ne_of_gt (And.right (And.right (And.right (And.right (And.right (by assumption)))))) | exact Nat.ne_of_lt (And.left (And.right (And.right (And.right (And.right (And.right (by assumption))))))) | exact Nat.ne_of_lt (And.right (And.right (And.right (And.right (And.right (by assumption)))))) | exact Nat.ne_of_gt (And.left (And.right (And.right (And.right (And.right (And.right (And.right (by assumption)))))))) | exact Nat.ne_of_gt (And.right (And.right (And.right (And.right (And.right (And.right (by assumption))))))) | exact Nat.ne_of_lt (And.left (And.right (And.right (And.right (And.right (And.right (And.right (by assumption)))))))) | exact Nat.ne_of_lt (And.right (And.right (And.right (And.right (And.right (And.right (by assumption)))))))))
  (k_with "execs cons" => (k_here; (with_reducible refine gen_toks ?_); intro tkq))
  (k_with "execs nil" => (k_here; (with_reducible refine gen_toks ?_); intro tkq))
  (k_with "call ref" => (k_here; (with_reducible show wpAny _ _ (call (Value.ref 169) [_, _, Value.ref _]) _ _ _); k_dflt (refine' val_refuses ?Bq ?Fq ?Xq ?Nq ?Tq ?hkq ?hTq ?heq ?hrq ?hvq ?hCq ?hoq ?hlq ?hdq ?huq ?_; (case Bq => k_asm); (case Fq => k_asm); (case Xq => k_asm); (case Nq => k_asm); (case Tq => k_asm); (case hkq => first | exact rfl | assumption); (case hTq => (refine Tm.In.mono ?_ (by assumption); (intro pq hpq; repeat (first | exact hpq | refine List.Mem.tail _ ?_)))); (case heq => (refine EnvIn.mono ?_ (by assumption); (intro pq hpq; repeat (first | exact hpq | refine List.Mem.tail _ ?_)))); (case hrq => (refine RingIn.mono ?_ (by assumption); (intro pq hpq; repeat (first | exact hpq | refine List.Mem.tail _ ?_)))); (case hvq => assumption); (case hCq => assumption); (case hoq => assumption); (case hlq => assumption); (case hdq => ktr_room); (case huq => ktr_units)); intro e9'q t9'q vs9'q h9'q tk9'q g9'q FG9'q R9'q U9'q))
  exact trivial
theorem refused_leaf {w : World} {dp un : Nat} {gd : Option (List Code)} {cn : Str} {cs : Scope} {a : Addr} {ccd : Value} {cl : List (Str × Addr)} {A₀ : Around} {base h₀ : Heap} {L : Addr} {m : Str → Option Value} {s : Shared} {loose : List Str} {mean : ExcName → Option Value} {mg mb : Str → Option Value}
    {Q E : Value → Shared → Prop} {news : List (Addr × Obj)} {v : Value} {de rg : Addr} {ρ : Str → Option Int} {σ : Str} {n : Int}
    (B : Below A₀ base [] h₀) (F : Fr h₀ L s.heap m) (X : (hd.heap_1 w.params).In h₀)
    (N : News h₀ L s.heap news) (T : Top view loose mean mg mb h₀) (hk : cs.kind = .function) (XB : (hd.heap_1 w.params).In base) (TB : Top view loose mean mg mb base)
    (hT : Tm.In news v (.leaf σ)) (he : EnvIn w news de ρ) (hr : RingIn w news rg n) (hv : ρ σ = none) (hC : WOf σ none) (hok : PyData.strOk σ = true) (hlen : σ.length ≤ 100)
    (hd : dp + 14 < recursionLimit) (hu : un + 900 < cLine)
    (ret : ∀ h' tk', Fr h₀ L h' m → News h₀ L h' news → Q (.bool true) { s with heap := h', toks := tk' }) :
    wpAny (model PySem.Challenge.rw_pq0025_01.row.prog w) (ktrTop dp un gd cn cs L a ccd cl []) (call (.ref 217) [.ref rg, v, .ref de]) Q E s := by
  (revert X; k_fill; intro X)
  have hrr := hr
  obtain ⟨dx, t, tn, k, hr1, hr2⟩ := hr
  have N1 : News h₀ L s.heap ((rg, _) :: (dx, _) :: news) := News.sub N (List.forall_mem_cons.mpr ⟨hr1, List.forall_mem_cons.mpr ⟨hr2, fun _ h => h⟩⟩)
  clear N
  refine wpAny_call ?_
  k_dflt (refine' code_try ?k1 ?k2 ?k3 ?k4 ?k5 ?kA ?kf ?kk ?k6 ?k7 ?k8 ?k9 ?kB ?_ ?c2 ?c3 ?c4 ?c5; (case kA => exact rfl); (case kf => exact rfl); (case kk => exact hk); (case k2 => k_asm); (case k1 => k_asm); (case k3 => k_asm); (case k4 => k_asm); (case k5 => k_asm); (case k6 => k_is); (case k7 => k_is); (case k8 => ktr_room); (case k9 => exact BindsTo.of_eq rfl); (case kB => exact locs rfl); (case c2 => exact rfl); (case c3 => exact rfl); (case c4 => exact rfl); (case c5 => decide); k_whole; intro g' L' h' FG' F' N' B' X' T' D'; (try dsimp only); (try k_fold))
  k_steps
  all_goals first | (refine' ret _ _ ?e1 (News.sub ?e2 ?e3); (case e1 => k_asm); (case e2 => k_asm); (case e3 => (intro p hp; repeat (first | exact hp | refine List.Mem.tail _ ?_))))
end Mine
end

theorem Mine.reset_X10 : True := by
  w_top off
  k_with_none
  exact trivial
section
open PySem PySem.W PyProof.Rows PySem.Calls
set_option maxRecDepth 100000
set_option maxHeartbeats 4000000
namespace Mine
section
variable {M : Model} {A : Around} {E : Value → Shared → Prop} {s' : Shared} {base g₂ h : Heap} {outer : List Env} {L e t C : Addr} {m : Str → Option Value} {env cenv : Env} {news : List (Addr × Obj)} {cls : Value} {vs : List Value} {l : List Env}
theorem heldW_keep {B h h' : Heap} {a0 : Value} (H : Heap.HeldW B l e cls a0 L h) (hB : B.get? C = none) (hd : ∀ o, h.get? C = some o → ∀ ws, o.data ≠ .fields ws) (hl : ∀ ev ∈ l, ev.frame ≠ some C) (k : Heap.SameBut C h h') : Heap.HeldW B l e cls a0 L h' := by
  obtain ⟨f1, f2, f3, oe, ws, T, oT, ts, a1, a2, a3, a4, a5, a6, a7, a8, a9⟩ := H
  have e1 : e ≠ C := fun q => hd _ (q ▸ a1) _ a3
  have e2 : T ≠ C := fun q => hd _ (q ▸ a7) _ a8
  refine ⟨fun b o q => (k.2 b fun z => ?_).trans (f1 b o q), f2, ?_, oe, ws, T, oT, ts, (k.2 _ e1).trans a1, a2, a3, a4, a5, a6, (k.2 _ e2).trans a7, a8, a9⟩
  · rw [z, hB] at q; cases q
  · clear f1 f2
    induction l with
    | nil => trivial
    | cons ev r ih =>
      obtain ⟨hk, ⟨L', o, hf, hn, ho, hdo⟩, hr⟩ := f3
      exact ⟨hk, ⟨L', o, hf, hn, (k.2 L' fun z => hl ev (.head _) (z ▸ hf)).trans ho, hdo⟩, ih (fun ev' h' => hl ev' (.tail _ h')) hr⟩
theorem heldS_drop {news' : List (Addr × Obj)} {h' : Heap} (R : HeldS base g₂ l e cls t vs news L h) (hb : base.get? C = none) (hg : g₂.get? C = none) (hd : ∀ o, h.get? C = some o → (∀ ws, o.data ≠ .fields ws) ∧ ∀ ws n, o.data ≠ .seq ws n) (hl : ∀ ev ∈ l, ev.frame ≠ some C) (k : Heap.SameBut C h h')
    (sub : ∀ p ∈ news', p ∈ news ∧ p.1 ≠ C) : HeldS base g₂ l e cls t vs news' L h' := by
  obtain ⟨⟨B, hB, hBG, hn, H, ht⟩, o, n, hto, htc, htd⟩ := R
  have nt : t ≠ C := fun q => (hd _ (q ▸ hto)).2 _ _ htd
  refine ⟨⟨hideAll B [C], fun b o q => hideAll_get _ (hB b o q) (fun z => ?_), fun b o q nm => hideAll_get _ (hBG b o q nm) (fun z => ?_), fun q hq => ?_, ?_, ?_⟩, o, n, (k.2 _ nt).trans hto, htc, htd⟩
  · rw [List.mem_singleton.mp z, hb] at q; cases q
  · rw [List.mem_singleton.mp z, hg] at q; cases q
  · obtain ⟨hq, nc⟩ := sub q hq
    exact ⟨hideAll_get _ (hn q hq).1 (by simpa using nc), (hn q hq).2⟩
  · have H' : Heap.HeldW (hideAll B [C]) l e cls (.ref t) L h := by
      obtain ⟨f1, f2, f3, oe, ws, T, oT, ts, a1, a2, a3, a4, a5, a6⟩ := H
      have nn : ∀ b, B.get? b = none → (hideAll B [C]).get? b = none := fun b q => by
        cases z : (hideAll B [C]).get? b with
        | none => rfl
        | some o => rw [of_hideAll _ z] at q; cases q
      refine ⟨fun b o q => f1 b o (of_hideAll _ q), nn _ f2, ?_, oe, ws, T, oT, ts, a1, a2, a3, a4, nn _ a5, a6⟩
      clear f1 f2 hBG hl
      induction l with
      | nil => trivial
      | cons ev r ih =>
        obtain ⟨hk, ⟨L', o, hf, hn', ho, hdo⟩, hr⟩ := f3
        exact ⟨hk, ⟨L', o, hf, nn _ hn', ho, hdo⟩, ih hr⟩
    exact heldW_keep H' (hideAll_none _ (.head _)) (fun o q => (hd o q).1) hl k
  · cases z : (hideAll B [C]).get? t with
    | none => rfl
    | some o => rw [of_hideAll _ z] at ht; cases ht
theorem pass_onS {what : String} (hc : cenv.frame = some L) (R : HeldS base g₂ l e cls t vs news L s'.heap) (hsm : g₂.UpToSlots s'.heap)
    (hE : ∀ h', HeldS base g₂ l e cls t vs news L h' → g₂.UpToSlots h' → E (.ref e) { s' with heap := h' }) : wpAny M A (PySem.passOn what (.ref e) cenv : Sem Value) (fun _ _ => False) E s' := by
  obtain ⟨⟨B, hB, hBG, hn, ⟨f1, f2, f3, oe, ws, T, oT, ts, a1, a2, a3, a4, a5, a6, a7, a8, a9⟩, hnt⟩, htup⟩ := R
  have hsz3 : 3 < ts.size := (Array.getElem?_eq_some_iff.mp a9).1
  unfold PySem.passOn setFlight
  refine wpAny_bind (wpAny_field a1 a3 a4 ?_)
  rw [if_neg (show ¬ (Value.ref T == Value.none) = true from by simp)]
  refine wpAny_bind (wpAny_bind (wpAny_field a1 a3 a4 ?_))
  rw [if_pos (show (Value.ref T != Value.none) = true from by simp)]
  refine wpAny_setField a7 a8 hsz3 ?_
  have other : ∀ b, b ≠ T → (s'.heap.update T (Obj.mapFields (·.setIfInBounds 3 (cenv.frame.elim Value.none fun f => rawInt f)))).get? b = s'.heap.get? b := fun b hb => Heap.get?_update_other _ _ (Ne.symm hb)
  have up : s'.heap.UpToSlots (s'.heap.update T (Obj.mapFields (·.setIfInBounds 3 (cenv.frame.elim Value.none fun f => rawInt f)))) := fun b o hb hnf =>
    ⟨o.slots, (other b (fun q => by rw [q, a7] at hb; cases hb; exact hnf _ a8)).trans hb⟩
  refine wpAny_throw (hE _ ⟨⟨B, hB, hBG, hn, ⟨fun b o q => (other b fun z => ?_).trans (f1 b o q), f2, ?_, oe, ws, T, _, _, (other e (Ne.symm a6)).trans a1, a2, a3, a4, a5, a6,
    Heap.get?_update_self _ a7 (Obj.isFreed_of_fields (Obj.data_mapFields a8 _)), Obj.data_mapFields a8 _, ?_⟩, hnt⟩, htup.of_slots up⟩ (hsm.trans up))
  · rw [z, a5] at q; cases q
  · exact f3.of_keeps fun b o hb hnf => let ⟨_, z⟩ := up b o hb hnf; ⟨_, z, rfl⟩
  · rw [hc]
    simp [hsz3]
end
end Mine
end

theorem Mine.reset_X11 : True := by
  w_top off
  k_with_none
  exact trivial
section
open PySem PySem.W PyProof.Rows PySem.Calls
set_option maxRecDepth 100000
set_option maxHeartbeats 4000000
namespace Mine
section
variable {M : Model} {A : Around} {E : Value → Shared → Prop} {s : Shared} {env : Env}
def postE (M : Model) (A : Around) (E : Value → Shared → Prop) (u : Value → Sem Unit) (Q : Value → Shared → Prop) (acc : Value) (cenv : Env) (r : Result) (s' : Shared) : Prop :=
  match r with
  | .ok _ => wpAny M A (u acc) (fun _ s'' => ∃ m, s''.heap.Ns cenv.locals m ∧ ∀ h', Heap.SameBut cenv.locals s''.heap h' → Q .none { s'' with heap := h' }) E s'
  | .error x => ∃ m, s'.heap.Ns cenv.locals m ∧ ∀ h', Heap.SameBut cenv.locals s'.heap h' → wpAny M A (PySem.passOn "comprehension.variables-let-go" x cenv : Sem Value) (fun _ _ => False) E { s' with heap := h' }
theorem comp_free {e : PySem.Expr} {scope : Scope} {pos : Pos} {newAcc first : Sem Value} {g : Comprehension} {gs : List Comprehension} {cl : List (Str × Addr)} {u : Value → Sem Unit} {Q : Value → Shared → Prop}
    (hcl : clausesOf e = g :: gs) (hs : ∀ x, foldedSetIterable g.iter env x = pure x) (hclos : closureFor scope env = pure cl)
    (hkind : scope.kind = .function) (hnames : ∀ x ∈ scope.names, x.2 = .local → scope.names.lookup x.1 = some .local)
    (h : wpAny M A first (fun x s₁ => wpAny M A (pyIter x) (fun it s₂ => wpAny M A newAcc (fun acc s₃ =>
      wpAny M A (newFunctionEnv scope env.globals cl [] env.qual none .none (some env)) (fun cenv s₄ =>
        codeAny M A (.compStart e 0 it acc { cenv with scope := relabel scope env }) (postE M A E u Q acc { cenv with scope := relabel scope env }) s₄) E s₃) E s₂) E s₁) E s) :
    wpAny M A (comprehension e scope env pos newAcc false first (some u)) Q E s := by
  unfold comprehension
  rw [hclos, hcl]
  refine wpAny_bind (wpAny_mono h (fun x s₁ h₁ => wpAny_bind (wpAny_standAt (wpAny_bind (wpAny_of_eq (hs x) (wpAny_bind (wpAny_holding (wpAny_mono h₁ (fun it s₂ h₂ =>
    wpAny_standIf (wpAny_bind (wpAny_mono h₂ (fun acc s₃ h₃ => wpAny_bind (wpAny_pure (wpAny_bind (wpAny_mono h₃ (fun cenv s₄ h₄ => ?_) fun _ _ h' => h')))) fun _ _ h' => h')))
      fun _ _ h' => h'))))))) fun _ _ h' => h')
  dsimp only
  have all : ∀ l : List (Str × NameKind), (∀ x ∈ l, x ∈ (scope.names.filter fun x => (x.2 == .local || x.2 == .cell) && x.1 != (".0" : Str))) → ∀ x ∈ l, x.2 = .local → Env.kindOf { cenv with scope := relabel scope env } x.1 = some .local :=
    fun l hl x hx hk => lookup_relabel_local (hnames x (List.mem_filter.mp (hl x hx)).1 hk)
  refine wpAny_holding (wpAny_bind (wpAny_attempt (wpAny_holding (wpAny_run (codeAny_mono h₄ fun r s' hr => ?_)))))
  cases r with
  | ok f =>
    refine wpAny_bind (wpAny_rule (wpAny_bind (wpAny_holding (wpAny_mono hr (fun _ s'' hr' => ?_) fun _ _ h' => h'))))
    obtain ⟨m, hn, hr'⟩ := hr'
    exact wpAny_bind (wpAny_comp_letGo (cenv := { cenv with scope := relabel scope env }) hkind _ s'' m (all _ fun x hx => by
      rcases List.mem_append.mp hx with h1 | h1
      · exact List.mem_reverse.mp (List.mem_of_mem_drop h1)
      · exact List.mem_reverse.mp (List.mem_of_mem_take h1)) hn fun h' m' _ hs' => wpAny_pure (hr' h' hs'))
  | error x =>
    obtain ⟨m, hn, hr⟩ := hr
    exact wpAny_bind (wpAny_holding (wpAny_comp_letGo (cenv := { cenv with scope := relabel scope env }) hkind _ s' m (all _ fun x hx => List.mem_reverse.mp hx) hn fun h' m' _ hs' => wpAny_mono (hr h' hs') (fun _ _ f => f.elim) fun _ _ y => y))
end
def CRest (prog : Program) (w : World) (A : Around) (h₀ : Heap) (L : Addr) (m : Str → Option Value) (env : Env) (elt : PySem.Expr) (x : Str) (scope : Scope) (cl : List (Str × Addr)) (s : Shared) (S : List (Addr × Obj) → Prop) (P : Nat → Value → Prop)
    (Fin : List Value → List (Addr × Obj) → Prop) (Er : Addr → Value → Shared → Prop) : Nat → Nat → List Value → List (Addr × Obj) → Prop
  | 0, _, ys, news => Fin ys news
  | k + 1, i, ys, news => ∀ v I oI C oC D m₂ h tk, P i v → LCg.NsObj oC m₂ → m₂ x = some v → Fr h₀ L h m → News h₀ L h ((I, oI) :: (C, oC) :: (D, LCg.lst ys) :: news) → LCg.Off3 I C D news → ((@Ne Nat I C) ∧ (@Ne Nat I D) ∧ (@Ne Nat C D)) →
      wpAny (model prog w) A (eval elt (compEnvC scope cl C env)) (LCg.CompEnd h₀ L m { s with heap := h, toks := tk } I oI C oC D (LCg.lst ys) S (fun y news' => CRest prog w A h₀ L m env elt x scope cl s S P Fin Er k (i + 1) (ys ++ [y]) news')) (Er C) { s with heap := h, toks := tk }
section
variable {prog : Program} {w : World} {A : Around} {E : Value → Shared → Prop} {s : Shared} {h₀ : Heap} {L : Addr} {m : Str → Option Value} {env : Env}
theorem CRest.zero {elt : PySem.Expr} {x : Str} {scope : Scope} {cl : List (Str × Addr)} {S : List (Addr × Obj) → Prop} {P : Nat → Value → Prop} {Fin : List Value → List (Addr × Obj) → Prop} {Er : Addr → Value → Shared → Prop} {i : Nat} {ys : List Value} {news : List (Addr × Obj)} (h : Fin ys news) :
    CRest prog w A h₀ L m env elt x scope cl s S P Fin Er 0 i ys news := h
theorem CRest.succ {elt : PySem.Expr} {x : Str} {scope : Scope} {cl : List (Str × Addr)} {S : List (Addr × Obj) → Prop} {P : Nat → Value → Prop} {Fin : List Value → List (Addr × Obj) → Prop} {Er : Addr → Value → Shared → Prop} {k i : Nat} {ys : List Value} {news : List (Addr × Obj)}
    (h : ∀ v I oI C oC D m₂ h tk, P i v → LCg.NsObj oC m₂ → m₂ x = some v → Fr h₀ L h m → News h₀ L h ((I, oI) :: (C, oC) :: (D, LCg.lst ys) :: news) → LCg.Off3 I C D news → ((@Ne Nat I C) ∧ (@Ne Nat I D) ∧ (@Ne Nat C D)) →
      wpAny (model prog w) A (eval elt (compEnvC scope cl C env)) (LCg.CompEnd h₀ L m { s with heap := h, toks := tk } I oI C oC D (LCg.lst ys) S (fun y news' => CRest prog w A h₀ L m env elt x scope cl s S P Fin Er k (i + 1) (ys ++ [y]) news')) (Er C) { s with heap := h, toks := tk }) :
    CRest prog w A h₀ L m env elt x scope cl s S P Fin Er (k + 1) i ys news := h
theorem block_E {elt iter : PySem.Expr} {x : Str} {px : Pos} {scope : Scope} {cl : List (Str × Addr)} {pos : Pos} {s₂ : Shared} {I : Addr} {fp : List Addr} {n : Nat} {P : Nat → Value → Prop} {St : Nat → Heap → Prop} {S : List (Addr × Obj) → Prop} {news : List (Addr × Obj)}
    {Fin : List Value → List (Addr × Obj) → Prop} {RR : Value → Env → Result → Shared → Prop}
    (W : Walks prog w A I fp [I] n P St) (hsz : n ≤ sizeLine) (hIo : ∀ i h, St i h → ∃ o, h.get? I = some o)
    (hSt : ∀ i h h' o nw, St i h → h.get? I = some o → h'.get? I = some o → (∀ b o, h₀.get? b = some o → h'.get? b = some o) → News h₀ L h' nw → S nw → St i h')
    (hcell : ∀ y ∈ scope.names, y.2 ≠ .cell) (hkind : scope.kind = .function) (hx : scope.names.lookup x = some .local) (hst : St 0 s₂.heap) (hfp : ∀ b ∈ fp, b < s₂.heap.objs.size)
    (F : Fr h₀ L s₂.heap m) (N : News h₀ L s₂.heap news) (hIL : L ≠ I) (hI₀ : h₀.get? I = none) (off : ∀ p ∈ news, p.1 ≠ I) (hS : S news)
    (R : ∀ D, CRest prog w A h₀ L m env elt x scope cl s₂ S P Fin (fun C => notedBy (model prog w) A (compEnvC scope cl C env) (fun e s' => RR (.ref D) (compEnvC scope cl C env) (.error e) s')) n 0 [] news)
    (hRR : ∀ D C h tk m' ys news', Fr h₀ L h m → News h₀ L h ((D, LCg.lst ys) :: news') → LCg.Off1 D news' → h.Ns C m' → h₀.get? C = none → h₀.get? D = none → C ≠ L → D ≠ L → C ≠ D → (∀ p ∈ news', p.1 ≠ C) → Fin ys news' → RR (.ref D) (compEnvC scope cl C env) (.ok .next) { s₂ with heap := h, toks := tk }) :
    wpAny (model prog w) A (newList []) (fun acc s₃ => wpAny (model prog w) A (newFunctionEnv scope env.globals cl [] env.qual none .none (some env)) (fun cenv s₄ =>
      codeAny (model prog w) A (.compStart (.ListComp elt [⟨.Name x px, iter, [], 0⟩] scope pos) 0 (.ref I) acc { cenv with scope := relabel scope env }) (RR acc { cenv with scope := relabel scope env }) s₄) E s₃) E s₂ := by
  refine wpAny_newObj_type (wpAny_newFunctionEnv hcell (by intro y hy; simp at hy) (fun h₁ hns₁ hsb₁ => ?_) hkind)
  dsimp only at hns₁ hsb₁ ⊢
  generalize hH2 : s₂.heap.push { cls := .type "list", dict := none, data := .seq ([] : List Value).toArray } = H2 at hns₁ hsb₁ ⊢
  have hC : H2.objs.size = s₂.heap.objs.size + 1 := by rw [← hH2, Heap.size_push]
  have hDC : s₂.heap.objs.size ≠ H2.objs.size := by rw [hC]; exact Nat.ne_of_lt (Nat.lt_succ_self _)
  have below : ∀ b, b < s₂.heap.objs.size → b ≠ H2.objs.size ∧ b ≠ s₂.heap.objs.size := fun b hb => ⟨by rw [hC]; exact Nat.ne_of_lt (Nat.lt_succ_of_lt hb), Nat.ne_of_lt hb⟩
  have hDf : s₂.heap.objs.size ∉ fp := fun hm => Nat.lt_irrefl _ (hfp _ hm)
  have hCf : H2.objs.size ∉ fp := fun hm => by have := hfp _ hm; rw [hC] at this; exact Nat.lt_irrefl _ (Nat.lt_of_succ_lt this)
  have hIlt : I < s₂.heap.objs.size := hfp I (W.sub I (List.mem_singleton.mpr rfl))
  have old : ∀ b o, s₂.heap.get? b = some o → h₁.get? b = some o := fun b o e => hsb₁.extBut b o (below b (Heap.lt_size e)).1 (Heap.get?_push_of_some _ (hH2 ▸ Heap.get?_push_of_some _ e))
  have hacc : h₁.get? s₂.heap.objs.size = some (LCg.lst []) := hsb₁.extBut _ _ hDC (Heap.get?_push_of_some _ (hH2 ▸ Heap.get?_push_size _ rfl))
  have hst₁ : St 0 h₁ := W.frame _ _ _ hst fun b _ o e => old b o e
  have fresh₀ : ∀ a, s₂.heap.objs.size ≤ a → h₀.get? a = none := fun a ha => by
    cases e : h₀.get? a with
    | none => rfl
    | some o' => exact absurd (Heap.lt_size (F.keep a o' e)) (Nat.not_lt.mpr ha)
  have hD₀ : h₀.get? s₂.heap.objs.size = none := fresh₀ _ (Nat.le_refl _)
  have hC₀ : h₀.get? H2.objs.size = none := fresh₀ _ (by rw [hC]; exact Nat.le_succ _)
  have hDL : s₂.heap.objs.size ≠ L := Ne.symm (below L F.ns.lt).2
  have hCL : H2.objs.size ≠ L := Ne.symm (below L F.ns.lt).1
  have hCI : I ≠ H2.objs.size := (below I hIlt).1
  have hDI : I ≠ s₂.heap.objs.size := (below I hIlt).2
  have off₀ : LCg.Off3 I H2.objs.size s₂.heap.objs.size news := LCg.Off3.of fun p hp => ⟨off p hp, (below _ (Heap.lt_size (N p hp).1)).1, (below _ (Heap.lt_size (N p hp).1)).2⟩
  have loop : ∀ s₃ : Shared, s₃ = { s₂ with heap := h₁, toks := s₂.toks + ([] : List (Str × Value)).length } →
      codeAny (model prog w) A (.compLoop (.ListComp elt [⟨.Name x px, iter, [], 0⟩] scope pos) 0 (.ref I) (.ref s₂.heap.objs.size) (compEnvC scope cl H2.objs.size env))
        (RR (.ref s₂.heap.objs.size) (compEnvC scope cl H2.objs.size env)) s₃ := by
    rintro s₃ rfl
    refine codeAny_compLoop_tests
      (fun k s' => ∃ h' tk i ys m' news', s' = { s₂ with heap := h', toks := tk } ∧ i ≤ n ∧ k = n + 1 - i ∧ ys.length = i ∧ St i h' ∧ Fr h₀ L h' m ∧ h'.Ns H2.objs.size m' ∧ News h₀ L h' ((s₂.heap.objs.size, LCg.lst ys) :: news') ∧
        LCg.Off3 I H2.objs.size s₂.heap.objs.size news' ∧ S news' ∧ CRest prog w A h₀ L m env elt x scope cl s₂ S P Fin (fun C => notedBy (model prog w) A (compEnvC scope cl C env) (fun e s' => RR (.ref s₂.heap.objs.size) (compEnvC scope cl C env) (.error e) s')) (n - i) i ys news') ?_ (n + 1)
      ⟨h₁, _, 0, [], _, news, rfl, Nat.zero_le _, rfl, rfl, hst₁, F.keeps old, hns₁, fun p hp => ?_, off₀, hS, R _⟩
    · rintro k s' ⟨h', tk, i, ys, m', news', rfl, hi, rfl, hyl, hst', F', hn', N', off', hS', R'⟩
      by_cases hlt : i < n
      · obtain ⟨j, hj⟩ : ∃ j, n - i = j + 1 := ⟨n - i - 1, by omega⟩
        rw [hj] at R'
        refine W.item i _ _ _ hlt hst' fun v h₂ tk₂ hPv hst₂ hk₂ => ?_
        refine wpAny_assign_Name (wpAny_storeName_local (lookup_relabel_local hx) (hn'.at' fun o e => hk₂ _ o (by simpa using Ne.symm hCI) e) (fun h₃ hn₃ hs₃ => ?_) (by simp [compEnvC, relabel, hkind]))
        refine wpAny_tests_nil ?_
        simp only [if_true]
        have hst₃ : St (i + 1) h₃ := W.frame _ _ _ hst₂ fun b hb o e => hs₃.extBut b o (fun q => hCf (by have q' : b = H2.objs.size := q; rw [← q']; exact hb)) e
        obtain ⟨oI, heI⟩ := hIo _ _ hst₃
        obtain ⟨oC, heC, hoC⟩ := LCg.ns_obj hn₃
        have F₃ : Fr h₀ L h₃ m := (LCg.fr_but F' hk₂ hIL hI₀).change hs₃ hCL hC₀
        have off3 := off'.mem
        have N₂ : News h₀ L h₂ ((s₂.heap.objs.size, LCg.lst ys) :: news') := LCg.news_but N' hk₂ fun p hp => by
          rcases List.mem_cons.mp hp with rfl | hp
          · exact Ne.symm hDI
          · exact (off3 p hp).1
        have N₃ : News h₀ L h₃ ((I, oI) :: (H2.objs.size, oC) :: (s₂.heap.objs.size, LCg.lst ys) :: news') := fun p hp => by
          rcases List.mem_cons.mp hp with rfl | hp
          · exact ⟨heI, Ne.symm hIL, hI₀⟩
          · rcases List.mem_cons.mp hp with rfl | hp
            · exact ⟨heC, hCL, hC₀⟩
            · have z := N₂ p hp
              refine ⟨hs₃.extBut _ _ ?_ z.1, z.2⟩
              rcases List.mem_cons.mp hp with rfl | hp
              · exact hDC
              · exact (off3 p hp).2.1
        refine wpAny_mono (R' v I oI H2.objs.size oC s₂.heap.objs.size _ h₃ _ hPv hoC (by simp) F₃ N₃ off' ⟨hCI, hDI, Ne.symm hDC⟩) (fun y s₄ h₄ => ?_) fun _ _ e => e
        obtain ⟨h₄, tk₄, news₄, rfl, F₄, N₄, off₄, hS₄, R₄⟩ := h₄
        have zI := (N₄ (I, oI) List.mem_cons_self).1
        have zC := (N₄ (H2.objs.size, oC) (List.mem_cons_of_mem _ List.mem_cons_self)).1
        have zD := (N₄ (s₂.heap.objs.size, LCg.lst ys) (List.mem_cons_of_mem _ (List.mem_cons_of_mem _ List.mem_cons_self))).1
        have N₄' : News h₀ L h₄ news₄ := fun p hp => N₄ p (List.mem_cons_of_mem _ (List.mem_cons_of_mem _ (List.mem_cons_of_mem _ hp)))
        have hst₄ : St (i + 1) h₄ := hSt _ _ _ _ _ hst₃ heI zI F₄.keep N₄' hS₄
        refine append_at (hsz := by show ys.toArray.size ≤ sizeLine; rw [List.size_toArray, hyl]; exact Nat.le_trans hi hsz) zD fun h₅ hs₅ hD₅ => ?_
        have off4 := off₄.mem
        refine ⟨n + 1 - (i + 1), by omega, h₅, tk₄, i + 1, ys ++ [y], _, news₄, rfl, hlt, rfl, by rw [List.length_append, List.length_singleton, hyl], W.frame _ _ _ hst₄ fun b hb o e => hs₅.extBut b o (fun q => hDf (q ▸ hb)) e, F₄.change hs₅ hDL hD₀,
          (hoC.ns zC).sameBut hs₅ (Ne.symm hDC), fun p hp => ?_, off₄, hS₄, ?_⟩
        · rcases List.mem_cons.mp hp with rfl | hp
          · exact ⟨hD₅.trans (congrArg some (LCg.lst_snoc ys y)), hDL, hD₀⟩
          · exact ⟨hs₅.extBut _ _ (off4 p hp).2.2 (N₄' p hp).1, (N₄' p hp).2⟩
        · rw [show n - (i + 1) = j by omega]
          exact R₄
      · obtain rfl : i = n := Nat.le_antisymm hi (Nat.not_lt.mp hlt)
        rw [Nat.sub_self] at R'
        refine W.done _ _ _ hst' fun h₂ tk₂ hk₂ => ?_
        have off3 := off'.mem
        exact hRR _ _ h₂ tk₂ _ ys news' (LCg.fr_but F' hk₂ hIL hI₀) (LCg.news_but N' hk₂ fun p hp => by
          rcases List.mem_cons.mp hp with rfl | hp
          · exact Ne.symm hDI
          · exact (off3 p hp).1) off'.one (hn'.at' fun o e => hk₂ _ o (by simpa using Ne.symm hCI) e) hC₀ hD₀ hCL hDL (Ne.symm hDC) (fun p hp => (off3 p hp).2.1) R'
    · rcases List.mem_cons.mp hp with rfl | hp
      · exact ⟨hacc, hDL, hD₀⟩
      · exact ⟨old _ _ (N p hp).1, (N p hp).2⟩
  exact codeAny_compStart_list (loop _ rfl) (W.self 0 _ _ _ hst₁ (loop _ rfl))
end
end Mine
end

theorem Mine.reset_X12 : True := by
  w_top off
  k_with_none
  exact trivial
section
open PySem PySem.W PyProof.Rows PySem.Calls
set_option maxRecDepth 100000
set_option maxHeartbeats 4000000
namespace Mine
def ErrE (M : Model) (A : Around) (E : Value → Shared → Prop) (env : Env) (scope : Scope) (cl : List (Str × Addr)) (C : Addr) : Value → Shared → Prop :=
  notedBy M A (compEnvC scope cl C env) (fun x s' => ∃ m, s'.heap.Ns C m ∧ ∀ h', Heap.SameBut C s'.heap h' → wpAny M A (PySem.passOn "comprehension.variables-let-go" x (compEnvC scope cl C env) : Sem Value) (fun _ _ => False) E { s' with heap := h' })
def SrcE (prog : Program) (w : World) (A : Around) (h₀ : Heap) (L : Addr) (m : Str → Option Value) (env : Env) (elt : PySem.Expr) (x : Str) (scope : Scope) (cl : List (Str × Addr)) (Fin : Shared → List Value → List (Addr × Obj) → Prop) (Er : Addr → Value → Shared → Prop) (xv : Value) (s₁ : Shared) : Prop :=
  ∃ ax its news, xv = .ref ax ∧ A.handled = none ∧ Fr h₀ L s₁.heap m ∧ News h₀ L s₁.heap news ∧ TupAt h₀ ax its news ∧ its.size ≤ sizeLine ∧
    ∀ g, CRest prog w A h₀ L m env elt x scope cl { s₁ with heap := g } (TupAt h₀ ax its) (fun i v => its[i]? = some v) (Fin { s₁ with heap := g }) Er its.size 0 [] news
section
variable {prog : Program} {w : World} {A : Around} {E : Value → Shared → Prop} {s : Shared} {h₀ : Heap} {L : Addr} {m : Str → Option Value} {env : Env}
theorem SrcE.intro {elt : PySem.Expr} {x : Str} {scope : Scope} {cl : List (Str × Addr)} {Fin : Shared → List Value → List (Addr × Obj) → Prop} {Er : Addr → Value → Shared → Prop} {ax : Addr} {its : Array Value} {k : Nat} {news : List (Addr × Obj)} {s₁ : Shared}
    (hh : A.handled = none) (F : Fr h₀ L s₁.heap m) (N : News h₀ L s₁.heap news) (hm : (ax, ({ cls := .type "tuple", data := .seq its k } : Obj)) ∈ news) (hsz : its.size ≤ sizeLine)
    (h : ∀ g, CRest prog w A h₀ L m env elt x scope cl { s₁ with heap := g } (TupAt h₀ ax its) (fun i v => its[i]? = some v) (Fin { s₁ with heap := g }) Er its.size 0 [] news) :
    SrcE prog w A h₀ L m env elt x scope cl Fin Er (.ref ax) s₁ := ⟨ax, its, news, rfl, hh, F, N, .inr ⟨_, hm⟩, hsz, h⟩
theorem comp_coreE {elt iter : PySem.Expr} {x : Str} {px : Pos} {scope : Scope} {cl : List (Str × Addr)} {pos : Pos} {ax : Addr} {its : Array Value} {s₁ : Shared} {news : List (Addr × Obj)} {Fin : Heap → List Value → List (Addr × Obj) → Prop} {Er : Addr → Value → Shared → Prop} {RR : Value → Env → Result → Shared → Prop}
    (hh : A.handled = none) (F : Fr h₀ L s₁.heap m) (N : News h₀ L s₁.heap news) (S : TupAt h₀ ax its news) (hsz : its.size ≤ sizeLine)
    (hcell : ∀ y ∈ scope.names, y.2 ≠ .cell) (hkind : scope.kind = .function) (hx : scope.names.lookup x = some .local)
    (hEr : ∀ D C, notedBy (model prog w) A (compEnvC scope cl C env) (fun e s' => RR (.ref D) (compEnvC scope cl C env) (.error e) s') = Er C)
    (R : ∀ g, CRest prog w A h₀ L m env elt x scope cl { s₁ with heap := g } (TupAt h₀ ax its) (fun i v => its[i]? = some v) (Fin g) Er its.size 0 [] news)
    (hRR : ∀ g D C h tk m' ys news', Fr h₀ L h m → News h₀ L h ((D, LCg.lst ys) :: news') → LCg.Off1 D news' → h.Ns C m' → h₀.get? C = none → h₀.get? D = none → C ≠ L → D ≠ L → C ≠ D → (∀ p ∈ news', p.1 ≠ C) → Fin g ys news' → RR (.ref D) (compEnvC scope cl C env) (.ok .next) { s₁ with heap := h, toks := tk }) :
    wpAny (model prog w) A (pyIter (.ref ax)) (fun it s₂ => wpAny (model prog w) A (newList []) (fun acc s₃ => wpAny (model prog w) A (newFunctionEnv scope env.globals cl [] env.qual none .none (some env)) (fun cenv s₄ =>
      codeAny (model prog w) A (.compStart (.ListComp elt [⟨.Name x px, iter, [], 0⟩] scope pos) 0 it acc { cenv with scope := relabel scope env }) (RR acc { cenv with scope := relabel scope env }) s₄) E s₃) E s₂) E s₁ := by
  have hl := S.tup F.keep N
  have hlt : ax < s₁.heap.objs.size := by obtain ⟨_, e, _⟩ := hl; exact Heap.lt_size e
  have up : ∀ b o, s₁.heap.get? b = some o → (s₁.heap.push { cls := .type "tuple_iterator", data := .fields #[.ref ax, .int 0 0] }).get? b = some o := fun b o e => Heap.get?_push_of_some _ e
  refine wpAny_pyIter_tuple hl ?_
  refine block_E (Walks.tuple hh s₁.heap.objs.size ax (Nat.ne_of_lt hlt) its) hsz (fun i h st => by obtain ⟨o, e, _⟩ := st.1; exact ⟨o, e⟩) tup_st hcell hkind hx
    ⟨⟨_, Heap.get?_push_size _ rfl, rfl, rfl⟩, by obtain ⟨o, e, r⟩ := hl; exact ⟨o, Heap.get?_push_of_some _ e, r⟩⟩ (fun b hb => ?_)
    (F.keeps up) (N.grown up) (Nat.ne_of_lt F.ns.lt) (next_is_new F) (fun p hp => Nat.ne_of_lt (Heap.lt_size (N p hp).1)) S (fun D => ?_) (hRR (s₁.heap.push { cls := .type "tuple_iterator", data := .fields #[.ref ax, .int 0 0] }))
  · show b < (s₁.heap.push _).objs.size
    rw [Heap.size_push]
    rcases List.mem_cons.mp hb with rfl | hb
    · exact Nat.lt_succ_self _
    · rw [List.mem_singleton.mp hb]; exact Nat.lt_succ_of_lt hlt
  · rw [show (fun C => notedBy (model prog w) A (compEnvC scope cl C env) (fun e s' => RR (.ref D) (compEnvC scope cl C env) (.error e) s')) = Er from funext fun C => hEr D C]
    exact R _
theorem assign_compE {elt iter : PySem.Expr} {x y : Str} {px py : Pos} {scope : Scope} {cl : List (Str × Addr)} {pos spos : Pos} {Q : Flow → Shared → Prop} (F₀ : Fr h₀ L s.heap m) (hLe : env.locals = L)
    (hsw : swapsWith (.ListComp elt [⟨.Name x px, iter, [], 0⟩] scope pos) (some (.Name y py)) spos.line env = pure true)
    (hclos : closureFor scope env = pure cl) (hcell : ∀ z ∈ scope.names, z.2 ≠ .cell) (hkind : scope.kind = .function)
    (hnames : ∀ z ∈ scope.names, z.2 = .local → scope.names.lookup z.1 = some .local) (hx : scope.names.lookup x = some .local)
    (hy : env.kindOf y = some .local) (hp : (env.scope.kind == .class || (env.scope.kind == .module && env.locals != env.globals)) = false)
    (h : wpAny (model prog w) A (eval iter env) (SrcE prog w A h₀ L m env elt x scope cl (fun s₂ => LCg.FinA h₀ L m s₂ y Q) (ErrE (model prog w) A E env scope cl)) E s)
    (hs : ∀ x, foldedSetIterable iter env x = pure x := by intro _; rfl) :
    wpAny (model prog w) A (exec (.Assign [.Name y py] (.ListComp elt [⟨.Name x px, iter, [], 0⟩] scope pos) spos) env) Q E s := by
  subst hLe
  rw [exec_Assign_Name_used _ _ _ _ hsw]
  refine wpAny_bind (wpAny_standAt (wpAny_bind ?_))
  show wpAny _ A (do let _ ← comprehension (.ListComp elt [⟨.Name x px, iter, [], 0⟩] scope pos) scope env _ (newList []) false (eval iter env) (some (assign (.Name y py) env))) _ _ s
  refine wpAny_bind (wpAny_mono (comp_free (u := assign (.Name y py) env) (Q := fun _ s' => Q .next s') rfl hs hclos hkind hnames
    (wpAny_mono h (fun xv s₁ h₁ => ?_) fun _ _ e => e)) (fun _ s' hq => wpAny_pure (wpAny_pure hq)) fun _ _ e => e)
  obtain ⟨ax, its, news, rfl, hh, F, N, S, hsz, R⟩ := h₁
  refine comp_coreE (Fin := fun g => LCg.FinA h₀ env.locals m { s₁ with heap := g } y Q) hh F N S hsz hcell hkind hx (fun D C => rfl) R ?_
  intro g D C h' tk m' ys news' F' N' o1 hn hC₀ hD₀ hCL hDL hCD offC fin
  show wpAny _ A (assign (.Name y py) env (.ref D)) _ _ _
  refine wpAny_assign_Name (wpAny_storeName_local hy F'.ns (fun h₂ hn₂ hs₂ => ?_) hp)
  have hL₀ : h₀.get? env.locals = none := Heap.get?_none_of_le F'.above
  have F₂ : Fr h₀ env.locals h₂ (fun z => if z = y then some (.ref D) else m z) := ⟨hn₂, fun b o e => hs₂.extBut b o (fun q => by rw [q, hL₀] at e; cases e) (F'.keep b o e), F'.above⟩
  refine ⟨m', hn.sameBut hs₂ hCL, fun h'' hs'' => fin D h'' _ (F₂.change hs'' hCL hC₀) (fun p hp => ?_) o1⟩
  have z : h₂.get? p.1 = some p.2 := hs₂.extBut _ _ (N' p hp).2.1 (N' p hp).1
  refine ⟨hs''.extBut _ _ ?_ z, (N' p hp).2⟩
  rcases List.mem_cons.mp hp with rfl | hp
  · exact Ne.symm hCD
  · exact offC p hp
theorem errE_done {M : Model} {base g₂ : Heap} {outer : List Env} {e t C : Addr} {oC : Obj} {m₂ : Str → Option Value} {cls : Value} {vs : List Value} {newsR news : List (Addr × Obj)} {scope : Scope} {cl : List (Str × Addr)} {s' : Shared}
    (hfr : A.frames = some (env :: outer)) (hf : env.frame = some L) (R : RaisedS base g₂ (env :: outer) e cls t vs newsR s'.heap) (hsm : g₂.UpToSlots s'.heap) (hC : (C, oC) ∈ newsR) (hN : LCg.NsObj oC m₂)
    (sub : ∀ p ∈ news, p ∈ newsR ∧ p.1 ≠ C)
    (hE : ∀ h', HeldS base g₂ (env :: outer) e cls t vs news L h' → g₂.UpToSlots h' → E (.ref e) { s' with heap := h' }) : ErrE M A E env scope cl C (.ref e) s' := by
  obtain ⟨es, ep, hd, _⟩ := id hN
  refine looks_onS hfr hf rfl R fun h' H up => ?_
  have hc : ∃ B, base.StaysIn B ∧ (B.get? C = some oC ∧ g₂.get? C = none ∧ base.get? C = none) ∧ B.StaysIn h' ∧ h'.FunFrames B (env :: outer) := by
    obtain ⟨⟨B, hB, _, hn, ⟨f1, _, f3, _⟩, _⟩, _⟩ := H
    exact ⟨B, hB, hn _ hC, f1, f3⟩
  obtain ⟨B, hB, ⟨hBC, hgC, hbC⟩, hst, hfl⟩ := hc
  have hCh := hst _ _ hBC
  have nf : ∀ ev ∈ (env :: outer), ev.frame ≠ some C := fun ev hev q => by
    have := (hfl.mem (b := C) (List.mem_filterMap.mpr ⟨ev, hev, q⟩)).1
    rw [hBC] at this; cases this
  refine ⟨m₂, hN.ns hCh, fun h'' hs => ?_⟩
  have H' := heldS_drop (news' := news) H hbC hgC (fun o q => by rw [hCh] at q; cases q; exact ⟨(fun ws z => by rw [hd] at z; cases z), (fun ws n z => by rw [hd] at z; cases z)⟩) nf hs sub
  refine pass_onS (L := L) hf H' (fun b o q hnf => ?_) fun h₃ H₃ U₃ => hE h₃ H₃ U₃
  obtain ⟨sl, z⟩ := (hsm.trans up) b o q hnf
  exact ⟨sl, (hs.2 b fun y => by rw [y, hgC] at q; cases q).trans z⟩
end
end Mine
end

theorem Mine.reset_X13 : True := by
  w_top off
  k_with_none
  exact trivial
section
open PySem PySem.W PyProof.Rows PySem.Calls PyProof.V
set_option maxRecDepth 100000
set_option maxHeartbeats 4000000
namespace Mine
theorem SrcE.two {prog : Program} {w : World} {A : Around} {h₀ : Heap} {L : Addr} {m : Str → Option Value} {env : Env} {elt : PySem.Expr} {x : Str} {scope : Scope} {cl : List (Str × Addr)} {Fin : Shared → List Value → List (Addr × Obj) → Prop} {Er : Addr → Value → Shared → Prop} {ax : Addr} {u v : Value} {k : Nat} {news : List (Addr × Obj)} {s₁ : Shared}
    (hh : A.handled = none) (F : Fr h₀ L s₁.heap m) (N : News h₀ L s₁.heap news) (hm : (ax, ({ cls := .type "tuple", data := .seq #[u, v] k } : Obj)) ∈ news)
    (h : ∀ g, CRest prog w A h₀ L m env elt x scope cl { s₁ with heap := g } (TupAt h₀ ax #[u, v]) (fun i y => (#[u, v] : Array Value)[i]? = some y) (Fin { s₁ with heap := g }) Er 2 0 [] news) :
    SrcE prog w A h₀ L m env elt x scope cl Fin Er (.ref ax) s₁ := SrcE.intro hh F N hm (by show 2 ≤ sizeLine; rw [sizeLine_eq]; decide) h
theorem words_X13_1 : True := by
  w_top off
  k_with_none
  (k_with "k_ne" => (refine neN ?_; (try dsimp only); first | assumption | exact Ne.symm (by assumption) | exact Nat.ne_of_gt (by assumption) | exact Nat.ne_of_lt (by assumption) | (refine' Nat.ne_of_gt ?_; iterate 6 (try (first | exact Nat.lt_succ_self _ | refine' Nat.lt_succ_of_lt ?_)); done) | (refine' Nat.ne_of_lt ?_; iterate 6 (try (first | exact Nat.lt_succ_self _ | refine' Nat.lt_succ_of_lt ?_)); done) | exact Nat.ne_of_gt (And.left (by assumption)) | exact Nat.ne_of_lt (And.left (by assumption)) | exact Nat.ne_of_gt (And.left (And.right (by assumption))) | exact Nat.ne_of_gt (And.right (by assumption)) | exact Nat.ne_of_lt (And.left (And.right (by assumption))) | exact Nat.ne_of_lt (And.right (by assumption)) | exact Nat.ne_of_gt (And.left (And.right (And.right (by assumption)))) | exact Nat.ne_of_gt (And.right (And.right (by assumption))) | exact Nat.ne_of_lt (And.left (And.right (And.right (by assumption)))) | exact Nat.ne_of_lt (And.right (And.right (by assumption))) | exact Nat.ne_of_gt (And.left (And.right (And.right (And.right (by assumption))))) | exact Nat.ne_of_gt (And.right (And.right (And.right (by assumption)))) | exact Nat.ne_of_lt (And.left (And.right (And.right (And.right (by assumption))))) | exact Nat.ne_of_lt (And.right (And.right (And.right (by assumption)))) | exact Nat.ne_of_gt (And.left (And.right (And.right (And.right (And.right (by assumption)))))) | exact Nat.ne_of_gt (And.right (And.right (And.right (And.right (by assumption))))) | exact Nat.ne_of_lt (And.left (And.right (And.right (And.right (And.right (by assumption)))))) | exact Nat.ne_of_lt (And.right (And.right (And.right (And.right (by assumption))))) | exact Nat.ne_of_gt (And.left (And.right (And.right (And.right (And.right (And.right (by assumption))))))) | exact Nat.ne_of_gt (And.right (And.right (And.right (And.right (And.right (by assumption)))))) | exact Nat.ne_of_lt (And.left (And.right (And.right (And.right (And.right (And.right (by assumption))))))) | exact Nat.ne_of_lt (And.right (And.right (And.right (And.right (And.right (by assumption)))))) | exact Nat.ne_of_gt (And.left (And.right (And.right (And.right (And.right (And.right (And.right (by assumption)))))))) | exact Nat.ne_of_gt (And.right (And.right (And.right (And.right (And.right (And.right (by assumption))))))) | exact Nat.ne_of_lt (And.left (And.right (And.right (And.right (And.right (And.right (And.right (by assumption)))))))) | exact Nat.ne_of_lt (And.right (And.right (And.right (And.right (And.right (And.right (by assumption)))))))))
  (k_with "execs cons" => (k_here; (with_reducible refine gen_toks ?_); intro tkq))
  (k_with "execs nil" => (k_here; (with_reducible refine gen_toks ?_); intro tkq))
  (k_with "subscriptTail Name Slice ref ref" => (k_here; (with_reducible show wpAny _ _ (subscriptTail _ (PySem.Expr.Slice _ _ none _) (Value.ref _) (Value.ref _)) _ _ _); k_dflt (refine' slice_one ?Fq ?Nq ?mq ?rq ?_ ?sq ?tq; (case Fq => k_asm); (case Nq => k_asm); (case mq => k_mem); (case rq => exact Nat.le_of_ble_eq_true rfl); (case sq => with_unfolding_all rfl); (case tq => intro _; with_unfolding_all rfl)); intro D'q h'q F'q N'q l1q; (try simp only [AllLt, and_true] at l1q); (try k_sweep)))
  (k_with "k_mem" => (assumption))
  (k_with "compareOp NotIn ref ref" => (k_here; (with_reducible show wpAny _ _ (compareOp _ (Value.ref _) (Value.ref _)) _ _ _); k_dflt (first
  | (refine' notin_ops false ?Nq ?cq ?h1q ?h2q ?h3q ?qq ?uq ?oq ?bq ?_; (case Nq => k_asm); (case cq => k_mem); (case h1q => k_mem); (case h2q => k_mem); (case h3q => k_mem); (case qq => k_mem); (case uq => ktr_units); (case oq => first | assumption | decide +kernel); (case bq => first | rfl | decide +kernel | (simp; done))))))
  (k_with "call builtin:len" => (k_here; (with_reducible show wpAny _ _ (call (Value.builtin "len") [Value.ref _]) _ _ _); k_dflt (first
  | (refine len_lit 3 (by k_asm) (by k_mem) (by rfl) (by decide) ?_))))
  (k_with "subscriptTail" => (k_here; (with_reducible show wpAny _ _ (subscriptTail _ _ (Value.ref _) (Value.int 0 _)) _ _ _); k_dflt (refine' item_zero ?k1q ?k2q ?_ ?k6q; (case k1q => k_asm); (case k2q => k_mem); (case k6q => with_unfolding_all rfl))))
  (k_with "exec Assign cons ListComp" => (k_here; k_dflt (refine assign_compE (F₀ := by k_asm) (by rfl) (by with_unfolding_all rfl) (by with_unfolding_all rfl) (by decide) (by rfl) (by decide) (by rfl) (by rfl) (by rfl) ?_)))
  (k_with "SrcE" => (k_here; k_dflt (refine SrcE.two (by rfl) (by k_asm) (by k_asm) (by k_mem) ?_; intro g'q)))
  (k_with "CRest" => (with_unfolding_all first
  | (refine CRest.succ ?_; intro v'q I'q oI'q C'q oC'q D'q m'q h'q tk'q hv'q hC'q hx'q F'q N'q off'q ne'q; lcg_open hv'q)
  | refine CRest.zero ?_))
  (k_with "CompEnd" => (refine CompEnd.same (by k_asm) (by k_asm) (by assumption) (Or.inr ⟨_, by k_mem⟩) ?_))
  (k_with "call ref" => (k_here; (with_reducible show wpAny _ _ (call (Value.ref 169) [_, _, Value.ref _]) _ _ _); k_dflt (refine' val_refuses ?Bq ?Fq ?Xq ?Nq ?Tq ?hkq ?hTq ?heq ?hrq ?hvq ?hCq ?hoq ?hlq ?hdq ?huq ?_; (case Bq => k_asm); (case Fq => k_asm); (case Xq => k_asm); (case Nq => k_asm); (case Tq => k_asm); (case hkq => first | exact rfl | assumption); (case hTq => (refine Tm.In.mono ?_ (by assumption); (intro pq hpq; repeat (first | exact hpq | refine List.Mem.tail _ ?_)))); (case heq => (refine EnvIn.mono ?_ (by assumption); (intro pq hpq; repeat (first | exact hpq | refine List.Mem.tail _ ?_)))); (case hrq => (refine RingIn.mono ?_ (by assumption); (intro pq hpq; repeat (first | exact hpq | refine List.Mem.tail _ ?_)))); (case hvq => assumption); (case hCq => assumption); (case hoq => assumption); (case hlq => assumption); (case hdq => ktr_room); (case huq => ktr_units)); intro e9'q t9'q vs9'q h9'q tk9'q g9'q FG9'q R9'q U9'q))
  (k_with "call ref" => (k_here; (with_reducible show wpAny _ _ (call (Value.ref 169) [Value.ref _, _, Value.ref _]) _ _ _); k_dflt (first | (refine' ValSays.use ?Cq ?hbq ?hwq ?n0q ?n1q ?Bq ?Fq ?Xq ?Nq ?Tq ?hkq ?hTq ?heq ?hrq ?hvq ?hdq ?huq ?_; (case Bq => k_asm); (case Fq => k_asm); (case Xq => k_asm); (case Nq => k_asm); (case Tq => k_asm); (case hkq => first | exact rfl | assumption); (case hTq => (refine Tm.In.mono ?_ (by assumption); (intro pq hpq; repeat (first | exact hpq | refine List.Mem.tail _ ?_)))); (case heq => (refine EnvIn.mono ?_ (by assumption); (intro pq hpq; repeat (first | exact hpq | refine List.Mem.tail _ ?_)))); (case hrq => (refine RingIn.mono ?_ (by assumption); (intro pq hpq; repeat (first | exact hpq | refine List.Mem.tail _ ?_)))); (case Cq => assumption); (case hvq => assumption); (case hbq => assumption); (case hwq => assumption); (case n0q => assumption); (case n1q => assumption); (case hdq => ktr_room); (case huq => ktr_units)); intro tz'q h'q tk'q F'q N'q z0'q z1'q; (try k_sweep))))
  (k_with "execs cons" => k_fold)
  (k_with "eval Call" => k_fold)
  exact trivial

theorem bin_refuses {w : World} {dp un : Nat} {gd : Option (List Code)} {cn : Str} {cs : Scope} {a : Addr} {ccd : Value} {cl : List (Str × Addr)} {outer : List Env} {A₀ : Around} {base h₀ : Heap} {L : Addr} {m : Str → Option Value} {s : Shared} {loose : List Str} {mean : ExcName → Option Value} {mg mb : Str → Option Value}
    {Q E : Value → Shared → Prop} {news : List (Addr × Obj)} {v : Value} {de rg : Addr} {ρ ρ' : Str → Option Int} {σ : Str} {x : Tm} {z n : Int}
    (hb : ∀ σ z, ρ σ = some z → Builtin.Int.intBits z ≤ 300) (hw : ∀ σ z, ρ' σ = some z → PyData.strOk σ = true ∧ (ρ σ = some z ∨ (ρ σ = none ∧ WOf σ (some z))))
    (n0 : 0 < n) (n1 : n ≤ 1000000007)
    (B : Below A₀ base outer h₀) (F : Fr h₀ L s.heap m) (X : (hd.heap_1 w.params).In h₀)
    (N : News h₀ L s.heap news) (T : Top view loose mean mg mb h₀) (hk : cs.kind = .function)
    (hT : Tm.In news v (.bin true x (.leaf σ))) (he : EnvIn w news de ρ) (hr : RingIn w news rg n) (hx : Ev ρ' x z) (hv : ρ σ = none) (hC : WOf σ none) (hok : PyData.strOk σ = true) (hlen : σ.length ≤ 100)
    (hd : dp + (x.h + 16) < recursionLimit) (hu : un + (24 * x.h + 1200) < cLine)
    (raise : ∀ e t2 vs h' tk' g, Fr h₀ L g m → RaisedS base g (envX cn cs L a ccd cl :: outer) e (.ref 65) t2 vs news h' → g.UpToSlots h' → E (.ref e) { s with heap := h', toks := tk' }) :
    wpAny (model PySem.Challenge.rw_pq0025_01.row.prog w) (ktrTop dp un gd cn cs L a ccd cl outer) (call (.ref 169) [.ref rg, v, .ref de]) Q E s := by
  (revert X; k_fill; intro X)
  have hrr := hr
  have ih : ValSays x := @val_says x
  obtain ⟨dx, t, tn, k, hr1, hr2⟩ := hr
  have N1 : News h₀ L s.heap ((rg, _) :: (dx, _) :: news) := News.sub N (List.forall_mem_cons.mpr ⟨hr1, List.forall_mem_cons.mpr ⟨hr2, fun _ h => h⟩⟩)
  clear N
  cases hT
  refine wpAny_call ?_
  k_dflt (refine' code_defC ?k1 ?k2 ?k3 ?k4 ?k5 ?kA ?kF ?kK ?k6 ?k7 ?k8 ?k9 ?kB ?kD ?_ ?c2 ?c3 ?c4; (case kA => exact rfl); (case kF => exact rfl); (case kK => assumption); (case k1 => k_asm); (case k2 => k_asm); (case k3 => k_asm); (case k4 => k_asm); (case k5 => k_asm); (case k6 => k_is); (case k7 => k_is); (case k8 => (ktr_room)); (case k9 => exact BindsTo.of_eq rfl); (case kB => exact rfl); (case kD => decide +kernel); (case c2 => exact rfl); (case c3 => exact rfl); (case c4 => exact rfl); k_whole; intro g' L' h' tk' cells' FG' F' N' Y' B' X' T' l1; (try k_lt l1); k_cells Y'; (try simp only [List.cons_append, List.nil_append] at N'); (try dsimp only); (try k_fold))
  k_steps
  all_goals (
     refine' errE_done (news := news) ?hfr ?hf ?R ?U ?hC ?hN ?sub ?_
     (case R => assumption)
     (case hfr => exact rfl)
     (case hf => exact rfl)
     (case U => assumption)
     (case hC => repeat (first | exact List.Mem.head _ | refine List.Mem.tail _ ?_))
     (case hN => assumption)
     (case sub => exact fun p hp => ⟨by repeat (first | exact hp | refine List.Mem.tail _ ?_), (LCg.Off3.mem (by assumption) p (by repeat (first | exact hp | refine List.Mem.tail _ ?_))).2.1⟩)
     intro h9 H9 U9
     refine' leave_heldS ?hf ?F H9 U9 ?_
     (case hf => exact rfl)
     (case F => assumption)
     intro h8 R8 U8
     exact raise _ _ _ _ _ _ (by assumption) R8 U8)
end Mine
end

theorem Mine.reset_X14 : True := by
  w_top off
  k_with_none
  exact trivial
section
open PySem PySem.W PyProof.Rows PySem.Calls PyProof.V
set_option maxRecDepth 100000
set_option maxHeartbeats 4000000
namespace Mine
theorem words_X14_1 : True := by
  w_top off
  k_with_none
  (k_with "k_ne" => (refine neN ?_; (try dsimp only); first | assumption | exact Ne.symm (by assumption) | exact Nat.ne_of_gt (by assumption) | exact Nat.ne_of_lt (by assumption) | (refine' Nat.ne_of_gt ?_; iterate 6 (try (first | exact Nat.lt_succ_self _ | refine' Nat.lt_succ_of_lt ?_)); done) | (refine' Nat.ne_of_lt ?_; iterate 6 (try (first | exact Nat.lt_succ_self _ | refine' Nat.lt_succ_of_lt ?_)); done) | exact Nat.ne_of_gt (And.left (by assumption)) | exact Nat.ne_of_lt (And.left (by assumption)) | exact Nat.ne_of_gt (And.left (And.right (by assumption))) | exact Nat.ne_of_gt (And.right (by assumption)) | exact Nat.ne_of_lt (And.left (And.right (by assumption))) | exact Nat.ne_of_lt (And.right (by assumption)) | exact Nat.ne_of_gt (And.left (And.right (And.right (by assumption)))) | exact Nat.ne_of_gt (And.right (And.right (by assumption))) | exact Nat.ne_of_lt (And.left (And.right (And.right (by assumption)))) | exact Nat.ne_of_lt (And.right (And.right (by assumption))) | exact Nat.ne_of_gt (And.left (And.right (And.right (And.right (by assumption))))) | exact Nat.ne_of_gt (And.right (And.right (And.right (by assumption)))) | exact Nat.ne_of_lt (And.left (And.right (And.right (And.right (by assumption))))) | exact Nat.ne_of_lt (And.right (And.right (And.right (by assumption)))) | exact Nat.ne_of_gt (And.left (And.right (And.right (And.right (And.right (by assumption)))))) | exact Nat.ne_of_gt (And.right (And.right (And.right (And.right (by assumption))))) | exact Nat.ne_of_lt (And.left (And.right (And.right (And.right (And.right (by assumption)))))) | exact Nat.ne_of_lt (And.right (And.right (And.right (And.right (by assumption))))) | exact Nat.ne_of_gt (And.left (And.right (And.right (And.right (And.right (And.right (by assumption))))))) | exact Nat.ne_of_gt (And.right (And.right (And.right (And.right (And.right (by assumption)))))) | exact Nat.ne_of_lt (And.left (And.right (And.right (And.right (And.right (And.right (by assumption))))))) | exact Nat.ne_of_lt (And.right (And.right (And.right (And.right (And.right (by assumption)))))) | exact Nat.ne_of_gt (And.left (And.right (And.right (And.right (And.right (And.right (And.right (by assumption)))))))) | exact Nat.ne_of_gt (And.right (And.right (And.right (And.right (And.right (And.right (by assumption))))))) | exact Nat.ne_of_lt (And.left (And.right (And.right (And.right (And.right (And.right (And.right (by assumption)))))))) | exact Nat.ne_of_lt (And.right (And.right (And.right (And.right (And.right (And.right (by assumption)))))))))
  (k_with "execs cons" => (k_here; (with_reducible refine gen_toks ?_); intro tkq))
  (k_with "execs nil" => (k_here; (with_reducible refine gen_toks ?_); intro tkq))
  (k_with "call ref" => (k_here; (with_reducible show wpAny _ _ (call (Value.ref 169) [_, _, Value.ref _]) _ _ _); k_dflt (refine' bin_refuses ?hbq ?hwq ?n0q ?n1q ?Bq ?Fq ?Xq ?Nq ?Tq ?hkq ?hTq ?heq ?hrq ?hxq ?hvq ?hCq ?hoq ?hlq ?hdq ?huq ?_; (case Bq => k_asm); (case Fq => k_asm); (case Xq => k_asm); (case Nq => k_asm); (case Tq => k_asm); (case hkq => first | exact rfl | assumption); (case hTq => (refine Tm.In.mono ?_ (by assumption); (intro pq hpq; repeat (first | exact hpq | refine List.Mem.tail _ ?_)))); (case heq => (refine EnvIn.mono ?_ (by assumption); (intro pq hpq; repeat (first | exact hpq | refine List.Mem.tail _ ?_)))); (case hrq => (refine RingIn.mono ?_ (by assumption); (intro pq hpq; repeat (first | exact hpq | refine List.Mem.tail _ ?_)))); (case hxq => assumption); (case hbq => assumption); (case hwq => assumption); (case n0q => assumption); (case n1q => assumption); (case hvq => assumption); (case hCq => assumption); (case hoq => assumption); (case hlq => assumption); (case hdq => ktr_room); (case huq => ktr_units)); intro e9'q t9'q vs9'q h9'q tk9'q g9'q FG9'q R9'q U9'q))
  exact trivial
theorem refused_bin {w : World} {dp un : Nat} {gd : Option (List Code)} {cn : Str} {cs : Scope} {a : Addr} {ccd : Value} {cl : List (Str × Addr)} {A₀ : Around} {base h₀ : Heap} {L : Addr} {m : Str → Option Value} {s : Shared} {loose : List Str} {mean : ExcName → Option Value} {mg mb : Str → Option Value}
    {Q E : Value → Shared → Prop} {news : List (Addr × Obj)} {v : Value} {de rg : Addr} {ρ ρ' : Str → Option Int} {σ : Str} {x : Tm} {z n : Int}
    (hb : ∀ σ z, ρ σ = some z → Builtin.Int.intBits z ≤ 300) (hw : ∀ σ z, ρ' σ = some z → PyData.strOk σ = true ∧ (ρ σ = some z ∨ (ρ σ = none ∧ WOf σ (some z)))) (n0 : 0 < n) (n1 : n ≤ 1000000007) (hx : Ev ρ' x z)
    (B : Below A₀ base [] h₀) (F : Fr h₀ L s.heap m) (X : (hd.heap_1 w.params).In h₀)
    (N : News h₀ L s.heap news) (T : Top view loose mean mg mb h₀) (hk : cs.kind = .function) (XB : (hd.heap_1 w.params).In base) (TB : Top view loose mean mg mb base)
    (hT : Tm.In news v (.bin true x (.leaf σ))) (he : EnvIn w news de ρ) (hr : RingIn w news rg n) (hv : ρ σ = none) (hC : WOf σ none) (hok : PyData.strOk σ = true) (hlen : σ.length ≤ 100)
    (hd : dp + (x.h + 18) < recursionLimit) (hu : un + (24 * x.h + 1400) < cLine)
    (ret : ∀ h' tk', Fr h₀ L h' m → News h₀ L h' news → Q (.bool true) { s with heap := h', toks := tk' }) :
    wpAny (model PySem.Challenge.rw_pq0025_01.row.prog w) (ktrTop dp un gd cn cs L a ccd cl []) (call (.ref 217) [.ref rg, v, .ref de]) Q E s := by
  (revert X; k_fill; intro X)
  have hrr := hr
  obtain ⟨dx, t, tn, k, hr1, hr2⟩ := hr
  have N1 : News h₀ L s.heap ((rg, _) :: (dx, _) :: news) := News.sub N (List.forall_mem_cons.mpr ⟨hr1, List.forall_mem_cons.mpr ⟨hr2, fun _ h => h⟩⟩)
  clear N
  refine wpAny_call ?_
  k_dflt (refine' code_try ?k1 ?k2 ?k3 ?k4 ?k5 ?kA ?kf ?kk ?k6 ?k7 ?k8 ?k9 ?kB ?_ ?c2 ?c3 ?c4 ?c5; (case kA => exact rfl); (case kf => exact rfl); (case kk => exact hk); (case k2 => k_asm); (case k1 => k_asm); (case k3 => k_asm); (case k4 => k_asm); (case k5 => k_asm); (case k6 => k_is); (case k7 => k_is); (case k8 => ktr_room); (case k9 => exact BindsTo.of_eq rfl); (case kB => exact locs rfl); (case c2 => exact rfl); (case c3 => exact rfl); (case c4 => exact rfl); (case c5 => decide); k_whole; intro g' L' h' FG' F' N' B' X' T' D'; (try dsimp only); (try k_fold))
  k_steps
  all_goals (refine' ret _ _ ?e1 (News.sub ?e2 ?e3); (case e1 => k_asm); (case e2 => k_asm); (case e3 => (intro p hp; repeat (first | exact hp | refine List.Mem.tail _ ?_))))
end Mine
end

theorem Mine.reset_V1 : True := by
  w_top off
  k_with_none
  exact trivial
section
open PySem PySem.W PyProof.Rows PySem.Calls PyProof.V
set_option maxRecDepth 100000
set_option maxHeartbeats 8000000
namespace Mine
def VarSays (T : Tm) (r : Bool) : Prop := ∀ {w : World} {dp un : Nat} {gd : Option (List Code)} {cn : Str} {cs : Scope} {a : Addr} {ccd : Value} {cl : List (Str × Addr)} {outer : List Env} {A₀ : Around} {base h₀ : Heap} {L : Addr} {m : Str → Option Value} {s : Shared} {loose : List Str} {mean : ExcName → Option Value} {mg mb : Str → Option Value}
    {Q E : Value → Shared → Prop} {news : List (Addr × Obj)} {v : Value}
    (_B : Below A₀ base outer h₀) (_F : Fr h₀ L s.heap m) (_X : (hd.heap_1 w.params).In h₀)
    (_N : News h₀ L s.heap news) (_T : Top view loose mean mg mb h₀) (_hk : cs.kind = .function)
    (_hT : Tm.In news v T)
    (_hd : dp + 1 < recursionLimit) (_hu : un + 100 < cLine)
    (_ret : ∀ h' tk', Fr h₀ L h' m → News h₀ L h' news → Q (.bool r) { s with heap := h', toks := tk' }),
    wpAny (model PySem.Challenge.rw_pq0025_01.row.prog w) (ktrTop dp un gd cn cs L a ccd cl outer) (call (.ref 86) [v]) Q E s
theorem words_V1_1 : True := by
  w_top off
  k_with_none
  (k_with "k_ne" => (refine neN ?_; (try dsimp only); first | assumption | exact Ne.symm (by assumption) | exact Nat.ne_of_gt (by assumption) | exact Nat.ne_of_lt (by assumption) | (refine' Nat.ne_of_gt ?_; iterate 6 (try (first | exact Nat.lt_succ_self _ | refine' Nat.lt_succ_of_lt ?_)); done) | (refine' Nat.ne_of_lt ?_; iterate 6 (try (first | exact Nat.lt_succ_self _ | refine' Nat.lt_succ_of_lt ?_)); done) | exact Nat.ne_of_gt (And.left (by assumption)) | exact Nat.ne_of_lt (And.left (by assumption)) | exact Nat.ne_of_gt (And.left (And.right (by assumption))) | exact Nat.ne_of_gt (And.right (by assumption)) | exact Nat.ne_of_lt (And.left (And.right (by assumption))) | exact Nat.ne_of_lt (And.right (by assumption)) | exact Nat.ne_of_gt (And.left (And.right (And.right (by assumption)))) | exact Nat.ne_of_gt (And.right (And.right (by assumption))) | exact Nat.ne_of_lt (And.left (And.right (And.right (by assumption)))) | exact Nat.ne_of_lt (And.right (And.right (by assumption))) | exact Nat.ne_of_gt (And.left (And.right (And.right (And.right (by assumption))))) | exact Nat.ne_of_gt (And.right (And.right (And.right (by assumption)))) | exact Nat.ne_of_lt (And.left (And.right (And.right (And.right (by assumption))))) | exact Nat.ne_of_lt (And.right (And.right (And.right (by assumption)))) | exact Nat.ne_of_gt (And.left (And.right (And.right (And.right (And.right (by assumption)))))) | exact Nat.ne_of_gt (And.right (And.right (And.right (And.right (by assumption))))) | exact Nat.ne_of_lt (And.left (And.right (And.right (And.right (And.right (by assumption)))))) | exact Nat.ne_of_lt (And.right (And.right (And.right (And.right (by assumption))))) | exact Nat.ne_of_gt (And.left (And.right (And.right (And.right (And.right (And.right (by assumption))))))) | exact Nat.ne_of_gt (And.right (And.right (And.right (And.right (And.right (by assumption)))))) | exact Nat.ne_of_lt (And.left (And.right (And.right (And.right (And.right (And.right (by assumption))))))) | exact Nat.ne_of_lt (And.right (And.right (And.right (And.right (And.right (by assumption)))))) | exact Nat.ne_of_gt (And.left (And.right (And.right (And.right (And.right (And.right (And.right (by assumption)))))))) | exact Nat.ne_of_gt (And.right (And.right (And.right (And.right (And.right (And.right (by assumption))))))) | exact Nat.ne_of_lt (And.left (And.right (And.right (And.right (And.right (And.right (And.right (by assumption)))))))) | exact Nat.ne_of_lt (And.right (And.right (And.right (And.right (And.right (And.right (by assumption)))))))))
  (k_with "execs cons" => (k_here; (with_reducible refine gen_toks ?_); intro tkq))
  (k_with "execs nil" => (k_here; (with_reducible refine gen_toks ?_); intro tkq))
  (k_with "k_mem" => (assumption))
  (k_with "call builtin:len" => (k_here; (with_reducible show wpAny _ _ (call (Value.builtin "len") [Value.ref _]) _ _ _); k_dflt (first
  | (refine len_lit 1 (by k_asm) (by k_mem) (by rfl) (by decide) ?_)
  | (refine len_lit 2 (by k_asm) (by k_mem) (by rfl) (by decide) ?_)
  | (refine len_lit 3 (by k_asm) (by k_mem) (by rfl) (by decide) ?_))))
  (k_with "subscriptTail" => (k_here; (with_reducible show wpAny _ _ (subscriptTail _ _ (Value.ref _) (Value.int 0 _)) _ _ _); k_dflt (refine' item_zero ?k1q ?k2q ?_ ?k6q; (case k1q => k_asm); (case k2q => k_mem); (case k6q => with_unfolding_all rfl))))
  (k_with "call builtin:len" => (k_here; (with_reducible show wpAny _ _ (call (Value.builtin "len") [_]) _ _ _); k_dflt (refine len_leaf (by assumption) (by k_asm) (by k_asm) (by k_asm) (by (intro pq hpq; repeat (first | exact hpq | refine List.Mem.tail _ ?_))) ?_)))
  (k_with "subscriptTail" => (k_here; (with_reducible show wpAny _ _ (subscriptTail _ _ _ (Value.int 0 _)) _ _ _); k_dflt (refine item_leaf (by assumption) (by k_asm) (by k_asm) (by k_asm) (by (intro pq hpq; repeat (first | exact hpq | refine List.Mem.tail _ ?_))) ?_ (by intro _; with_unfolding_all rfl)); intro tt'q))
  exact trivial
theorem var_leaf (σ : Str) (r : Bool) (hr : (Txt.slice σ none (some 1) == Str.ofString "?") = r) (hl : σ.length ≤ sizeLine) : VarSays (.leaf σ) r := by
  subst hr
  intro w dp un gd cn cs a ccd cl outer A₀ base h₀ L m s loose mean mg mb Q E news v B F X N T hk hT hd hu ret
  (revert X; k_fill; intro X)
  all_goals (
    refine wpAny_call ?_
    k_dflt ktr_enter
    (all_goals try k_fold)
    k_steps
    all_goals (refine' ret _ _ ?e1 (News.sub ?e2 ?e3); (case e1 => k_asm); (case e2 => k_asm); (case e3 => (intro p hp; repeat (first | exact hp | refine List.Mem.tail _ ?_)))))
theorem var_a : VarSays (.leaf (Str.ofString "?a")) true := var_leaf _ _ (by decide +kernel) (by decide +kernel)
theorem var_b : VarSays (.leaf (Str.ofString "?b")) true := var_leaf _ _ (by decide +kernel) (by decide +kernel)
theorem var_c : VarSays (.leaf (Str.ofString "?c")) true := var_leaf _ _ (by decide +kernel) (by decide +kernel)
theorem var_0 : VarSays (.leaf (Str.ofString "0")) false := var_leaf _ _ (by decide +kernel) (by decide +kernel)
theorem var_1 : VarSays (.leaf (Str.ofString "1")) false := var_leaf _ _ (by decide +kernel) (by decide +kernel)
theorem var_2 : VarSays (.leaf (Str.ofString "2")) false := var_leaf _ _ (by decide +kernel) (by decide +kernel)
theorem var_3 : VarSays (.leaf (Str.ofString "3")) false := var_leaf _ _ (by decide +kernel) (by decide +kernel)
theorem var_5 : VarSays (.leaf (Str.ofString "5")) false := var_leaf _ _ (by decide +kernel) (by decide +kernel)
theorem var_12 : VarSays (.leaf (Str.ofString "12")) false := var_leaf _ _ (by decide +kernel) (by decide +kernel)
theorem var_big : VarSays (.leaf (Str.ofString "1000000007")) false := var_leaf _ _ (by decide +kernel) (by decide +kernel)
theorem var_neg (x : Tm) : VarSays (.neg x) false := by
  intro w dp un gd cn cs a ccd cl outer A₀ base h₀ L m s loose mean mg mb Q E news v B F X N T hk hT hd hu ret
  (revert X; k_fill; intro X)
  cases hT
  all_goals (
    refine wpAny_call ?_
    k_dflt ktr_enter
    (all_goals try k_fold)
    k_steps
    all_goals (refine' ret _ _ ?e1 (News.sub ?e2 ?e3); (case e1 => k_asm); (case e2 => k_asm); (case e3 => (intro p hp; repeat (first | exact hp | refine List.Mem.tail _ ?_)))))
theorem var_bin (o : Bool) (x y : Tm) : VarSays (.bin o x y) false := by
  intro w dp un gd cn cs a ccd cl outer A₀ base h₀ L m s loose mean mg mb Q E news v B F X N T hk hT hd hu ret
  (revert X; k_fill; intro X)
  cases hT
  all_goals (
    refine wpAny_call ?_
    k_dflt ktr_enter
    (all_goals try k_fold)
    k_steps
    all_goals (refine' ret _ _ ?e1 (News.sub ?e2 ?e3); (case e1 => k_asm); (case e2 => k_asm); (case e3 => (intro p hp; repeat (first | exact hp | refine List.Mem.tail _ ?_)))))
end Mine
end

theorem Mine.reset_E1 : True := by
  w_top off
  k_with_none
  exact trivial
section
open PySem
open PySem.AutoSeq1 (wpAny_loadPart')
set_option maxRecDepth 100000
set_option maxHeartbeats 4000000
namespace Mine
section
variable {prog : Program} {w : World} {A : Around} {E : Value → Shared → Prop} {s : Shared} {e it t : Addr} {i : Nat} {items : Array Value} {x old : Value}
theorem nextOf_tup {Q : Value → Shared → Prop} (hit : s.heap.IsTupleIter it t i) (ht : s.heap.IsTuple t items) (hx : items[i]? = some x)
    (hQ : ∀ h', h'.IsTupleIter it t (i + 1) → Heap.SameBut it s.heap h' → Q x { s with heap := h' }) : wpAny (model prog w) A (Builtin.SmallTypes.nextOf (.ref it)) Q E s := by
  obtain ⟨o, ho, hc, hd⟩ := id hit
  obtain ⟨ol, hol, _, nl, hdl⟩ := ht
  unfold Builtin.SmallTypes.nextOf
  refine wpAny_bind (wpAny_callSpecial?_slot (name := Str.ofString "__next__") hit.typeIs F.slot_tuple_iterator_next (wpAny_call_entry F.slot_tuple_iterator_next hit.typeIs F.entry_tuple_iterator_next ?_ (F.args_tuple_iterator_next_1 _)))
  refine wpAny_bind (m := field (.ref it) 0) (wpAny_field ho hd (x := .ref t) rfl ?_)
  rw [if_neg (show ¬ ((Value.ref t == Value.none) = true) from Bool.false_ne_true)]
  refine wpAny_bind (m := field (.ref it) 1) (wpAny_field ho hd (x := .int i 0) rfl ?_)
  refine wpAny_bind (m := seqItems? (.ref t)) (wpAny_seqItems hol hdl ?_)
  simp only [Int.toNat_natCast, hx]
  refine wpAny_bind (wpAny_setField ho hd (by simp) (wpAny_pure ⟨x, rfl, wpAny_pure (hQ _ ?_ (Heap.SameBut.update ..))⟩))
  exact ⟨_, Heap.get?_update_self _ ho (Obj.isFreed_of_fields (Obj.data_mapFields hd _)), (Obj.cls_mapFields ..).trans hc, by rw [Obj.data_mapFields hd]; simp [rawInt]⟩
theorem nextOf_tup_end {Q : Value → Shared → Prop} (hh : A.handled = none) (hit : s.heap.IsTupleIter it t i) (ht : s.heap.IsTuple t items) (hx : items[i]? = none)
    (hE : ∀ h' e, Heap.ExtBut it s.heap h' → Shared.TypeIs { s with heap := h' } (.ref e) "StopIteration" → E (.ref e) { s with heap := h' }) : wpAny (model prog w) A (Builtin.SmallTypes.nextOf (.ref it)) Q E s := by
  obtain ⟨o, ho, hc, hd⟩ := id hit
  obtain ⟨ol, hol, _, nl, hdl⟩ := ht
  unfold Builtin.SmallTypes.nextOf
  refine wpAny_bind (wpAny_callSpecial?_slot (name := Str.ofString "__next__") hit.typeIs F.slot_tuple_iterator_next (wpAny_call_entry F.slot_tuple_iterator_next hit.typeIs F.entry_tuple_iterator_next ?_ (F.args_tuple_iterator_next_1 _)))
  refine wpAny_bind (m := field (.ref it) 0) (wpAny_field ho hd (x := .ref t) rfl ?_)
  rw [if_neg (show ¬ ((Value.ref t == Value.none) = true) from Bool.false_ne_true)]
  refine wpAny_bind (m := field (.ref it) 1) (wpAny_field ho hd (x := .int i 0) rfl ?_)
  refine wpAny_bind (m := seqItems? (.ref t)) (wpAny_seqItems hol hdl ?_)
  simp only [Int.toNat_natCast, hx]
  refine wpAny_bind (wpAny_rule (wpAny_bind (wpAny_setField ho hd (by simp) ?_)))
  refine stop_raise (by simp [hh]) fun h2 e k hT => hE h2 e (fun b o hb q => k b o ((Heap.SameBut.update ..).extBut b o hb q)) hT
theorem enum_item {Q : Option Value → Shared → Prop} (he : IsEnum s.heap e it i old) (hit : s.heap.IsTupleIter it t i) (ht : s.heap.IsTuple t items) (hx : items[i]? = some x) (hne : e ≠ it)
    (hQ : ∀ h', IsEnumOut h' e it ((i : Int) + 1) x s.heap.objs.size → h'.IsTupleIter it t (i + 1) → h'.get? s.heap.objs.size = some { cls := .type "tuple", data := .seq #[.int i s.toks, x] } → h'.objs.size = s.heap.objs.size + 1 →
      (∀ b o, b ≠ e → b ≠ it → s.heap.get? b = some o → h'.get? b = some o) → Q (some (.ref s.heap.objs.size)) { s with heap := h', toks := s.toks + 1 }) :
    wpAny (model prog w) A (pyNext (.ref e)) Q E s := by
  have hT : s.TypeIs (.ref e) "enumerate" := ⟨_, he, rfl⟩
  have hel : e < s.heap.objs.size := Heap.lt_size he
  unfold pyNext
  refine wpAny_bind (wpAny_attempt (wpAny_callSpecial?_slot (name := Str.ofString "__next__") hT F.slot_enumerate_next (wpAny_call_entry F.slot_enumerate_next hT F.entry_enumerate_next ?_ (F.args_enumerate_next_1 _))))
  refine wpAny_bind (m := field (.ref e) 2) (wpAny_field he rfl (x := .ref it) rfl ?_)
  refine wpAny_bind (nextOf_tup hit ht hx fun h1 hit1 s1 => ?_)
  have he1 : IsEnum h1 e it i old := (s1.2 e hne).trans he
  refine wpAny_bind (m := field (.ref e) 3) (wpAny_field (s := { s with heap := h1 }) he1 rfl (x := rawInt i) rfl ?_)
  refine wpAny_bind (m := field (.ref e) 4) (wpAny_field (s := { s with heap := h1 }) he1 rfl (x := .none) rfl ?_)
  refine wpAny_bind (m := mkInt i) (wpAny_mkInt ?_)
  refine wpAny_bind (wpAny_setField_rec (s := { s with heap := h1, toks := s.toks + 1 }) he1 (by simp) fun h2 he2 s2 => ?_)
  refine wpAny_bind (wpAny_setField_rec (s := { s with heap := h2, toks := s.toks + 1 }) he2 (by simp) fun h3 he3 s3 => ?_)
  refine wpAny_bind (wpAny_newTuple ?_ (by simp; rw [sizeLine_eq]; omega))
  have hsz : h3.objs.size = s.heap.objs.size := by rw [s3.1]; show h2.objs.size = _; rw [s2.1]; exact s1.1
  have he4 : IsEnum (h3.push { cls := .type "tuple", data := .seq #[.int i s.toks, x] }) e it ((i : Int) + 1) old := Heap.get?_push_of_some _ he3
  have ht4 : (h3.push { cls := .type "tuple", data := .seq #[.int i s.toks, x] }).get? s.heap.objs.size = some { cls := .type "tuple", data := .seq #[.int i s.toks, x] } := by rw [← hsz]; exact Heap.get?_push_size _ rfl
  have hz4 : (h3.push { cls := .type "tuple", data := .seq #[.int i s.toks, x] }).objs.size = s.heap.objs.size + 1 := by rw [Heap.size_push, hsz]
  have hk4 : ∀ b o, b ≠ e → h1.get? b = some o → (h3.push { cls := .type "tuple", data := .seq #[.int i s.toks, x] }).get? b = some o := fun b o hb q => Heap.get?_push_of_some _ ((s3.2 b hb).trans ((s2.2 b hb).trans q))
  generalize h3.push { cls := .type "tuple", data := .seq #[.int i s.toks, x] } = h4 at he4 ht4 hz4 hk4 ⊢
  dsimp only
  rw [hsz]
  unfold Builtin.SmallTypes.ownedTupleIsFree
  refine wpAny_bind (wpAny_bind (wpAny_field (s := { s with heap := h4, toks := s.toks + 1 }) he4 rfl (x := .none) rfl (wpAny_pure ?_)))
  refine ite_is (by decide) ?_
  refine wpAny_bind (wpAny_rule ?_)
  refine wpAny_bind (wpAny_field (s := { s with heap := h4, toks := s.toks + 1 }) he4 rfl (x := old) rfl ?_)
  refine wpAny_bind (wpAny_setField_rec (s := { s with heap := h4, toks := s.toks + 1 }) he4 (by simp) fun h5 he5 s5 => ?_)
  unfold Builtin.SmallTypes.ownedTupleHandOut
  refine wpAny_bind (wpAny_bind (wpAny_setField_rec (s := { s with heap := h5, toks := s.toks + 1 }) he5 (by simp) fun h6 he6 s6 => ?_))
  refine wpAny_setField_rec (s := { s with heap := h6, toks := s.toks + 1 }) he6 (by simp) fun h7 he7 s7 => ?_
  have up : ∀ b o, b ≠ e → h4.get? b = some o → h7.get? b = some o := fun b o hb q => (s7.2 b hb).trans ((s6.2 b hb).trans ((s5.2 b hb).trans q))
  refine wpAny_bind (wpAny_letGo (wpAny_pure ⟨_, rfl, wpAny_pure (hQ h7 he7 ?_ ?_ ?_ ?_)⟩))
  · exact (hit1.at fun o q => hk4 _ o (Ne.symm hne) q).at fun o q => up _ o (Ne.symm hne) q
  · exact up _ _ (Nat.ne_of_gt hel) ht4
  · rw [s7.1]; show h6.objs.size = _; rw [s6.1]; show h5.objs.size = _; rw [s5.1]; exact hz4
  · exact fun b o hbe hbi q => up b o hbe (hk4 b o hbe ((s1.2 b hbi).trans q))
theorem enum_end {Q : Option Value → Shared → Prop} (hh : A.handled = none) (he : IsEnum s.heap e it i old) (hit : s.heap.IsTupleIter it t i) (ht : s.heap.IsTuple t items) (hx : items[i]? = none)
    (hQ : ∀ h', Heap.ExtBut it s.heap h' → Q none { s with heap := h' }) : wpAny (model prog w) A (pyNext (.ref e)) Q E s := by
  have hT : s.TypeIs (.ref e) "enumerate" := ⟨_, he, rfl⟩
  unfold pyNext
  refine wpAny_bind (wpAny_attempt (wpAny_callSpecial?_slot (name := Str.ofString "__next__") hT F.slot_enumerate_next (wpAny_call_entry F.slot_enumerate_next hT F.entry_enumerate_next ?_ (F.args_enumerate_next_1 _))))
  refine wpAny_bind (m := field (.ref e) 2) (wpAny_field he rfl (x := .ref it) rfl ?_)
  refine wpAny_bind (nextOf_tup_end hh hit ht hx fun h' x he' hx' => ?_)
  exact wpAny_bind (wpAny_isInstance (T := "StopIteration") (b := true) hx' isSubtype_stop (wpAny_pure (hQ _ he')))
end
theorem enum_walks {prog : Program} {w : World} {A : Around} (hh : A.handled = none) (e it t : Addr) (hei : e ≠ it) (hte : t ≠ e) (hti : t ≠ it) (items : Array Value) :
    WalksT prog w A e [e, it, t] [e, it] items.size (fun i vals => ∃ k x, items[i]? = some x ∧ vals = #[.int i k, x])
      (fun i h => (∃ old, IsEnum h e it i old) ∧ h.IsTupleIter it t i ∧ h.IsTuple t items)
      (fun i T h => (∃ x, IsEnumOut h e it ((i : Int) + 1) x T) ∧ h.IsTupleIter it t (i + 1) ∧ h.IsTuple t items ∧ T ≠ e ∧ T ≠ it) where
  sub := fun b hb => by
    simp only [List.mem_cons, List.not_mem_nil, or_false] at hb ⊢
    rcases hb with rfl | rfl <;> simp
  frame := fun i h h' st hk => by
    obtain ⟨⟨old, he⟩, hit, ⟨o, q, r⟩⟩ := st
    exact ⟨⟨old, hk e (by simp) _ he⟩, hit.at fun o x => hk it (by simp) o x, ⟨o, hk t (by simp) _ q, r⟩⟩
  item := fun i s Q E hi st hQ => by
    obtain ⟨⟨old, he⟩, hit, ht⟩ := st
    have hx : items[i]? = some items[i] := Array.getElem?_eq_getElem hi
    have hel : e < s.heap.objs.size := Heap.lt_size he
    have hil : it < s.heap.objs.size := by obtain ⟨_, x, _⟩ := hit; exact Heap.lt_size x
    refine enum_item he hit ht hx hei fun h' ho hit' hT hsz hk => ?_
    exact hQ s.heap.objs.size _ h' _ ⟨_, _, hx, rfl⟩ (Nat.le_refl _) ⟨_, hT, rfl, _, rfl⟩ ⟨⟨_, ho⟩, hit', let ⟨o, q, r⟩ := ht; ⟨o, hk t o hte hti q, r⟩, Nat.ne_of_gt hel, Nat.ne_of_gt hil⟩
      fun b o hb q => hk b o (fun z => hb (by simp [z])) (fun z => hb (by simp [z])) q
  go := fun elts k pos i T s Q E hm hQ => by
    obtain ⟨⟨x, ho⟩, hit, ⟨o, q, r⟩, hTe, hTi⟩ := hm
    refine wpAny_letOwnedTupleGo_enum ho fun h' he' s' => hQ h' ⟨⟨x, by simpa using he'⟩, hit.at fun o y => (s'.2 it (Ne.symm hei)).trans y, ⟨o, (s'.2 t hte).trans q, r⟩⟩ fun b o hb y => ?_
    exact (s'.2 b fun z => hb (by simp [z])).trans y
  apart := fun i T h hm hT => by
    obtain ⟨_, _, _, hTe, hTi⟩ := hm
    simp only [List.mem_cons, List.not_mem_nil, or_false] at hT
    rcases hT with z | z
    · exact hTe z
    · exact hTi z
  done := fun s Q E st hQ => by
    obtain ⟨⟨old, he⟩, hit, ht⟩ := st
    exact enum_end hh he hit ht (Array.getElem?_eq_none (Nat.le_refl _)) fun h' hx => hQ h' s.toks fun b o hb y => hx b o (fun z => hb (by simp [z])) y
  self := fun i s Q E st hQ => by
    obtain ⟨⟨old, he⟩, _, _⟩ := st
    exact wpAny_pyIter_enum he hQ
end Mine
end

theorem Mine.reset_E2 : True := by
  w_top off
  k_with_none
  exact trivial
section
open PySem PySem.W PyProof.Rows
open PySem.AutoSeq1 (wpAny_loadPart')
set_option maxRecDepth 100000
set_option maxHeartbeats 4000000
namespace Mine
theorem enum_new (l : Addr) (items : Array Value) (n : Nat) (dct : Option Addr) (sl : Array (Option Value)) :
    Meets (Builtin.«enumerate.__new__» ⟨[.type "enumerate", .ref l], []⟩) (fun _ R s => s.heap.get? l = some { cls := .type "tuple", dict := dct, data := .seq items n, slots := sl } ∧
      R (.ok (.ret (.ref (s.heap.push { cls := .type "tuple_iterator", data := .fields #[.ref l, .int 0 0] }).objs.size)))
        { s with heap := (s.heap.push { cls := .type "tuple_iterator", data := .fields #[.ref l, .int 0 0] }).push { cls := .type "enumerate", data := .fields #[.none, .bool false, .ref s.heap.objs.size, rawInt 0, .none, .none] } }) :=
  .of_wp fun prog w A R s h => by
    obtain ⟨hp, g, d, tk, os⟩ := s; obtain ⟨hl, h⟩ := h
    have hsub := sub_enumerate
    have hL : Heap.IsTuple (Shared.heap ⟨hp, g, d, tk, os⟩) l items := ⟨_, hl, rfl, n, rfl⟩
    wp_walk using wpAny_loadPart' hl
    refine wpAny_stack_any fun st => wpAny_pure ?_
    split
    · rename_i c _ _ _ _ _
      cases (c == Value.type "enumerate")
      · wp_walk using wpAny_loadPart' hl, wpAny_pyIter_tuple hL
        exact ⟨_, rfl, h⟩
      · wp_walk using wpAny_loadPart' hl, wpAny_pyIter_tuple hL
        exact ⟨_, rfl, h⟩
    · wp_walk using wpAny_loadPart' hl, wpAny_pyIter_tuple hL
      exact ⟨_, rfl, h⟩
section
variable {prog : Program} {w : World} {A : Around} {E : Value → Shared → Prop} {s : Shared}
theorem call_enum_tup {l : Addr} {items : Array Value} {Q : Value → Shared → Prop} (hL : s.heap.IsTuple l items)
    (h : ∀ h', IsEnum h' (s.heap.objs.size + 1) s.heap.objs.size 0 .none → h'.IsTupleIter s.heap.objs.size l 0 → h'.objs.size = s.heap.objs.size + 2 →
      (∀ b o, s.heap.get? b = some o → h'.get? b = some o) → Q (.ref (s.heap.objs.size + 1)) { s with heap := h' }) :
    wpAny (model prog w) A (call (.type "enumerate") [.ref l]) Q E s := by
  obtain ⟨⟨c, dct, dt, sl⟩, hl, hc, n, hd⟩ := hL
  replace hc : c = .type "tuple" := hc
  replace hd : dt = .seq items n := hd
  subst hc hd
  refine callType_new PySem.F.called_enumerate (by decide) (PySem.F.typeCall_enumerate_1 _) (PySem.F.newCall_enumerate_1 _) (fun obj => PySem.F.args_object_init_2 obj _) PySem.F.entry_enumerate_new (enum_new l items n dct sl) ⟨hl, ?_⟩
  have hz : (s.heap.push { cls := .type "tuple_iterator", data := .fields #[.ref l, .int 0 0] }).objs.size = s.heap.objs.size + 1 := Heap.size_push ..
  show _ ∧ _
  rw [hz]
  have he : IsEnum ((s.heap.push { cls := .type "tuple_iterator", data := .fields #[.ref l, .int 0 0] }).push { cls := .type "enumerate", data := .fields #[.none, .bool false, .ref s.heap.objs.size, rawInt 0, .none, .none] }) (s.heap.objs.size + 1) s.heap.objs.size 0 .none := by
    have := Heap.get?_push_size (s.heap.push { cls := .type "tuple_iterator", data := .fields #[.ref l, .int 0 0] }) (o := { cls := .type "enumerate", data := .fields #[.none, .bool false, .ref s.heap.objs.size, rawInt 0, .none, .none] }) rfl
    rw [hz] at this; exact this
  exact ⟨⟨_, he, rfl⟩, h _ he ⟨_, Heap.get?_push_of_some _ (Heap.get?_push_size _ rfl), rfl, rfl⟩ (by rw [Heap.size_push, hz]) fun b o x => Heap.get?_push_of_some _ (Heap.get?_push_of_some _ x)⟩
end
section
variable {prog : Program} {w : World} {A : Around} {E : Value → Shared → Prop} {s : Shared} {env : Env} {h₀ : Heap} {body : List Stmt} {Q : Flow → Shared → Prop}
theorem enum_turns {elts : List PySem.Expr} {k : Nat} {pos : Pos} {l : Addr} {lo : Obj} {vs : List Value} {xs : List Itm} {n : Nat} {m₀ : Str → Option Value} {news : List (Addr × Obj)}
    (hh : A.handled = none) (F : Fr h₀ env.locals s.heap m₀) (N : News h₀ env.locals s.heap news) (hm : (l, lo) ∈ news) (hc : lo.cls = .type "tuple") (hd : lo.data = .seq vs.toArray n) (hx : enumItems 0 vs = xs)
    (rest₀ : ∀ I : Addr, (∀ p ∈ news, p.1 < I) → ItemsRest prog w A E h₀ env (.Tuple elts k pos) body Q s [(I + 1, "enumerate"), (I, "tuple_iterator")] [(l, lo)] xs m₀ news) :
    wpAny (model prog w) A (call (.type "enumerate") [.ref l]) (fun xv s₁ => wpAny (model prog w) A (pyIter xv) (fun it s₂ => TurnsAt prog w A h₀ env (.Tuple elts k pos) body Q E it s₂) E s₁) E s := by
  subst hx
  have hax := N _ hm
  have hl : s.heap.IsTuple l vs.toArray := ⟨lo, hax.1, hc, n, hd⟩
  have hlt : l < s.heap.objs.size := Heap.lt_size hax.1
  have hLs : env.locals < s.heap.objs.size := F.ns.lt
  refine call_enum_tup hl fun h' hE hI hsz hk => ?_
  refine wpAny_pyIter_enum hE ?_
  refine ktu_core (tk0 := s.toks) (keep := [(l, lo)]) (KTurns.ofWalksU (enum_walks hh (s.heap.objs.size + 1) s.heap.objs.size l (Nat.succ_ne_self _) (ktu_ne 1 hlt) (Nat.ne_of_lt hlt) vs.toArray).toU) (by simp [enumItems_length]) ?_ ?_ ?_ ?_ ?_ ?_ ?_ ?_ (F.keeps hk) (N.grown hk) (And.intro hm trivial) (rest₀ _ fun p hp => Heap.lt_size (N p hp).1)
  · rintro i v h ⟨T, vals, rfl, ⟨t, x, hx, rfl⟩, hT⟩
    refine ⟨_, enumItems_get vs 0 i (v := x) (by simpa using hx), T, t, rfl, ?_⟩
    show IsTup h T #[.int ((0 + i : Nat) : Int) t, x]
    rw [Nat.zero_add]
    exact hT
  · rintro i h ⟨⟨old, he⟩, ⟨oi, hoi, hic, _⟩, _⟩
    have he' : ∃ oe : Obj, h.get? (s.heap.objs.size + 1) = some oe ∧ oe.cls = .type "enumerate" := ⟨_, he, rfl⟩
    obtain ⟨oe, h1, h2⟩ := he'
    refine ⟨[(s.heap.objs.size + 1, oe), (s.heap.objs.size, oi)], ⟨⟨rfl, h2⟩, ⟨rfl, hic⟩, trivial⟩, fun p hp => ?_⟩
    rcases List.mem_cons.mp hp with rfl | hp
    · exact h1
    · rw [List.mem_singleton.mp hp]; exact hoi
  · intro b hb
    have hb' : b = s.heap.objs.size + 1 ∨ b = s.heap.objs.size := by simpa using hb
    rcases hb' with rfl | rfl
    · exact ⟨by simp, ktu_new F (Nat.le_add_right _ _)⟩
    · exact ⟨by simp, ktu_new F (Nat.le_refl _)⟩
  · intro b hb
    simpa using hb
  · intro b hb
    have hb' : b = s.heap.objs.size + 1 ∨ b = s.heap.objs.size ∨ b = l := by simpa using hb
    rcases hb' with rfl | rfl | rfl
    · exact .inl (by simp)
    · exact .inl (by simp)
    · exact .inr ⟨lo, by simp⟩
  · intro hI'
    have hb' : env.locals = s.heap.objs.size + 1 ∨ env.locals = s.heap.objs.size ∨ env.locals = l := by simpa using hI'
    rcases hb' with e | e | e
    · exact ktu_ne 1 hLs e
    · exact Nat.ne_of_lt hLs e
    · exact hax.2.1 e.symm
  · intro p hp hI'
    have hb' : p.1 = s.heap.objs.size + 1 ∨ p.1 = s.heap.objs.size := by simpa using hI'
    have hlp := Heap.lt_size (N p hp).1
    rcases hb' with e | e
    · exact ktu_ne 1 hlp e
    · exact Nat.ne_of_lt hlp e
  · exact ⟨⟨.none, hE⟩, hI, let ⟨o, q, r⟩ := hl; ⟨o, hk _ _ q, r⟩⟩
end
end Mine
end

theorem Mine.reset_V2 : True := by
  w_top off
  k_with_none
  exact trivial
section
open PySem PySem.W PyProof.Rows PySem.Calls PyProof.V
set_option maxRecDepth 100000
set_option maxHeartbeats 8000000
namespace Mine
def Tm.subs : Tm → List Tm
  | .leaf s => [.leaf s]
  | .neg x => .neg x :: x.subs
  | .bin o x y => .bin o x y :: (x.subs ++ y.subs)
inductive PartsIn (l : List (Addr × Obj)) (n : Nat) : List Value → List Tm → Prop
  | nil : PartsIn l n [] []
  | cons {a b : Addr} {v : Value} {its : Array Value} {vs : List Value} {T : Tm} {Ts : List Tm} : (a, tupO #[.ref b, v]) ∈ l → (b, tupO its) ∈ l → its.size < n → Tm.In l v T → PartsIn l n vs Ts → PartsIn l n (.ref a :: vs) (T :: Ts)
theorem PartsIn.mono {l l' : List (Addr × Obj)} {n n' : Nat} (h : ∀ p ∈ l, p ∈ l') (hn : n ≤ n') {vs : List Value} {Ts : List Tm} (i : PartsIn l n vs Ts) : PartsIn l' n' vs Ts := by
  induction i with
  | nil => exact .nil
  | cons a b c d _ ih => exact .cons (h _ a) (h _ b) (Nat.lt_of_lt_of_le c hn) (d.mono h) ih
def PartSays (T : Tm) : Prop := ∀ {w : World} {dp un : Nat} {gd : Option (List Code)} {cn : Str} {cs : Scope} {a : Addr} {ccd : Value} {cl : List (Str × Addr)} {outer : List Env} {A₀ : Around} {base h₀ : Heap} {L : Addr} {m : Str → Option Value} {s : Shared} {loose : List Str} {mean : ExcName → Option Value} {mg mb : Str → Option Value}
    {Q E : Value → Shared → Prop} {news l : List (Addr × Obj)} {v : Value}
    (_hsz : T.h ≤ 20) (_hl : ∀ p ∈ l, p ∈ news)
    (_B : Below A₀ base outer h₀) (_F : Fr h₀ L s.heap m) (_X : (hd.heap_1 w.params).In h₀)
    (_N : News h₀ L s.heap news) (_T : Top view loose mean mg mb h₀) (_hk : cs.kind = .function)
    (_hT : Tm.In l v T)
    (_hd : dp + T.h < recursionLimit) (_hu : un + 24 * T.h + 100 < cLine)
    (_ret : ∀ D vs n tl h' tk', Fr h₀ L h' m → News h₀ L h' ((D, listOf vs.toArray n) :: (news ++ tl)) → (∀ q ∈ news, ∀ p ∈ (D, listOf vs.toArray n) :: tl, q.1 < p.1) → PartsIn (l ++ tl) T.h vs T.subs → (∀ p ∈ tl, p.1 ≠ D) → Q (.ref D) { s with heap := h', toks := tk' }),
    wpAny (model PySem.Challenge.rw_pq0025_01.row.prog w) (ktrTop dp un gd cn cs L a ccd cl outer) (call (.ref 96) [v]) Q E s
theorem words_V2_1 : True := by
  w_top off
  k_with_none
  (k_with "k_ne" => (refine neN ?_; (try dsimp only); first | assumption | exact Ne.symm (by assumption) | exact Nat.ne_of_gt (by assumption) | exact Nat.ne_of_lt (by assumption) | (refine' Nat.ne_of_gt ?_; iterate 6 (try (first | exact Nat.lt_succ_self _ | refine' Nat.lt_succ_of_lt ?_)); done) | (refine' Nat.ne_of_lt ?_; iterate 6 (try (first | exact Nat.lt_succ_self _ | refine' Nat.lt_succ_of_lt ?_)); done) | exact Nat.ne_of_gt (And.left (by assumption)) | exact Nat.ne_of_lt (And.left (by assumption)) | exact Nat.ne_of_gt (And.left (And.right (by assumption))) | exact Nat.ne_of_gt (And.right (by assumption)) | exact Nat.ne_of_lt (And.left (And.right (by assumption))) | exact Nat.ne_of_lt (And.right (by assumption)) | exact Nat.ne_of_gt (And.left (And.right (And.right (by assumption)))) | exact Nat.ne_of_gt (And.right (And.right (by assumption))) | exact Nat.ne_of_lt (And.left (And.right (And.right (by assumption)))) | exact Nat.ne_of_lt (And.right (And.right (by assumption))) | exact Nat.ne_of_gt (And.left (And.right (And.right (And.right (by assumption))))) | exact Nat.ne_of_gt (And.right (And.right (And.right (by assumption)))) | exact Nat.ne_of_lt (And.left (And.right (And.right (And.right (by assumption))))) | exact Nat.ne_of_lt (And.right (And.right (And.right (by assumption)))) | exact Nat.ne_of_gt (And.left (And.right (And.right (And.right (And.right (by assumption)))))) | exact Nat.ne_of_gt (And.right (And.right (And.right (And.right (by assumption))))) | exact Nat.ne_of_lt (And.left (And.right (And.right (And.right (And.right (by assumption)))))) | exact Nat.ne_of_lt (And.right (And.right (And.right (And.right (by assumption))))) | exact Nat.ne_of_gt (And.left (And.right (And.right (And.right (And.right (And.right (by assumption))))))) | exact Nat.ne_of_gt (And.right (And.right (And.right (And.right (And.right (by assumption)))))) | exact Nat.ne_of_lt (And.left (And.right (And.right (And.right (And.right (And.right (by assumption))))))) | exact Nat.ne_of_lt (And.right (And.right (And.right (And.right (And.right (by assumption)))))) | exact Nat.ne_of_gt (And.left (And.right (And.right (And.right (And.right (And.right (And.right (by assumption)))))))) | exact Nat.ne_of_gt (And.right (And.right (And.right (And.right (And.right (And.right (by assumption))))))) | exact Nat.ne_of_lt (And.left (And.right (And.right (And.right (And.right (And.right (And.right (by assumption)))))))) | exact Nat.ne_of_lt (And.right (And.right (And.right (And.right (And.right (And.right (by assumption)))))))))
  (k_with "execs cons" => (k_here; (with_reducible refine gen_toks ?_); intro tkq))
  (k_with "execs nil" => (k_here; (with_reducible refine gen_toks ?_); intro tkq))
  (k_with "subscriptTail Name Slice ref ref" => (k_here; (with_reducible show wpAny _ _ (subscriptTail _ (PySem.Expr.Slice _ _ none _) (Value.ref _) (Value.ref _)) _ _ _); k_dflt (refine' slice_one ?Fq ?Nq ?mq ?rq ?_ ?sq ?tq; (case Fq => k_asm); (case Nq => k_asm); (case mq => k_mem); (case rq => exact Nat.le_of_ble_eq_true rfl); (case sq => with_unfolding_all rfl); (case tq => intro _; with_unfolding_all rfl)); intro D'q h'q F'q N'q l1q; (try simp only [AllLt, and_true] at l1q); (try k_sweep)))
  (k_with "k_mem" => (assumption))
  (k_with "exec For Tuple Call cons nil" => (k_here; (rename Fr _ _ _ _ => lF'q); (with_unfolding_all refine' For_turns lF'q ?_; k_whole)))
  (k_with "call type:enumerate" => (k_here; (with_reducible show wpAny _ _ (call (Value.type _) [Value.ref _]) (fun xv s₁ => wpAny _ _ (pyIter xv) (fun it s₂ => TurnsAt _ _ _ _ _ _ _ _ _ it s₂) _ s₁) _ _); k_dflt (first
  | refine enum_turns (vs := []) (xs := []) (by rfl) (by k_asm) (by k_asm) (by k_mem) (by rfl) (by rfl) (by rfl) ?_
  | refine enum_turns (vs := [_]) (xs := [Itm.pair (fun t => Value.int (0 : Int) t) _]) (by rfl) (by k_asm) (by k_asm) (by k_mem) (by rfl) (by rfl) (by rfl) ?_
  | refine enum_turns (vs := [_, _]) (xs := [Itm.pair (fun t => Value.int (0 : Int) t) _, Itm.pair (fun t => Value.int (1 : Int) t) _]) (by rfl) (by k_asm) (by k_asm) (by k_mem) (by rfl) (by rfl) (by rfl) ?_); intro i'q l1q; (try k_lt l1q)))
  exact trivial
theorem slice_b {prog : Program} {w : World} {A : Around} {E : Value → Shared → Prop} {s : Shared} {h₀ : Heap} {L : Addr} {m : Str → Option Value} {news : List (Addr × Obj)} {value slice : PySem.Expr} {t : Addr} {v : Value} {r : List Value} {u : Tok} {Q : Value → Shared → Prop}
    (F : Fr h₀ L s.heap m) (N : News h₀ L s.heap news) (hm : IsTup s.heap t (v :: r).toArray) (hr : r.length ≤ 1000)
    (h : ∀ D h', Fr h₀ L h' m → News h₀ L h' ((D, ({ cls := .type "tuple", data := .seq r.toArray } : Obj)) :: news) → AllLt D news → Q (.ref D) { s with heap := h' })
    (hs : subscripted slice false (.ref t) (.ref s.heap.objs.size) = operate [.ref s.heap.objs.size, .ref t] (getItem (.ref t) (.ref s.heap.objs.size)))
    (hg : ∀ r, letTemporaryGo value (.ref t) r = pure ()) :
    wpAny (model prog w) A (subscriptTail value slice (.ref t) (.ref s.heap.objs.size)) Q E { s with heap := s.heap.push { cls := .type "slice", data := .fields #[.int 1 u, .none, .none] } } :=
  slice_tuple_from (a := 1) F N (items := (v :: r).toArray) hm (Nat.le_refl _) (by simp) (fun h' F' N' => h _ h' F' N' (allLt_of fun p hp => Nat.lt_succ_of_lt (Heap.lt_size (N p hp).1))) hs hg
    (by rw [List.size_toArray, List.length_cons, sizeLine_eq]; omega)
theorem slice_leaf {prog : Program} {w : World} {A : Around} {E : Value → Shared → Prop} {s : Shared} {h₀ : Heap} {L : Addr} {m : Str → Option Value} {l news : List (Addr × Obj)} {value slice : PySem.Expr} {v : Value} {σ : Str} {u : Tok} {Q : Value → Shared → Prop}
    (hT : Tm.In l v (.leaf σ)) (F : Fr h₀ L s.heap m) (X : (hd.heap_1 w.params).In h₀) (N : News h₀ L s.heap news) (i : ∀ p ∈ l, p ∈ news)
    (h : ∀ D h', Fr h₀ L h' m → News h₀ L h' ((D, ({ cls := .type "tuple", data := .seq [].toArray } : Obj)) :: news) → AllLt D news → Q (.ref D) { s with heap := h' })
    (hs : ∀ a, subscripted slice false (.ref a) (.ref s.heap.objs.size) = operate [.ref s.heap.objs.size, .ref a] (getItem (.ref a) (.ref s.heap.objs.size)))
    (hg : ∀ a r, letTemporaryGo value (.ref a) r = pure ()) :
    wpAny (model prog w) A (subscriptTail value slice v (.ref s.heap.objs.size)) Q E { s with heap := s.heap.push { cls := .type "slice", data := .fields #[.int 1 u, .none, .none] } } := by
  obtain ⟨a, t, rfl, ht⟩ := hT.tup F X N i
  exact slice_b F N ht (by decide) h (hs a) (hg a)
theorem words_V2_2 : True := by
  w_top off
  (k_with "subscriptTail Name Slice ref" => (k_here; (with_reducible show wpAny _ _ (subscriptTail _ (PySem.Expr.Slice _ _ none _) _ (Value.ref _)) _ _ _); k_dflt (refine slice_leaf (by assumption) (by k_asm) (by k_asm) (by k_asm) (by (intro pq hpq; repeat (first | exact hpq | refine List.Mem.tail _ ?_))) ?_ (by intro _; with_unfolding_all rfl) (by intro _ _; with_unfolding_all rfl)); intro D'q h'q F'q N'q l1q; (try simp only [AllLt, and_true] at l1q); (try k_sweep)))
  exact trivial
theorem sub_leaf {x l a b c : Addr × Obj} {news : List (Addr × Obj)} : ∀ p ∈ l :: (news ++ [a, b]), p ∈ x :: l :: a :: b :: c :: news := fun p hp => by
  simp only [List.mem_append, List.mem_cons, List.not_mem_nil, or_false] at hp ⊢
  rcases hp with h | h | h | h <;> simp [h]
theorem part_ord {c D2 D1 l : Addr} {news : List (Addr × Obj)} (h4 : c < D2 ∧ AllLt D2 news) (h3 : D2 < D1 ∧ c < D1 ∧ AllLt D1 news) (h2 : D1 < l ∧ D2 < l ∧ c < l ∧ AllLt l news) :
    (∀ o1 o2 ol : Obj, ∀ q ∈ news, ∀ p ∈ [(l, ol), (D1, o1), (D2, o2)], q.1 < p.1) ∧ ∀ o1 o2 : Obj, ∀ p ∈ [(D1, o1), (D2, o2)], p.1 ≠ l := by
  refine ⟨fun o1 o2 ol q hq p hp => ?_, fun o1 o2 p hp => ?_⟩
  · simp only [List.mem_cons, List.not_mem_nil, or_false] at hp
    rcases hp with rfl | rfl | rfl
    · exact ktn_ltOf h2.2.2.2 q hq
    · exact ktn_ltOf h3.2.2 q hq
    · exact ktn_ltOf h4.2 q hq
  · simp only [List.mem_cons, List.not_mem_nil, or_false] at hp
    rcases hp with rfl | rfl
    · exact Nat.ne_of_lt h2.1
    · exact Nat.ne_of_lt h2.2.1
theorem part_leafIn {l : List (Addr × Obj)} {a b : Addr} {v : Value} {σ : Str} (ha : (a, tupO #[.ref b, v]) ∈ l) (hb : (b, tupO #[]) ∈ l) (hT : Tm.In l v (.leaf σ)) : PartsIn l (Tm.leaf σ).h [.ref a] (Tm.leaf σ).subs :=
  .cons ha hb (by simp [Tm.h]) hT .nil
theorem part_leaf (σ : Str) : PartSays (.leaf σ) := by
  intro w dp un gd cn cs a ccd cl outer A₀ base h₀ L m s loose mean mg mb Q E news l v hsz hl B F X N T hk hT hd hu ret
  (revert X; k_fill; intro X)
  dsimp only [Tm.h] at hd hu
  have hT0 := hT.mono hl
  all_goals (
    refine wpAny_call ?_
    k_dflt (refine' code_defC ?k1 ?k2 ?k3 ?k4 ?k5 ?kA ?kF ?kK ?k6 ?k7 ?k8 ?k9 ?kB ?kD ?_ ?c2 ?c3 ?c4; (case kA => exact rfl); (case kF => exact rfl); (case kK => assumption); (case k1 => k_asm); (case k2 => k_asm); (case k3 => k_asm); (case k4 => k_asm); (case k5 => k_asm); (case k6 => k_is); (case k7 => k_is); (case k8 => (ktr_room)); (case k9 => exact BindsTo.of_eq rfl); (case kB => exact rfl); (case kD => decide +kernel); (case c2 => exact rfl); (case c3 => exact rfl); (case c4 => exact rfl); k_whole; intro g' L' h' tk' cells' FG' F' N' Y' B' X' T' l1; (try k_lt l1); k_cells Y'; (try simp only [List.cons_append, List.nil_append] at N'); (try dsimp only); (try k_fold))
    k_steps
    all_goals (have ho := part_ord (by assumption) (by assumption) (by assumption)
               refine' ret _ [_] _ [_, _] _ _ ?e1 (News.sub ?e2 ?e3) (ho.1 _ _ _) (part_leafIn ?p1 ?p2 ?p3) (ho.2 _ _); (case e1 => k_asm); (case e2 => k_asm); (case e3 => exact sub_leaf); (case p1 => exact List.mem_append_right _ (.head _)); (case p2 => exact List.mem_append_right _ (.tail _ (.head _))); (case p3 => exact hT.mono fun p hp => List.mem_append_left _ hp)))
end Mine
end

theorem Mine.reset_V3 : True := by
  w_top off
  k_with_none
  exact trivial
section
open PySem PySem.W PyProof.Rows PySem.Calls PyProof.V
set_option maxRecDepth 100000
set_option maxHeartbeats 4000000
namespace Mine
theorem PartsIn.snoc {l : List (Addr × Obj)} {n : Nat} {vs : List Value} {Ts : List Tm} (h : PartsIn l n vs Ts) {a b : Addr} {v : Value} {its : Array Value} {T : Tm} (ha : (a, tupO #[.ref b, v]) ∈ l) (hb : (b, tupO its) ∈ l) (hs : its.size < n) (hT : Tm.In l v T) :
    PartsIn l n (vs ++ [.ref a]) (Ts ++ [T]) := by
  induction h with
  | nil => exact .cons ha hb hs hT .nil
  | cons a b c d _ ih => exact .cons a b c d ih
theorem PartsIn.app {l : List (Addr × Obj)} {n : Nat} {vs vs' : List Value} {Ts Ts' : List Tm} (h : PartsIn l n vs Ts) (h' : PartsIn l n vs' Ts') : PartsIn l n (vs ++ vs') (Ts ++ Ts') := by
  induction h with
  | nil => exact h'
  | cons a b c d _ ih => exact .cons a b c d ih
theorem PartsIn.len {l : List (Addr × Obj)} {n : Nat} {vs : List Value} {Ts : List Tm} (h : PartsIn l n vs Ts) : vs.length = Ts.length := by
  induction h with
  | nil => rfl
  | cons _ _ _ _ _ ih => simp [ih]
theorem PartsIn.get {l : List (Addr × Obj)} {n : Nat} {vs : List Value} {Ts : List Tm} (h : PartsIn l n vs Ts) : ∀ (i : Nat) (v : Value), vs[i]? = some v → ∃ a b u its T, v = .ref a ∧ Ts[i]? = some T ∧ (a, tupO #[.ref b, u]) ∈ l ∧ (b, tupO its) ∈ l ∧ its.size < n ∧ Tm.In l u T := by
  induction h with
  | nil => intro i v e; simp at e
  | cons a b c d _ ih =>
    intro i v e
    cases i with
    | zero => simp at e; subst e; exact ⟨_, _, _, _, _, rfl, by simp, a, b, c, d⟩
    | succ i => obtain ⟨a', b', u, its, T, r1, r2, r⟩ := ih i v (by simpa using e); exact ⟨a', b', u, its, T, r1, by simpa using r2, r⟩
theorem Tm.h_pos : ∀ T : Tm, 0 < T.h
  | .leaf _ => Nat.one_pos
  | .neg _ => Nat.succ_pos _
  | .bin _ _ _ => Nat.succ_pos _
theorem Tm.subs_len : ∀ T : Tm, T.subs.length = T.h
  | .leaf _ => rfl
  | .neg x => by simp [Tm.subs, Tm.h, Tm.subs_len x]
  | .bin o x y => by simp [Tm.subs, Tm.h, Tm.subs_len x, Tm.subs_len y]
theorem off3_app {I C D : Addr} : ∀ {a b : List (Addr × Obj)}, LCg.Off3 I C D a → LCg.Off3 I C D b → LCg.Off3 I C D (a ++ b)
  | [], _, _, h => h
  | _ :: _, _, h, h' => ⟨h.1, off3_app h.2 h'⟩
theorem off3_left {I C D : Addr} : ∀ {a b : List (Addr × Obj)}, LCg.Off3 I C D (a ++ b) → LCg.Off3 I C D a
  | [], _, _ => trivial
  | _ :: _, _, h => ⟨h.1, off3_left h.2⟩
theorem off3_right {I C D : Addr} : ∀ {a b : List (Addr × Obj)}, LCg.Off3 I C D (a ++ b) → LCg.Off3 I C D b
  | [], _, h => h
  | _ :: _, _, h => off3_right h.2
section
variable {prog : Program} {w : World} {A : Around} {E : Value → Shared → Prop} {s : Shared} {h₀ : Heap} {L : Addr} {m : Str → Option Value} {env : Env}
theorem srcAt_sub {ax : Addr} {its : Array Value} {l l' : List (Addr × Obj)} (h : ∀ p ∈ l, p ∈ l') (x : LCg.SrcAt h₀ ax its l) : LCg.SrcAt h₀ ax its l' := by
  rcases x with x | ⟨o, hm, r⟩
  · exact .inl x
  · exact .inr ⟨o, h _ hm, r⟩
theorem compEnd_mono {I C D : Addr} {s₁ : Shared} {oI oC oD : Obj} {S : List (Addr × Obj) → Prop} {rest rest' : Value → List (Addr × Obj) → Prop} {y : Value} {s₂ : Shared} (h : ∀ n, rest y n → rest' y n) (e : LCg.CompEnd h₀ L m s₁ I oI C oC D oD S rest y s₂) : LCg.CompEnd h₀ L m s₁ I oI C oC D oD S rest' y s₂ :=
  let ⟨h', tk, n, a, b, c, d, e, f⟩ := e; ⟨h', tk, n, a, b, c, d, e, h n f⟩
def PartRest (n0 ex : List (Addr × Obj)) (n : Nat) (v : Value) (y : Value) (news' : List (Addr × Obj)) : Prop :=
  ∃ a b its, y = .ref a ∧ news' = n0 ++ ((a, tupO #[.ref b, v]) :: (b, tupO its) :: ex) ∧ its.size < n ∧ (∀ q ∈ n0, q.1 < a ∧ q.1 < b)
theorem restP_parts {elt : PySem.Expr} {x x₂ : Str} {scope : Scope} {cl : List (Str × Addr)} {s : Shared} {S : List (Addr × Obj) → Prop} {Fin : List Value → List (Addr × Obj) → Prop} {vs : List Value} {Ts : List Tm} {n : Nat} {base n0 : List (Addr × Obj)} {c : Addr × Obj}
    (hp : PartsIn base n vs Ts) (hb : ∀ p ∈ base, p ∈ n0) (hc : c ∈ n0)
    (step : ∀ R ex ys b v its I oI C oC D m₂ h tk (E' : Value → Shared → Prop), R = n0 ++ ex → c ∈ R → (b, tupO its) ∈ R → its.size < n → LCg.NsObj oC m₂ → m₂ x = some (.ref b) → m₂ x₂ = some v → Fr h₀ L h m → News h₀ L h ((I, oI) :: (C, oC) :: (D, LCg.lst ys) :: R) → LCg.Off3 I C D R → ((@Ne Nat I C) ∧ (@Ne Nat I D) ∧ (@Ne Nat C D)) →
      wpAny (model prog w) A (eval elt (compEnvC scope cl C env)) (LCg.CompEnd h₀ L m { s with heap := h, toks := tk } I oI C oC D (LCg.lst ys) S (PartRest n0 ex (n + 1) v)) E' { s with heap := h, toks := tk })
    (fin : ∀ ex ys, (∀ q ∈ n0, ∀ p ∈ ex, q.1 < p.1) → PartsIn (base ++ ex) (n + 1) ys Ts → Fin ys (n0 ++ ex)) :
    LCp.CompRestP prog w A h₀ L m env elt x x₂ scope cl s S (fun i v => vs.toArray[i]? = some v) Fin vs.toArray.size 0 [] n0 := by
  have key : ∀ k i ys ex, i + k = vs.length → (∀ q ∈ n0, ∀ p ∈ ex, q.1 < p.1) → PartsIn (base ++ ex) (n + 1) ys (Ts.take i) → LCp.CompRestP prog w A h₀ L m env elt x x₂ scope cl s S (fun i v => vs.toArray[i]? = some v) Fin k i ys (n0 ++ ex) := by
    intro k
    induction k with
    | zero =>
      intro i ys ex hk ho hp'
      refine LCp.CompRestP.zero (fin ex ys ho ?_)
      rw [List.take_of_length_le (by rw [← hp.len]; omega)] at hp'
      exact hp'
    | succ k ih =>
      intro i ys ex hk ho hp'
      refine LCp.CompRestP.succ fun v hv => ?_
      obtain ⟨a, b, u, its, T, rfl, hT, ha, hb', hs, hin⟩ := hp.get i v (by simpa using hv)
      refine ⟨a, _, .ref b, u, _, rfl, List.mem_append_left _ (hb _ ha), rfl, rfl, ?_⟩
      intro I oI C oC D m₂ h tk E' e1 e2 e3 F N off ne
      refine wpAny_mono (step _ ex ys b u its I oI C oC D m₂ h tk E' rfl (List.mem_append_left _ hc) (List.mem_append_left _ (hb _ hb')) hs e1 e2 e3 F N off ne) (fun y s' hy => compEnd_mono (fun news' hr => ?_) hy) fun _ _ e => e
      obtain ⟨a', b', its', rfl, rfl, hs', ho'⟩ := hr
      refine ih (i + 1) _ _ (by omega) (fun q hq p hp2 => ?_) ?_
      · simp only [List.mem_cons] at hp2
        rcases hp2 with rfl | rfl | hp2
        · exact (ho' q hq).1
        · exact (ho' q hq).2
        · exact ho q hq p hp2
      · have e : Ts.take (i + 1) = Ts.take i ++ [T] := by rw [List.take_add_one, hT]; rfl
        rw [e]
        have sub : ∀ p ∈ base ++ ex, p ∈ base ++ ((a', tupO #[.ref b', u]) :: (b', tupO its') :: ex) := fun p hp2 => by
          simp only [List.mem_append, List.mem_cons] at hp2 ⊢
          rcases hp2 with h | h <;> simp [h]
        exact (hp'.mono sub (Nat.le_refl _)).snoc (b := b') (its := its') (List.mem_append_right _ (.head _)) (List.mem_append_right _ (.tail _ (.head _))) hs' (hin.mono fun p hp2 => List.mem_append_left _ hp2)
  have := key vs.length 0 [] [] (by simp) (fun _ _ _ h => nomatch h) (by simpa using PartsIn.nil)
  simpa using this
theorem compEnd_part {I C D a b t : Addr} {s₁ : Shared} {oI oC : Obj} {ys : List Value} {v : Value} {its its0 : Array Value} {S : List (Addr × Obj) → Prop} {n : Nat} {ot : Obj} {R n0 ex : List (Addr × Obj)} {h' : Heap} {tk : Nat}
    (hR : R = n0 ++ ex) (F : Fr h₀ L h' m) (N : News h₀ L h' ((a, tupO #[.ref b, v]) :: (b, tupO its) :: (t, ot) :: (I, oI) :: (C, oC) :: (D, LCg.lst ys) :: R)) (off : LCg.Off3 I C D R) (hs : its.size = its0.size + 1) (hs0 : its0.size < n)
    (hb : ∀ p ∈ (I, oI) :: (C, oC) :: (D, LCg.lst ys) :: R, p.1 < b) (ha : AllLt a ((b, tupO its) :: (t, ot) :: (I, oI) :: (C, oC) :: (D, LCg.lst ys) :: R)) (hS : ∀ r, S (n0 ++ r)) :
    LCg.CompEnd h₀ L m s₁ I oI C oC D (LCg.lst ys) S (PartRest n0 ex (n + 1) v) (.ref a) { s₁ with heap := h', toks := tk } := by
  subst hR
  have ha' := ktn_ltOf ha
  refine ⟨h', tk, n0 ++ ((a, tupO #[.ref b, v]) :: (b, tupO its) :: ex), rfl, F, News.sub N fun p hp => ?_, off3_app (off3_left off) ⟨⟨?_, ?_, ?_⟩, ⟨?_, ?_, ?_⟩, off3_right off⟩, hS _, a, b, its, rfl, rfl, by omega, fun q hq => ⟨ha' q (by simp [hq]), hb q (by simp [hq])⟩⟩
  · simp only [List.mem_append, List.mem_cons] at hp ⊢
    rcases hp with h | h | h | h | h | h | h <;> simp [h]
  · exact Nat.ne_of_gt (ha' (I, oI) (by simp))
  · exact Nat.ne_of_gt (ha' (C, oC) (by simp))
  · exact Nat.ne_of_gt (ha' (D, LCg.lst ys) (by simp))
  · exact Nat.ne_of_gt (hb (I, oI) (by simp))
  · exact Nat.ne_of_gt (hb (C, oC) (by simp))
  · exact Nat.ne_of_gt (hb (D, LCg.lst ys) (by simp))
theorem add_path {t b : Addr} {x : Value} {its : Array Value} {R : List (Addr × Obj)} {Q : Value → Shared → Prop} (F : Fr h₀ L s.heap m) (N : News h₀ L s.heap ((t, tupO #[x]) :: R)) (hb : (b, tupO its) ∈ R) (hR : ∀ p ∈ R, p.1 < t) (hsz : its.size < 1000)
    (ret : ∀ c its' h', Fr h₀ L h' m → News h₀ L h' ((c, tupO its') :: (t, tupO #[x]) :: R) → its'.size = its.size + 1 → (∀ p ∈ R, p.1 < c) → Q (.ref c) { s with heap := h' }) : wpAny (model prog w) A (binaryOp .Add (.ref t) (.ref b)) Q E s := by
  have ht : IsTup s.heap t [x].toArray := ⟨_, N.get (.head _), rfl, _, rfl⟩
  have hbt : IsTup s.heap b its.toList.toArray := ⟨_, N.get (.tail _ hb), rfl, 0, by simp⟩
  refine add_tuples F N ht hbt (fun e => by cases e) (fun _ e => ?_) (fun _ _ h' F' N' => ?_) (by simp; rw [sizeLine_eq]; omega)
  · have e' : its.size = 0 := by
      have e2 : its.toList.length = 0 := by rw [e]; rfl
      rw [Array.length_toList] at e2; exact e2
    exact ret t #[x] s.heap F (News.sub N fun p hp => by simp only [List.mem_cons] at hp ⊢; rcases hp with h | h | h <;> simp [h]) (by rw [e']; rfl) hR
  · exact ret _ _ h' F' N' (by simp) fun p hp => Heap.lt_size (N p (.tail _ hp)).1
end
end Mine
end

theorem Mine.reset_V4 : True := by
  w_top off
  k_with_none
  exact trivial
section
open PySem PySem.W PyProof.Rows PySem.Calls PyProof.V
set_option maxRecDepth 100000
set_option maxHeartbeats 800000
namespace Mine
theorem PartSays.use {T0 : Tm} (C : PartSays T0) {w : World} {dp un : Nat} {gd : Option (List Code)} {cn : Str} {cs : Scope} {a : Addr} {ccd : Value} {cl : List (Str × Addr)} {outer : List Env} {A₀ : Around} {base h₀ : Heap} {L : Addr} {m : Str → Option Value} {s : Shared} {loose : List Str} {mean : ExcName → Option Value} {mg mb : Str → Option Value}
    {Q E : Value → Shared → Prop} {news l : List (Addr × Obj)} {v : Value}
    (_hsz : T0.h ≤ 20)
    (_B : Below A₀ base outer h₀) (_F : Fr h₀ L s.heap m) (_X : (hd.heap_1 w.params).In h₀)
    (_N : News h₀ L s.heap news) (_T : Top view loose mean mg mb h₀) (_hk : cs.kind = .function)
    (_hT : Tm.In l v T0) (_hl : ∀ p ∈ l, p ∈ news)
    (_hd : dp + T0.h < recursionLimit) (_hu : un + 24 * T0.h + 100 < cLine)
    (_ret : ∀ D vs n tl h' tk', Fr h₀ L h' m → News h₀ L h' ((D, listOf vs.toArray n) :: (news ++ tl)) → (∀ q ∈ news, ∀ p ∈ (D, listOf vs.toArray n) :: tl, q.1 < p.1) → PartsIn (l ++ tl) T0.h vs T0.subs → (∀ p ∈ tl, p.1 ≠ D) → Q (.ref D) { s with heap := h', toks := tk' }) :
    wpAny (model PySem.Challenge.rw_pq0025_01.row.prog w) (ktrTop dp un gd cn cs L a ccd cl outer) (call (.ref 96) [v]) Q E s   := C _hsz _hl _B _F _X _N _T _hk _hT _hd _hu _ret
theorem words_V4_1 : True := by
  w_top off
  k_with_none
  (k_with "k_ne" => (refine neN ?_; (try dsimp only); first | assumption | exact Ne.symm (by assumption) | exact Nat.ne_of_gt (by assumption) | exact Nat.ne_of_lt (by assumption) | (refine' Nat.ne_of_gt ?_; iterate 6 (try (first | exact Nat.lt_succ_self _ | refine' Nat.lt_succ_of_lt ?_)); done) | (refine' Nat.ne_of_lt ?_; iterate 6 (try (first | exact Nat.lt_succ_self _ | refine' Nat.lt_succ_of_lt ?_)); done) | exact Nat.ne_of_gt (And.left (by assumption)) | exact Nat.ne_of_lt (And.left (by assumption)) | exact Nat.ne_of_gt (And.left (And.right (by assumption))) | exact Nat.ne_of_gt (And.right (by assumption)) | exact Nat.ne_of_lt (And.left (And.right (by assumption))) | exact Nat.ne_of_lt (And.right (by assumption)) | exact Nat.ne_of_gt (And.left (And.right (And.right (by assumption)))) | exact Nat.ne_of_gt (And.right (And.right (by assumption))) | exact Nat.ne_of_lt (And.left (And.right (And.right (by assumption)))) | exact Nat.ne_of_lt (And.right (And.right (by assumption))) | exact Nat.ne_of_gt (And.left (And.right (And.right (And.right (by assumption))))) | exact Nat.ne_of_gt (And.right (And.right (And.right (by assumption)))) | exact Nat.ne_of_lt (And.left (And.right (And.right (And.right (by assumption))))) | exact Nat.ne_of_lt (And.right (And.right (And.right (by assumption)))) | exact Nat.ne_of_gt (And.left (And.right (And.right (And.right (And.right (by assumption)))))) | exact Nat.ne_of_gt (And.right (And.right (And.right (And.right (by assumption))))) | exact Nat.ne_of_lt (And.left (And.right (And.right (And.right (And.right (by assumption)))))) | exact Nat.ne_of_lt (And.right (And.right (And.right (And.right (by assumption))))) | exact Nat.ne_of_gt (And.left (And.right (And.right (And.right (And.right (And.right (by assumption))))))) | exact Nat.ne_of_gt (And.right (And.right (And.right (And.right (And.right (by assumption)))))) | exact Nat.ne_of_lt (And.left (And.right (And.right (And.right (And.right (And.right (by assumption))))))) | exact Nat.ne_of_lt (And.right (And.right (And.right (And.right (And.right (by assumption)))))) | exact Nat.ne_of_gt (And.left (And.right (And.right (And.right (And.right (And.right (And.right (by assumption)))))))) | exact Nat.ne_of_gt (And.right (And.right (And.right (And.right (And.right (And.right (by assumption))))))) | exact Nat.ne_of_lt (And.left (And.right (And.right (And.right (And.right (And.right (And.right (by assumption)))))))) | exact Nat.ne_of_lt (And.right (And.right (And.right (And.right (And.right (And.right (by assumption)))))))))
  (k_with "execs cons" => (k_here; (with_reducible refine gen_toks ?_); intro tkq))
  (k_with "execs nil" => (k_here; (with_reducible refine gen_toks ?_); intro tkq))
  (k_with "subscriptTail Name Slice ref ref" => (k_here; (with_reducible show wpAny _ _ (subscriptTail _ (PySem.Expr.Slice _ _ none _) (Value.ref _) (Value.ref _)) _ _ _); k_dflt (refine' slice_one ?Fq ?Nq ?mq ?rq ?_ ?sq ?tq; (case Fq => k_asm); (case Nq => k_asm); (case mq => k_mem); (case rq => exact Nat.le_of_ble_eq_true rfl); (case sq => with_unfolding_all rfl); (case tq => intro _; with_unfolding_all rfl)); intro D'q h'q F'q N'q l1q; (try simp only [AllLt, and_true] at l1q); (try k_sweep)))
  (k_with "k_mem" => (assumption))
  (k_with "exec For Tuple Call cons nil" => (k_here; (rename Fr _ _ _ _ => lF'q); (with_unfolding_all refine' For_turns lF'q ?_; k_whole)))
  (k_with "call type:enumerate" => (k_here; (with_reducible show wpAny _ _ (call (Value.type _) [Value.ref _]) (fun xv s₁ => wpAny _ _ (pyIter xv) (fun it s₂ => TurnsAt _ _ _ _ _ _ _ _ _ it s₂) _ s₁) _ _); k_dflt (first
  | refine enum_turns (vs := []) (xs := []) (by rfl) (by k_asm) (by k_asm) (by k_mem) (by rfl) (by rfl) (by rfl) ?_
  | refine enum_turns (vs := [_]) (xs := [Itm.pair (fun t => Value.int (0 : Int) t) _]) (by rfl) (by k_asm) (by k_asm) (by k_mem) (by rfl) (by rfl) (by rfl) ?_
  | refine enum_turns (vs := [_, _]) (xs := [Itm.pair (fun t => Value.int (0 : Int) t) _, Itm.pair (fun t => Value.int (1 : Int) t) _]) (by rfl) (by k_asm) (by k_asm) (by k_mem) (by rfl) (by rfl) (by rfl) ?_); intro i'q l1q; (try k_lt l1q)))
  (k_with "call ref" => (k_here; (with_reducible show wpAny _ _ (call (Value.ref 96) [_]) _ _ _); k_dflt (first | (refine' PartSays.use ?Cq ?hszq ?Bq ?Fq ?Xq ?Nq ?Tq ?hkq ?hTq ?hlq ?hdq ?huq ?_; (case Bq => k_asm); (case Fq => k_asm); (case Xq => k_asm); (case Nq => k_asm); (case Tq => k_asm); (case hkq => first | exact rfl | assumption); (case hTq => assumption); (case hlq => (intro pq hpq; have hpq := (by assumption : ∀ pq ∈ _, pq ∈ _) pq hpq; repeat (first | exact hpq | refine List.Mem.tail _ ?_))); (case Cq => assumption); (case hszq => omega); (case hdq => ktr_room); (case huq => ktr_units)); intro D'q vs'q n'q tl'q h'q tk'q F'q N'q o'q p'q d'q; (try simp only [List.cons_append] at N'q); (try k_sweep))))
  (k_with "execs cons" => k_fold)
  (k_with "eval Call" => k_fold)
  exact trivial
theorem ext_any {prog : Program} {w : World} {A : Around} {E : Value → Shared → Prop} {s : Shared} {h₀ : Heap} {L f b : Addr} {m : Str → Option Value} {news : List (Addr × Obj)} {g : Obj → List (Addr × Obj)} {xs ys : List Value} {n : Nat} {Q : Value → Shared → Prop}
    (F : Fr h₀ L s.heap m) (N : News h₀ L s.heap news) (hb : (b, LCg.lst ys) ∈ news) (U : UpdF f (listOf xs.toArray n) news g) (hx : xs.length + ys.length ≤ 1000)
    (ret : ∀ n' h', Fr h₀ L h' m → News h₀ L h' (g (listOf (xs ++ ys).toArray n')) → Q .none { s with heap := h' }) : wpAny (model prog w) A (call (.builtin "list.extend") [.ref f, .ref b]) Q E s := by
  obtain ⟨pre, post, rfl, hg, a, c⟩ := U.split
  have z := N (f, listOf xs.toArray n) (List.mem_append_right _ (.head _))
  have hq : ∃ k, (s.heap.update f (Obj.mapSeq fun x => x ++ ys.toArray)).get? f = some (listOf (xs ++ ys).toArray k) := ⟨_, (get?_update_seq (c := "list") z.1 (fun x => x ++ ys.toArray)).trans (by rw [show xs.toArray ++ ys.toArray = (xs ++ ys).toArray by simp])⟩
  obtain ⟨k, hq⟩ := hq
  refine call_meets PySem.F.slot_list_extend ⟨_, z.1, rfl⟩ PySem.F.entry_list_extend (PySem.F.args_list_extend_2 _ _) (PySem.AutoSeq1.list_extend_list_list_0 f xs.toArray n b ys.toArray ys.length ?_ ?_ ?_)
    ⟨z.1, (N _ hb).1, ret _ _ (F.change (Heap.SameBut.update ..) z.2.1 z.2.2) (hg _ ▸ N.setAt a c (Heap.SameBut.update ..) hq)⟩
  · simp only [List.size_toArray, Builtin.List.listTooLong]
    intro q
    simp at q
    have h16 := sizeLine_eq
    omega
  · rw [sizeLine_eq]; simp; omega
  · rw [sizeLine_eq]; simp; omega
section
variable {prog : Program} {w : World} {A : Around} {s : Shared} {h₀ : Heap} {m : Str → Option Value} {env : Env}
theorem turn_end {E0 E1 E2 : Value → Shared → Prop} {sI : Shared} {target : PySem.Expr} {body : List Stmt} {Q : Flow → Shared → Prop} {ws : List (Addr × String)} {r : List Itm} {s1 : Shared} {i l De D' Ds : Addr} {o1 oe oi os : Obj} {xs ys : List Value} {n : Nat} {rest0 tl ex : List (Addr × Obj)}
    (ho : ∀ q ∈ (i + 1, oe) :: (i, oi) :: (Ds, os) :: (l, listOf xs.toArray n) :: rest0, ∀ p ∈ (D', o1) :: tl, q.1 < p.1)
    (hq : ∀ q ∈ (D', o1) :: (i + 1, oe) :: (i, oi) :: (Ds, os) :: (l, listOf xs.toArray n) :: (rest0 ++ tl), ∀ p ∈ ex, q.1 < p.1)
    (F : Fr h₀ env.locals s.heap m) (N : News h₀ env.locals s.heap ((De, LCg.lst ys) :: (D', o1) :: (i + 1, oe) :: (i, oi) :: (Ds, os) :: (l, listOf xs.toArray n) :: (rest0 ++ tl ++ ex)))
    (off : LCg.Off1 De ((D', o1) :: (i + 1, oe) :: (i, oi) :: (Ds, os) :: (l, listOf xs.toArray n) :: (rest0 ++ tl ++ ex)))
    (hsep : ∀ p ∈ rest0, (p.1 < i ∨ i + 1 < p.1) ∧ p.1 ≠ l) (hl : l < i) (hD : Ds < i) (hDl : l < Ds) (hx : xs.length + ys.length ≤ 1000)
    (hs1 : ∀ h', ({ s with heap := h' } : Shared) = { s1 with heap := h', toks := s.toks })
    (ret : (∀ p ∈ rest0 ++ tl ++ ex, (p.1 < i ∨ i + 1 < p.1) ∧ p.1 ≠ l) → ∀ n', ItemsRest prog w A E0 h₀ env target body Q sI ws [(Ds, os)] r m ((Ds, os) :: (l, listOf (xs ++ ys).toArray n') :: (rest0 ++ tl ++ ex))) :
    wpAny (model prog w) A (call (.builtin "list.extend") [.ref l, .ref De]) (fun x s' => wpAny (model prog w) A (execs [] env) (UnrPostW h₀ env.locals s1 [(i + 1, oe), (i, oi)] (fun m' n' => SubL [(Ds, os)] n' ∧ ItemsRest prog w A E0 h₀ env target body Q sI ws [(Ds, os)] r m' n') Q) E2 s') E1 s := by
  have hrest : ∀ p ∈ rest0 ++ tl ++ ex, (p.1 < i ∨ i + 1 < p.1) ∧ p.1 ≠ l := fun p hp => by
    simp only [List.mem_append] at hp
    rcases hp with (hp | hp) | hp
    · exact hsep p hp
    · exact ⟨.inr (ho (i + 1, oe) (.head _) p (.tail _ hp)), Nat.ne_of_gt (ho (l, listOf xs.toArray n) (.tail _ (.tail _ (.tail _ (.head _)))) p (.tail _ hp))⟩
    · exact ⟨.inr (hq (i + 1, oe) (.tail _ (.head _)) p hp), Nat.ne_of_gt (hq (l, listOf xs.toArray n) (.tail _ (.tail _ (.tail _ (.tail _ (.head _))))) p hp)⟩
  have hD1 : l < D' := ho (l, listOf xs.toArray n) (.tail _ (.tail _ (.tail _ (.head _)))) (D', o1) (.head _)
  refine ext_any F N (xs := xs) (ys := ys) (n := n) (b := De) (.head _) (.tail (Ne.symm off.2.2.2.2.1) (.tail (Nat.ne_of_gt hD1) (.tail (Nat.ne_of_gt (Nat.lt_succ_of_lt hl)) (.tail (Nat.ne_of_gt hl) (.tail (Nat.ne_of_gt hDl) (.head fun p hp => (hrest p hp).2)))))) hx fun n' h' F' N' => ?_
  refine wpAny_execs_nil ?_
  refine ⟨h', s.toks, m, (Ds, os) :: (l, listOf (xs ++ ys).toArray n') :: (rest0 ++ tl ++ ex), hs1 h', F', News.sub N' fun p hp => ?_, fun p hp q hq2 => ?_, ⟨.head _, trivial⟩, ret hrest n'⟩
  · simp only [List.cons_append, List.nil_append, List.mem_cons] at hp ⊢
    rcases hp with h | h | h | h | h
    · exact .inr (.inr (.inl h))
    · exact .inr (.inr (.inr (.inl h)))
    · exact .inr (.inr (.inr (.inr (.inl h))))
    · exact .inr (.inr (.inr (.inr (.inr (.inl h)))))
    · exact .inr (.inr (.inr (.inr (.inr (.inr h)))))
  · have hq' : q.1 = i + 1 ∨ q.1 = i := by
      simp only [List.mem_cons, List.not_mem_nil, or_false] at hq2
      rcases hq2 with h | h
      · exact .inl (congrArg Prod.fst h)
      · exact .inr (congrArg Prod.fst h)
    have hp' : p.1 < i ∨ i + 1 < p.1 := by
      simp only [List.mem_cons] at hp
      rcases hp with h | h | h
      · rw [h]; exact .inl hD
      · rw [h]; exact .inl hl
      · exact (hrest p h).1
    rcases hq' with h | h <;> rw [h] <;> rcases hp' with h2 | h2
    · exact Nat.ne_of_lt (Nat.lt_succ_of_lt h2)
    · exact Nat.ne_of_gt h2
    · exact Nat.ne_of_lt h2
    · exact Nat.ne_of_gt (Nat.lt_of_succ_lt h2)
end
theorem app_sub {c l tl : List (Addr × Obj)} (h : ∀ p ∈ l, p ∈ c) : ∀ p ∈ l ++ tl, p ∈ c ++ tl := fun p hp => by
  rcases List.mem_append.mp hp with hp | hp
  · exact List.mem_append_left _ (h p hp)
  · exact List.mem_append_right _ hp
theorem src_len {l : List (Addr × Obj)} {n : Nat} {vs : List Value} {T : Tm} (h : PartsIn l n vs T.subs) (hn : T.h ≤ 1000) : vs.toArray.size ≤ sizeLine := by
  have := h.len
  rw [Tm.subs_len] at this
  rw [sizeLine_eq, List.size_toArray]
  omega
theorem and1 {a b : Prop} (h : a ∧ b) : a := h.1
theorem and21 {a b c : Prop} (h : a ∧ b ∧ c) : b := h.2.1
theorem sep_one {i l a : Addr} {R : List (Addr × Obj)} (h : a < i ∧ l < i ∧ AllLt i R) (h2 : AllLt l R) : ∀ p ∈ R, (p.1 < i ∨ i + 1 < p.1) ∧ p.1 ≠ l := fun p hp => ⟨.inl (ktn_ltOf h.2.2 p hp), Nat.ne_of_lt (ktn_ltOf h2 p hp)⟩
theorem neg_done {c i l Ds D' D1 D2 : Addr} {oe oi os o1 oc : Obj} {ol : Obj} {lsub news tl ex : List (Addr × Obj)} {x : Tm} {v : Value} {ys : List Value} (hl : ∀ p ∈ lsub, p ∈ news)
    (h4 : c < D2 ∧ AllLt D2 news) (h3 : D2 < D1 ∧ c < D1 ∧ AllLt D1 news) (h2 : D1 < l ∧ D2 < l ∧ c < l ∧ AllLt l news)
    (ho : ∀ q ∈ (i + 1, oe) :: (i, oi) :: (Ds, os) :: (l, ol) :: (D1, tupO #[.ref D2, v]) :: (D2, tupO #[]) :: (c, oc) :: news, ∀ p ∈ (D', o1) :: tl, q.1 < p.1)
    (hq : ∀ q ∈ (D', o1) :: (i + 1, oe) :: (i, oi) :: (Ds, os) :: (l, ol) :: (D1, tupO #[.ref D2, v]) :: (D2, tupO #[]) :: (c, oc) :: (news ++ tl), ∀ p ∈ ex, q.1 < p.1)
    (hp : PartsIn (lsub ++ tl ++ ex) (x.h + 1) ys x.subs) (hT : Tm.In lsub v (.neg x)) :
    (∀ ol' : Obj, ∀ q ∈ news, ∀ p ∈ (l, ol') :: (D1, tupO #[.ref D2, v]) :: (D2, tupO #[]) :: (tl ++ ex), q.1 < p.1) ∧ PartsIn (lsub ++ (D1, tupO #[.ref D2, v]) :: (D2, tupO #[]) :: (tl ++ ex)) (Tm.neg x).h ([.ref D1] ++ ys) (Tm.neg x).subs ∧
      ∀ p ∈ (D1, tupO #[.ref D2, v]) :: (D2, tupO #[]) :: (tl ++ ex), p.1 ≠ l := by
  refine ⟨fun ol' q hq' p hp' => ?_, ?_, fun p hp' => ?_⟩
  · simp only [List.mem_cons, List.mem_append] at hp'
    rcases hp' with rfl | rfl | rfl | hp' | hp'
    · exact ktn_ltOf h2.2.2.2 q hq'
    · exact ktn_ltOf h3.2.2 q hq'
    · exact ktn_ltOf h4.2 q hq'
    · exact ho q (by simp [hq']) p (.tail _ hp')
    · exact hq q (by simp [hq']) p hp'
  · refine .cons (List.mem_append_right _ (.head _)) (List.mem_append_right _ (.tail _ (.head _))) (by simp [Tm.h]) (hT.mono fun p h => List.mem_append_left _ h) (hp.mono (fun p h => ?_) (Nat.le_refl _))
    simp only [List.mem_append, List.mem_cons] at h ⊢
    rcases h with (h | h) | h <;> simp [h]
  · simp only [List.mem_cons, List.mem_append] at hp'
    rcases hp' with rfl | rfl | hp' | hp'
    · exact Nat.ne_of_lt h2.1
    · exact Nat.ne_of_lt h2.2.1
    · exact Nat.ne_of_gt (ho (l, ol) (by simp) p (.tail _ hp'))
    · exact Nat.ne_of_gt (hq (l, ol) (by simp) p hp')
theorem sub_neg {s l a b c : Addr × Obj} {news tl ex : List (Addr × Obj)} : ∀ p ∈ l :: (news ++ (a :: b :: (tl ++ ex))), p ∈ s :: l :: a :: b :: c :: (news ++ tl ++ ex) := fun p hp => by
  simp only [List.mem_append, List.mem_cons] at hp ⊢
  rcases hp with h | h | h | h | h | h <;> simp [h]
theorem words_V4_2 : True := by
  w_top off
  (k_with "SrcLP" => (k_here; k_dflt (refine LCp.SrcLP.ledger (by rfl) (by k_asm) (by k_asm) (by k_mem) ?_ ?_); (· exact src_len (by assumption) (by omega)); intro g'q))
  (k_with "execs cons" => k_fold)
  (k_with "eval Call" => k_fold)
  exact trivial
theorem all_cell {L : Addr} {news : List (Addr × Obj)} (l : ∀ p ∈ news, p.1 < L) : ∀ p ∈ news, p.1 ≠ L + 1 := fun p hp => Nat.ne_of_lt (Nat.lt_succ_of_lt (l p hp))
theorem words_V4_3 : True := by
  w_top off
  (k_with "k_all" => (exact all_cell (by assumption)))
  (k_with "binaryOp Add ref ref" => (k_here; k_dflt (refine' add_path ?Fq ?Nq ?hbq ?hRq ?hsq ?_; (case Fq => k_asm); (case Nq => k_asm); (case hbq => (repeat (first | assumption | refine List.Mem.tail _ ?_))); (case hRq => exact ktn_ltOf (by assumption)); (case hsq => omega)); intro c'q its'q h'q F'q N'q hs'q hc'q))
  (k_with "execs cons" => k_fold)
  (k_with "eval Call" => k_fold)
  exact trivial
theorem part_neg (x : Tm) (ih : PartSays x) : PartSays (.neg x) := by
  intro w dp un gd cn cs a ccd cl outer A₀ base h₀ L m s loose mean mg mb Q E news l v hsz hl B F X N T hk hT hd hu ret
  (revert X; k_fill; intro X)
  dsimp only [Tm.h] at hd hu hsz
  have hTk := hT
  cases hT with
  | @neg a v0 _ tn hm hx =>
  have hm' := hl _ hm
  all_goals (
    refine wpAny_call ?_
    k_dflt (refine' code_defC ?k1 ?k2 ?k3 ?k4 ?k5 ?kA ?kF ?kK ?k6 ?k7 ?k8 ?k9 ?kB ?kD ?_ ?c2 ?c3 ?c4; (case kA => exact rfl); (case kF => exact rfl); (case kK => assumption); (case k1 => k_asm); (case k2 => k_asm); (case k3 => k_asm); (case k4 => k_asm); (case k5 => k_asm); (case k6 => k_is); (case k7 => k_is); (case k8 => (ktr_room)); (case k9 => exact BindsTo.of_eq rfl); (case kB => exact rfl); (case kD => decide +kernel); (case c2 => exact rfl); (case c3 => exact rfl); (case c4 => exact rfl); k_whole; intro g' L' h' tk' cells' FG' F' N' Y' B' X' T' l1; (try k_lt l1); k_cells Y'; (try simp only [List.cons_append, List.nil_append] at N'); (try dsimp only); (try k_fold))
    k_steps
    refine' restP_parts (c := (L' + 1, ?oc)) (by assumption) ?hb ?hc ?st ?fi
    case hb => (intro p hp; have hp := app_sub hl p hp; repeat (first | exact hp | refine List.Mem.tail _ ?_))
    case hc => k_mem
    case st => (intro R' ex' ys' b' v' its' I' oI' C' oC' D' m' h' tk' E' q0 q1 q2 q3 hC' hx' hy' F' N' off' ne')
               k_steps
               refine' compEnd_part (by assumption) (by k_asm) (by k_asm) (by assumption) (by assumption) (by assumption) (by assumption) (by assumption) ?hS
               case hS => exact fun r => .inr ⟨_, List.mem_append_left _ (.head _), rfl, _, rfl⟩
    case fi => (intro ex' ys' q1 q2 De' he' tke' F' N' off'; (try simp only [List.cons_append] at N' q2))
               (try dsimp only)
               k_steps
               refine' turn_end (by assumption) (by exact q1) (by exact F') (by exact N') (by exact off') ?hsep ?hl ?hD ?hDl ?hx (fun _ => rfl) ?re
               case re =>
                 (intro hsep n1; k_steps)
                 (have dn := neg_done (x := x) hl (by assumption) (by assumption) (by assumption) (by assumption) q1 q2 hTk
                  refine' ret _ ([_] ++ _) _ (_ :: _ :: (_ ++ _)) _ _ ?e1 (News.sub ?e2 ?e3) (dn.1 _) dn.2.1 dn.2.2; (case e1 => k_asm); (case e2 => k_asm); (case e3 => exact sub_neg))
               case hsep => exact sep_one (by assumption) (by assumption)
               case hl => exact and21 (by assumption)
               case hD => exact and1 (by assumption)
               case hDl => exact and1 (by assumption)
               case hx => (have hy := q2.len; rw [Tm.subs_len] at hy; simp; omega))
end Mine
end

theorem Mine.reset_V5 : True := by
  w_top off
  k_with_none
  exact trivial
section
open PySem PySem.W PyProof.Rows PySem.Calls PyProof.V
set_option maxRecDepth 100000
set_option maxHeartbeats 800000
namespace Mine
theorem cell_apart {i c Ds l D' D1 D2 L : Addr} {oe oi os ol o1 p1 p2 oc : Obj} {news tl ex : List (Addr × Obj)} (hc : c = L + 1) (hl : ∀ p ∈ news, p.1 < L)
    (ho : ∀ q ∈ (i + 1, oe) :: (i, oi) :: (Ds, os) :: (l, ol) :: (D1, p1) :: (D2, p2) :: (c, oc) :: news, ∀ p ∈ (D', o1) :: tl, q.1 < p.1)
    (hq : ∀ q ∈ (D', o1) :: (i + 1, oe) :: (i, oi) :: (Ds, os) :: (l, ol) :: (D1, p1) :: (D2, p2) :: (c, oc) :: (news ++ tl), ∀ p ∈ ex, q.1 < p.1) : ∀ p ∈ news ++ tl ++ ex, p.1 ≠ L + 1 := fun p hp => by
  subst hc
  simp only [List.mem_append] at hp
  rcases hp with (hp | hp) | hp
  · exact Nat.ne_of_lt (Nat.lt_succ_of_lt (hl p hp))
  · exact Nat.ne_of_gt (ho (L + 1, oc) (by simp) p (.tail _ hp))
  · exact Nat.ne_of_gt (hq (L + 1, oc) (by simp) p hp)
theorem sep_two {i l : Addr} {a b c : Addr} {oa ob oc oc' : Obj} {R S T : List (Addr × Obj)} (h : ∀ p ∈ ((a, oa) :: (b, ob) :: (c, oc) :: R) ++ S ++ T, (p.1 < i ∨ i + 1 < p.1) ∧ p.1 ≠ l) : ∀ p ∈ (a, oa) :: (b, ob) :: (c, oc') :: (R ++ S ++ T), (p.1 < i ∨ i + 1 < p.1) ∧ p.1 ≠ l := fun p hp => by
  simp only [List.mem_cons] at hp
  rcases hp with rfl | rfl | rfl | hp
  · exact h _ (by simp)
  · exact h (b, ob) (by simp)
  · exact h (c, oc) (by simp)
  · exact h p (by simp only [List.cons_append, List.mem_cons]; exact .inr (.inr (.inr hp)))
theorem bin_done {c i l Ds D' E' D1 D2 : Addr} {oe oi os o1 oc oe' oi' o1' oc' : Obj} {ol ol1 : Obj} {lsub news tl ex tl2 ex2 : List (Addr × Obj)} {o : Bool} {x y : Tm} {v : Value} {ys ys2 : List Value}
    (h4 : c < D2 ∧ AllLt D2 news) (h3 : D2 < D1 ∧ c < D1 ∧ AllLt D1 news) (h2 : D1 < l ∧ D2 < l ∧ c < l ∧ AllLt l news)
    (ho : ∀ q ∈ (i + 1, oe) :: (i, oi) :: (Ds, os) :: (l, ol) :: (D1, tupO #[.ref D2, v]) :: (D2, tupO #[]) :: (c, oc) :: news, ∀ p ∈ (D', o1) :: tl, q.1 < p.1)
    (hq : ∀ q ∈ (D', o1) :: (i + 1, oe) :: (i, oi) :: (Ds, os) :: (l, ol) :: (D1, tupO #[.ref D2, v]) :: (D2, tupO #[]) :: (c, oc) :: (news ++ tl), ∀ p ∈ ex, q.1 < p.1)
    (ho2 : ∀ q ∈ (i + 1, oe') :: (i, oi') :: (Ds, os) :: (l, ol1) :: (D1, tupO #[.ref D2, v]) :: (D2, tupO #[]) :: (c, oc') :: (news ++ tl ++ ex), ∀ p ∈ (E', o1') :: tl2, q.1 < p.1)
    (hq2 : ∀ q ∈ (E', o1') :: (i + 1, oe') :: (i, oi') :: (Ds, os) :: (l, ol1) :: (D1, tupO #[.ref D2, v]) :: (D2, tupO #[]) :: (c, oc') :: (news ++ tl ++ ex ++ tl2), ∀ p ∈ ex2, q.1 < p.1)
    (hp : PartsIn (lsub ++ tl ++ ex) (x.h + 1) ys x.subs) (hp2 : PartsIn (lsub ++ tl2 ++ ex2) (y.h + 1) ys2 y.subs) (hT : Tm.In lsub v (.bin o x y)) :
    (∀ ol' : Obj, ∀ q ∈ news, ∀ p ∈ (l, ol') :: (D1, tupO #[.ref D2, v]) :: (D2, tupO #[]) :: (tl ++ ex ++ tl2 ++ ex2), q.1 < p.1) ∧ PartsIn (lsub ++ (D1, tupO #[.ref D2, v]) :: (D2, tupO #[]) :: (tl ++ ex ++ tl2 ++ ex2)) (Tm.bin o x y).h ([.ref D1] ++ ys ++ ys2) (Tm.bin o x y).subs ∧
      ∀ p ∈ (D1, tupO #[.ref D2, v]) :: (D2, tupO #[]) :: (tl ++ ex ++ tl2 ++ ex2), p.1 ≠ l := by
  have hx1 := Tm.h_pos x
  have hy1 := Tm.h_pos y
  refine ⟨fun ol' q hq' p hp' => ?_, ?_, fun p hp' => ?_⟩
  · simp only [List.mem_cons, List.mem_append] at hp'
    rcases hp' with rfl | rfl | rfl | ((hp' | hp') | hp') | hp'
    · exact ktn_ltOf h2.2.2.2 q hq'
    · exact ktn_ltOf h3.2.2 q hq'
    · exact ktn_ltOf h4.2 q hq'
    · exact ho q (by simp [hq']) p (.tail _ hp')
    · exact hq q (by simp [hq']) p hp'
    · exact ho2 q (by simp [hq']) p (.tail _ hp')
    · exact hq2 q (by simp [hq']) p hp'
  · refine .cons (List.mem_append_right _ (.head _)) (List.mem_append_right _ (.tail _ (.head _))) (by simp [Tm.h]) (hT.mono fun p h => List.mem_append_left _ h) ((hp.mono (fun p h => ?_) ?_).app (hp2.mono (fun p h => ?_) ?_))
    · simp only [List.mem_append, List.mem_cons] at h ⊢
      rcases h with (h | h) | h <;> simp [h]
    · simp only [Tm.h]; omega
    · simp only [List.mem_append, List.mem_cons] at h ⊢
      rcases h with (h | h) | h <;> simp [h]
    · simp only [Tm.h]; omega
  · simp only [List.mem_cons, List.mem_append] at hp'
    rcases hp' with rfl | rfl | ((hp' | hp') | hp') | hp'
    · exact Nat.ne_of_lt h2.1
    · exact Nat.ne_of_lt h2.2.1
    · exact Nat.ne_of_gt (ho (l, ol) (by simp) p (.tail _ hp'))
    · exact Nat.ne_of_gt (hq (l, ol) (by simp) p hp')
    · exact Nat.ne_of_gt (ho2 (l, ol1) (by simp) p (.tail _ hp'))
    · exact Nat.ne_of_gt (hq2 (l, ol1) (by simp) p hp')
theorem sub_bin {s l a b c : Addr × Obj} {news tl ex tl2 ex2 : List (Addr × Obj)} : ∀ p ∈ l :: (news ++ (a :: b :: (tl ++ ex ++ tl2 ++ ex2))), p ∈ s :: l :: a :: b :: c :: (news ++ tl ++ ex ++ tl2 ++ ex2) := fun p hp => by
  simp only [List.mem_append, List.mem_cons] at hp ⊢
  rcases hp with h | h | h | h | ((h | h) | h) | h <;> simp [h]
theorem words_V5_1 : True := by
  w_top off
  k_with_none
  (k_with "k_ne" => (refine neN ?_; (try dsimp only); first | assumption | exact Ne.symm (by assumption) | exact Nat.ne_of_gt (by assumption) | exact Nat.ne_of_lt (by assumption) | (refine' Nat.ne_of_gt ?_; iterate 6 (try (first | exact Nat.lt_succ_self _ | refine' Nat.lt_succ_of_lt ?_)); done) | (refine' Nat.ne_of_lt ?_; iterate 6 (try (first | exact Nat.lt_succ_self _ | refine' Nat.lt_succ_of_lt ?_)); done) | exact Nat.ne_of_gt (And.left (by assumption)) | exact Nat.ne_of_lt (And.left (by assumption)) | exact Nat.ne_of_gt (And.left (And.right (by assumption))) | exact Nat.ne_of_gt (And.right (by assumption)) | exact Nat.ne_of_lt (And.left (And.right (by assumption))) | exact Nat.ne_of_lt (And.right (by assumption)) | exact Nat.ne_of_gt (And.left (And.right (And.right (by assumption)))) | exact Nat.ne_of_gt (And.right (And.right (by assumption))) | exact Nat.ne_of_lt (And.left (And.right (And.right (by assumption)))) | exact Nat.ne_of_lt (And.right (And.right (by assumption))) | exact Nat.ne_of_gt (And.left (And.right (And.right (And.right (by assumption))))) | exact Nat.ne_of_gt (And.right (And.right (And.right (by assumption)))) | exact Nat.ne_of_lt (And.left (And.right (And.right (And.right (by assumption))))) | exact Nat.ne_of_lt (And.right (And.right (And.right (by assumption)))) | exact Nat.ne_of_gt (And.left (And.right (And.right (And.right (And.right (by assumption)))))) | exact Nat.ne_of_gt (And.right (And.right (And.right (And.right (by assumption))))) | exact Nat.ne_of_lt (And.left (And.right (And.right (And.right (And.right (by assumption)))))) | exact Nat.ne_of_lt (And.right (And.right (And.right (And.right (by assumption))))) | exact Nat.ne_of_gt (And.left (And.right (And.right (And.right (And.right (And.right (by assumption))))))) | exact Nat.ne_of_gt (And.right (And.right (And.right (And.right (And.right (by assumption)))))) | exact Nat.ne_of_lt (And.left (And.right (And.right (And.right (And.right (And.right (by assumption))))))) | exact Nat.ne_of_lt (And.right (And.right (And.right (And.right (And.right (by assumption)))))) | exact Nat.ne_of_gt (And.left (And.right (And.right (And.right (And.right (And.right (And.right (by assumption)))))))) | exact Nat.ne_of_gt (And.right (And.right (And.right (And.right (And.right (And.right (by assumption))))))) | exact Nat.ne_of_lt (And.left (And.right (And.right (And.right (And.right (And.right (And.right (by assumption)))))))) | exact Nat.ne_of_lt (And.right (And.right (And.right (And.right (And.right (And.right (by assumption)))))))))
  (k_with "execs cons" => (k_here; (with_reducible refine gen_toks ?_); intro tkq))
  (k_with "execs nil" => (k_here; (with_reducible refine gen_toks ?_); intro tkq))
  (k_with "subscriptTail Name Slice ref ref" => (k_here; (with_reducible show wpAny _ _ (subscriptTail _ (PySem.Expr.Slice _ _ none _) (Value.ref _) (Value.ref _)) _ _ _); k_dflt (refine' slice_one ?Fq ?Nq ?mq ?rq ?_ ?sq ?tq; (case Fq => k_asm); (case Nq => k_asm); (case mq => k_mem); (case rq => exact Nat.le_of_ble_eq_true rfl); (case sq => with_unfolding_all rfl); (case tq => intro _; with_unfolding_all rfl)); intro D'q h'q F'q N'q l1q; (try simp only [AllLt, and_true] at l1q); (try k_sweep)))
  (k_with "k_mem" => (assumption))
  (k_with "exec For Tuple Call cons nil" => (k_here; (rename Fr _ _ _ _ => lF'q); (with_unfolding_all refine' For_turns lF'q ?_; k_whole)))
  (k_with "call type:enumerate" => (k_here; (with_reducible show wpAny _ _ (call (Value.type _) [Value.ref _]) (fun xv s₁ => wpAny _ _ (pyIter xv) (fun it s₂ => TurnsAt _ _ _ _ _ _ _ _ _ it s₂) _ s₁) _ _); k_dflt (first
  | refine enum_turns (vs := []) (xs := []) (by rfl) (by k_asm) (by k_asm) (by k_mem) (by rfl) (by rfl) (by rfl) ?_
  | refine enum_turns (vs := [_]) (xs := [Itm.pair (fun t => Value.int (0 : Int) t) _]) (by rfl) (by k_asm) (by k_asm) (by k_mem) (by rfl) (by rfl) (by rfl) ?_
  | refine enum_turns (vs := [_, _]) (xs := [Itm.pair (fun t => Value.int (0 : Int) t) _, Itm.pair (fun t => Value.int (1 : Int) t) _]) (by rfl) (by k_asm) (by k_asm) (by k_mem) (by rfl) (by rfl) (by rfl) ?_); intro i'q l1q; (try k_lt l1q)))
  (k_with "call ref" => (k_here; (with_reducible show wpAny _ _ (call (Value.ref 96) [_]) _ _ _); k_dflt (first | (refine' PartSays.use ?Cq ?hszq ?Bq ?Fq ?Xq ?Nq ?Tq ?hkq ?hTq ?hlq ?hdq ?huq ?_; (case Bq => k_asm); (case Fq => k_asm); (case Xq => k_asm); (case Nq => k_asm); (case Tq => k_asm); (case hkq => first | exact rfl | assumption); (case hTq => assumption); (case hlq => (intro pq hpq; have hpq := (by assumption : ∀ pq ∈ _, pq ∈ _) pq hpq; repeat (first | exact hpq | refine List.Mem.tail _ ?_ | refine List.mem_append_left _ ?_))); (case Cq => assumption); (case hszq => omega); (case hdq => ktr_room); (case huq => ktr_units)); intro D'q vs'q n'q tl'q h'q tk'q F'q N'q o'q p'q d'q; (try simp only [List.cons_append] at N'q); (try k_sweep))))
  (k_with "SrcLP" => (k_here; k_dflt (refine LCp.SrcLP.ledger (by rfl) (by k_asm) (by k_asm) (by k_mem) ?_ ?_); (· exact src_len (by assumption) (by omega)); intro g'q))
  (k_with "k_all" => (exact all_cell (by assumption)))
  (k_with "binaryOp Add ref ref" => (k_here; k_dflt (refine' add_path ?Fq ?Nq ?hbq ?hRq ?hsq ?_; (case Fq => k_asm); (case Nq => k_asm); (case hbq => (repeat (first | assumption | refine List.Mem.tail _ ?_))); (case hRq => exact ktn_ltOf (by assumption)); (case hsq => omega)); intro c'q its'q h'q F'q N'q hs'q hc'q))
  (k_with "k_all" => (assumption))
  (k_with "execs cons" => k_fold)
  exact trivial
theorem part_bin (o : Bool) (x y : Tm) (ih : PartSays x) (ih2 : PartSays y) : PartSays (.bin o x y) := by
  intro w dp un gd cn cs a ccd cl outer A₀ base h₀ L m s loose mean mg mb Q E news l v hsz hl B F X N T hk hT hd hu ret
  (revert X; k_fill; intro X)
  dsimp only [Tm.h] at hd hu hsz
  have hTk := hT
  cases hT with
  | @bin a u0 v0 _ _ _ tn hm hx hy =>
  have hm' := hl _ hm
  all_goals (
    refine wpAny_call ?_
    k_dflt (refine' code_defC ?k1 ?k2 ?k3 ?k4 ?k5 ?kA ?kF ?kK ?k6 ?k7 ?k8 ?k9 ?kB ?kD ?_ ?c2 ?c3 ?c4; (case kA => exact rfl); (case kF => exact rfl); (case kK => assumption); (case k1 => k_asm); (case k2 => k_asm); (case k3 => k_asm); (case k4 => k_asm); (case k5 => k_asm); (case k6 => k_is); (case k7 => k_is); (case k8 => (ktr_room)); (case k9 => exact BindsTo.of_eq rfl); (case kB => exact rfl); (case kD => decide +kernel); (case c2 => exact rfl); (case c3 => exact rfl); (case c4 => exact rfl); k_whole; intro g' L' h' tk' cells' FG' F' N' Y' B' X' T' l1; (try k_lt l1); k_cells Y'; (try simp only [List.cons_append, List.nil_append] at N'); (try dsimp only); (try k_fold))
    k_steps
    refine' restP_parts (c := (L' + 1, ?oc)) (by assumption) ?hb ?hc ?st ?fi
    case hb => (intro p hp; have hp := app_sub hl p hp; repeat (first | exact hp | refine List.Mem.tail _ ?_))
    case hc => (repeat (first | exact List.Mem.head _ | refine List.Mem.tail _ ?_))
    case st => (intro R' ex' ys' b' v' its' I' oI' C' oC' D' m' h' tk' E' q0 q1 q2 q3 hC' hx' hy' F' N' off' ne')
               k_steps
               refine' compEnd_part (by assumption) (by k_asm) (by k_asm) (by assumption) (by assumption) (by assumption) (by assumption) (by assumption) ?hS
               case hS => exact fun r => .inr ⟨_, List.mem_append_left _ (.head _), rfl, _, rfl⟩
    case fi => (intro ex' ys' q1 q2 De' he' tke' F' N' off'; (try simp only [List.cons_append] at N' q2))
               (try dsimp only)
               k_steps
               refine' turn_end (by assumption) (by exact q1) (by exact F') (by exact N') (by exact off') ?hsep ?hl ?hD ?hDl ?hx (fun _ => rfl) ?re
               case hsep => exact sep_one (by assumption) (by assumption)
               case hl => exact and21 (by assumption)
               case hD => exact and1 (by assumption)
               case hDl => exact and1 (by assumption)
               case hx => (have hy := q2.len; rw [Tm.subs_len] at hy; simp; omega)
               case re =>
                 intro hsep n1
                 have hca := cell_apart rfl l1 (by assumption) q1
                 k_steps
                 refine' restP_parts (c := (L' + 1, ?oc2)) (by assumption) ?hb2 ?hc2 ?st2 ?fi2
                 case hb2 => ((intro p hp); (rcases List.mem_append.mp hp with hp | hp); (· (have hp := hl p hp; (repeat refine List.Mem.tail _ ?_); exact List.mem_append_left _ (List.mem_append_left _ (List.mem_append_left _ hp)))); (· ((repeat refine List.Mem.tail _ ?_); exact List.mem_append_right _ hp)))
                 case hc2 => (repeat (first | exact List.Mem.head _ | refine List.Mem.tail _ ?_))
                 case st2 =>
                            (intro R' ex' ys' b' v' its' I' oI' C' oC' D' m' h' tk' E' q0 q1 q2 q3 hC' hx' hy' F' N' off' ne')
                            k_steps
                            refine' compEnd_part (by assumption) (by k_asm) (by k_asm) (by assumption) (by assumption) (by assumption) (by assumption) (by assumption) ?hS2
                            case hS2 => exact fun r => .inr ⟨_, List.mem_append_left _ (.head _), rfl, _, rfl⟩
                 case fi2 =>
                            (intro ex2 ys2 r1 r2 De2 he2 tke2 F2 N2 off2; (try simp only [List.cons_append] at N2 r2))
                            (try dsimp only)
                            k_steps
                            refine' turn_end (by assumption) (by exact r1) (by exact F2) (by exact N2) (by exact off2) ?hsep2 ?hl2 ?hD2 ?hDl2 ?hx2 (fun _ => rfl) ?re2
                            case hsep2 => exact sep_two hsep
                            case hl2 => exact and21 (by assumption)
                            case hD2 => exact and1 (by assumption)
                            case hDl2 => exact and1 (by assumption)
                            case hx2 => (have hy := q2.len; have hy2 := r2.len; rw [Tm.subs_len] at hy hy2; simp; omega)
                            case re2 =>
                              (intro hsep2 n2; k_steps)
                              (have dn := bin_done (o := o) (x := x) (y := y) (by assumption) (by assumption) (by assumption) (by assumption) q1 (by assumption) r1 q2 r2 hTk
                               refine' ret _ ([_] ++ _ ++ _) _ (_ :: _ :: (_ ++ _ ++ _ ++ _)) _ _ ?e12 (News.sub ?e22 ?e32) (dn.1 _) dn.2.1 dn.2.2; (case e12 => k_asm); (case e22 => k_asm); (case e32 => exact sub_bin)))
theorem parts_says : ∀ T, PartSays T
  | .leaf s => part_leaf s
  | .neg x => part_neg x (parts_says x)
  | .bin o x y => part_bin o x y (parts_says x) (parts_says y)
end Mine
end

theorem Mine.reset_V6 : True := by
  w_top off
  k_with_none
  exact trivial
section
open PySem PySem.W PyProof.Rows PySem.Calls
set_option maxRecDepth 100000
set_option maxHeartbeats 4000000
namespace Mine
section
variable {prog : Program} {w : World} {A : Around} {E : Value → Shared → Prop} {s : Shared} {h₀ : Heap} {L : Addr} {m : Str → Option Value} {env : Env}
theorem loop_pt {elt iter ct : PySem.Expr} {elts : List PySem.Expr} {k1 : Nat} {tp : Pos} {scope : Scope} {pos : Pos} {it acc : Value} {R : Result → Shared → Prop} (J : Nat → Shared → Prop)
    (turn : ∀ n s, J n s → wpAny (model prog w) A (pyNext it) (fun r s₁ => match r with
      | none => R (.ok .next) s₁
      | some v => wpAny (model prog w) A (letOwnedTupleGo (.Tuple elts k1 tp) it v) (fun _ s₂ => wpAny (model prog w) A (assign (.Tuple elts k1 tp) env v) (fun _ s₃ => wpAny (model prog w) A (isTrue ct env (eval ct env)) (fun ok s₄ =>
          if ok = true then wpAny (model prog w) A (eval elt env) (fun x s₅ => wpAny (model prog w) A (call (.builtin "list.append") [acc, x]) (fun _ s₆ => ∃ m, m < n ∧ J m s₆) (notedBy (model prog w) A env fun e s' => R (.error e) s') s₅) (notedBy (model prog w) A env fun e s' => R (.error e) s') s₄
          else ∃ m, m < n ∧ J m s₄) (notedBy (model prog w) A env fun e s' => R (.error e) s') s₃) (notedBy (model prog w) A env fun e s' => R (.error e) s') s₂) (notedBy (model prog w) A env fun e s' => R (.error e) s') s₁) (notedBy (model prog w) A env fun e s' => R (.error e) s') s)
    (n : Nat) (h : J n s) : codeAny (model prog w) A (.compLoop (.ListComp elt [⟨.Tuple elts k1 tp, iter, [ct], 0⟩] scope pos) 0 it acc env) R s := by
  refine codeAny_loop rfl J (fun n s hJ => ?_) n h
  show wpAny _ A ((compTurn (.ListComp elt [⟨.Tuple elts k1 tp, iter, [ct], 0⟩] scope pos) 0 it acc env).onRaise (fun x => do noteFrame x env; theTreesLotGoes x)) _ _ s
  refine wpAny_noted ?_
  rw [compTurn_list]
  refine wpAny_bind (wpAny_standAt (wpAny_bind (wpAny_mono (turn n s hJ) (fun r s₁ h₁ => ?_) fun _ _ z => z)))
  cases r with
  | none => exact wpAny_pure h₁
  | some v =>
    refine wpAny_bind (wpAny_mono h₁ (fun _ s₂ h₂ => wpAny_bind (wpAny_mono h₂ (fun _ s₃ h₃ => wpAny_bind (wpAny_mono (wpAny_tests_one h₃) (fun ok s₄ h₄ => ?_) fun _ _ z => z)) fun _ _ z => z)) fun _ _ z => z)
    cases ok with
    | false => exact wpAny_pure ⟨rfl, h₄⟩
    | true => exact wpAny_bind (wpAny_bind (wpAny_mono h₄ (fun x s₅ h₅ => wpAny_bind (wpAny_mono h₅ (fun _ s₆ h₆ => wpAny_pure (wpAny_pure ⟨rfl, h₆⟩)) fun _ _ z => z)) fun _ _ z => z))
def CRestPT (prog : Program) (w : World) (A : Around) (h₀ : Heap) (L : Addr) (m : Str → Option Value) (env : Env) (ct elt : PySem.Expr) (x x₂ : Str) (scope : Scope) (cl : List (Str × Addr)) (s : Shared) (S : List (Addr × Obj) → Prop) (P : Nat → Value → Prop)
    (Fin : List Value → List (Addr × Obj) → Prop) : Nat → Nat → List Value → List (Addr × Obj) → Prop
  | 0, _, ys, news => Fin ys news
  | k + 1, i, ys, news => ∀ v, P i v → ∃ (t : Addr) (ot : Obj) (v₁ v₂ : Value) (nt : Nat), v = .ref t ∧ (t, ot) ∈ news ∧ ot.cls = .type "tuple" ∧ ot.data = .seq #[v₁, v₂] nt ∧
      ∀ I oI C oC D m₂ h tk (E' : Value → Shared → Prop), LCg.NsObj oC m₂ → m₂ x = some v₁ → m₂ x₂ = some v₂ → Fr h₀ L h m → News h₀ L h ((I, oI) :: (C, oC) :: (D, LCg.lst ys) :: news) → LCg.Off3 I C D news → ((@Ne Nat I C) ∧ (@Ne Nat I D) ∧ (@Ne Nat C D)) →
      wpAny (model prog w) A (isTrue ct (compEnvC scope cl C env) (eval ct (compEnvC scope cl C env))) (fun ok s' => if ok = true then
        wpAny (model prog w) A (eval elt (compEnvC scope cl C env)) (LCg.CompEnd h₀ L m { s with heap := h, toks := tk } I oI C oC D (LCg.lst ys) S (fun y news' => CRestPT prog w A h₀ L m env ct elt x x₂ scope cl s S P Fin k (i + 1) (ys ++ [y]) news')) E' s'
        else LCg.CompEnd h₀ L m { s with heap := h, toks := tk } I oI C oC D (LCg.lst ys) S (fun _ news' => CRestPT prog w A h₀ L m env ct elt x x₂ scope cl s S P Fin k (i + 1) ys news') Value.none s') E' { s with heap := h, toks := tk }
theorem block_pt {ct elt iter : PySem.Expr} {x x₂ : Str} {px px₂ tp : Pos} {k1 : Nat} {scope : Scope} {cl : List (Str × Addr)} {pos : Pos} {s₂ : Shared} {I : Addr} {fp : List Addr} {n : Nat} {P : Nat → Value → Prop} {St : Nat → Heap → Prop} {S : List (Addr × Obj) → Prop} {news : List (Addr × Obj)}
    {Fin : List Value → List (Addr × Obj) → Prop} {RR : Value → Addr → Result → Shared → Prop}
    (W : Walks prog w A I fp [I] n P St) (hsz : n ≤ sizeLine) (hIo : ∀ i h, St i h → ∃ o, h.get? I = some o)
    (hSt : ∀ i h h' o nw, St i h → h.get? I = some o → h'.get? I = some o → (∀ b o, h₀.get? b = some o → h'.get? b = some o) → News h₀ L h' nw → S nw → St i h')
    (hcell : ∀ y ∈ scope.names, y.2 ≠ .cell) (hkind : scope.kind = .function) (hx : scope.names.lookup x = some .local) (hx₂ : scope.names.lookup x₂ = some .local) (hxx : x ≠ x₂) (hh : A.handled = none) (hLI : ∀ i h, St i h → ∃ l j, h.IsListIter I l j) (hst : St 0 s₂.heap) (hfp : ∀ b ∈ fp, b < s₂.heap.objs.size)
    (F : Fr h₀ L s₂.heap m) (N : News h₀ L s₂.heap news) (hIL : L ≠ I) (hI₀ : h₀.get? I = none) (off : ∀ p ∈ news, p.1 ≠ I) (hS : S news)
    (R : CRestPT prog w A h₀ L m env ct elt x x₂ scope cl s₂ S P Fin n 0 [] news)
    (hRR : ∀ D C h tk m' ys news', Fr h₀ L h m → News h₀ L h ((D, LCg.lst ys) :: news') → LCg.Off1 D news' → h.Ns C m' → h₀.get? C = none → h₀.get? D = none → C ≠ L → D ≠ L → C ≠ D → (∀ p ∈ news', p.1 ≠ C) → Fin ys news' → RR (.ref D) C (.ok .next) { s₂ with heap := h, toks := tk }) :
    wpAny (model prog w) A (newList []) (fun acc s₃ => wpAny (model prog w) A (newFunctionEnv scope env.globals cl [] env.qual none .none (some env)) (fun cenv s₄ =>
      codeAny (model prog w) A (.compStart (.ListComp elt [⟨.Tuple [.Name x px, .Name x₂ px₂] k1 tp, iter, [ct], 0⟩] scope pos) 0 (.ref I) acc { cenv with scope := relabel scope env }) (RR acc cenv.locals) s₄) E s₃) E s₂ := by
  refine wpAny_newObj_type (wpAny_newFunctionEnv hcell (by intro y hy; simp at hy) (fun h₁ hns₁ hsb₁ => ?_) hkind)
  dsimp only at hns₁ hsb₁ ⊢
  generalize hH2 : s₂.heap.push { cls := .type "list", dict := none, data := .seq ([] : List Value).toArray } = H2 at hns₁ hsb₁ ⊢
  have hC : H2.objs.size = s₂.heap.objs.size + 1 := by rw [← hH2, Heap.size_push]
  have hDC : s₂.heap.objs.size ≠ H2.objs.size := by rw [hC]; exact Nat.ne_of_lt (Nat.lt_succ_self _)
  have below : ∀ b, b < s₂.heap.objs.size → b ≠ H2.objs.size ∧ b ≠ s₂.heap.objs.size := fun b hb => ⟨by rw [hC]; exact Nat.ne_of_lt (Nat.lt_succ_of_lt hb), Nat.ne_of_lt hb⟩
  have hDf : s₂.heap.objs.size ∉ fp := fun hm => Nat.lt_irrefl _ (hfp _ hm)
  have hCf : H2.objs.size ∉ fp := fun hm => by have := hfp _ hm; rw [hC] at this; exact Nat.lt_irrefl _ (Nat.lt_of_succ_lt this)
  have hIlt : I < s₂.heap.objs.size := hfp I (W.sub I (List.mem_singleton.mpr rfl))
  have old : ∀ b o, s₂.heap.get? b = some o → h₁.get? b = some o := fun b o e => hsb₁.extBut b o (below b (Heap.lt_size e)).1 (Heap.get?_push_of_some _ (hH2 ▸ Heap.get?_push_of_some _ e))
  have hacc : h₁.get? s₂.heap.objs.size = some (LCg.lst []) := hsb₁.extBut _ _ hDC (Heap.get?_push_of_some _ (hH2 ▸ Heap.get?_push_size _ rfl))
  have hst₁ : St 0 h₁ := W.frame _ _ _ hst fun b _ o e => old b o e
  have fresh₀ : ∀ a, s₂.heap.objs.size ≤ a → h₀.get? a = none := fun a ha => by
    cases e : h₀.get? a with
    | none => rfl
    | some o' => exact absurd (Heap.lt_size (F.keep a o' e)) (Nat.not_lt.mpr ha)
  have hD₀ : h₀.get? s₂.heap.objs.size = none := fresh₀ _ (Nat.le_refl _)
  have hC₀ : h₀.get? H2.objs.size = none := fresh₀ _ (by rw [hC]; exact Nat.le_succ _)
  have hDL : s₂.heap.objs.size ≠ L := Ne.symm (below L F.ns.lt).2
  have hCL : H2.objs.size ≠ L := Ne.symm (below L F.ns.lt).1
  have hCI : I ≠ H2.objs.size := (below I hIlt).1
  have hDI : I ≠ s₂.heap.objs.size := (below I hIlt).2
  have off₀ : LCg.Off3 I H2.objs.size s₂.heap.objs.size news := LCg.Off3.of fun p hp => ⟨off p hp, (below _ (Heap.lt_size (N p hp).1)).1, (below _ (Heap.lt_size (N p hp).1)).2⟩
  have loop : ∀ s₃ : Shared, s₃ = { s₂ with heap := h₁, toks := s₂.toks + ([] : List (Str × Value)).length } →
      codeAny (model prog w) A (.compLoop (.ListComp elt [⟨.Tuple [.Name x px, .Name x₂ px₂] k1 tp, iter, [ct], 0⟩] scope pos) 0 (.ref I) (.ref s₂.heap.objs.size) (compEnvC scope cl H2.objs.size env))
        (RR (.ref s₂.heap.objs.size) H2.objs.size) s₃ := by
    rintro s₃ rfl
    refine loop_pt
      (fun k s' => ∃ h' tk i ys m' news', s' = { s₂ with heap := h', toks := tk } ∧ i ≤ n ∧ k = n + 1 - i ∧ ys.length ≤ i ∧ St i h' ∧ Fr h₀ L h' m ∧ h'.Ns H2.objs.size m' ∧ News h₀ L h' ((s₂.heap.objs.size, LCg.lst ys) :: news') ∧
        LCg.Off3 I H2.objs.size s₂.heap.objs.size news' ∧ S news' ∧ CRestPT prog w A h₀ L m env ct elt x x₂ scope cl s₂ S P Fin (n - i) i ys news') ?_ (n + 1)
      ⟨h₁, _, 0, [], _, news, rfl, Nat.zero_le _, rfl, Nat.le_refl _, hst₁, F.keeps old, hns₁, fun p hp => ?_, off₀, hS, R⟩
    · rintro k s' ⟨h', tk, i, ys, m', news', rfl, hi, rfl, hyl, hst', F', hn', N', off', hS', R'⟩
      by_cases hlt : i < n
      · obtain ⟨j, hj⟩ : ∃ j, n - i = j + 1 := ⟨n - i - 1, by omega⟩
        rw [hj] at R'
        refine W.item i _ _ _ hlt hst' fun v h₂ tk₂ hPv hst₂ hk₂ => ?_
        obtain ⟨t, ot, v₁, v₂, nt, rfl, hmt, hct, hdt, R''⟩ := R' v hPv
        have off3 := off'.mem
        have N₂ : News h₀ L h₂ ((s₂.heap.objs.size, LCg.lst ys) :: news') := LCg.news_but N' hk₂ fun p hp => by
          rcases List.mem_cons.mp hp with rfl | hp
          · exact Ne.symm hDI
          · exact (off3 p hp).1
        have ht : IsTup h₂ t #[v₁, v₂] := ⟨ot, (N₂ _ (List.mem_cons_of_mem _ hmt)).1, hct, nt, hdt⟩
        obtain ⟨lI, jI, hLi⟩ := hLI _ _ hst₂
        refine wpAny_letOwnedTupleGo_listiter hLi ?_
        refine assign_Tuple_tuple hh ht rfl rfl fun h₅ he => ?_
        have he' : ∀ b o, h₂.get? b = some o → h₅.get? b = some o := fun b o e => he b o (Nat.ne_of_lt (Heap.lt_size e)) e
        refine assignInOrder_cons (wpAny_assign_Name (wpAny_storeName_local (lookup_relabel_local hx) ((hn'.at' fun o e => hk₂ _ o (by simpa using Ne.symm hCI) e).at' fun o e => he' _ o e) (fun h₆ hn₆ hs₆ => ?_) (by simp [compEnvC, relabel, hkind])))
        refine assignInOrder_cons (wpAny_assign_Name (wpAny_storeName_local (lookup_relabel_local hx₂) hn₆ (fun h₃ hn₃ hs₃ => ?_) (by simp [compEnvC, relabel, hkind])))
        refine assignInOrder_nil ?_
        have old3 : ∀ b o, b ≠ H2.objs.size → h₂.get? b = some o → h₃.get? b = some o := fun b o hb e => hs₃.extBut b o hb (hs₆.extBut b o hb (he' b o e))
        have hst₃ : St (i + 1) h₃ := W.frame _ _ _ hst₂ fun b hb o e => old3 b o (fun q => hCf (by rw [← q]; exact hb)) e
        obtain ⟨oI, heI⟩ := hIo _ _ hst₃
        obtain ⟨oC, heC, hoC⟩ := LCg.ns_obj hn₃
        have F₃ : Fr h₀ L h₃ m := (((LCg.fr_but F' hk₂ hIL hI₀).keeps he').change hs₆ hCL hC₀).change hs₃ hCL hC₀
        have N₃ : News h₀ L h₃ ((I, oI) :: (H2.objs.size, oC) :: (s₂.heap.objs.size, LCg.lst ys) :: news') := fun p hp => by
          rcases List.mem_cons.mp hp with rfl | hp
          · exact ⟨heI, Ne.symm hIL, hI₀⟩
          · rcases List.mem_cons.mp hp with rfl | hp
            · exact ⟨heC, hCL, hC₀⟩
            · have z := N₂ p hp
              refine ⟨old3 _ _ ?_ z.1, z.2⟩
              rcases List.mem_cons.mp hp with rfl | hp
              · exact hDC
              · exact (off3 p hp).2.1
        refine wpAny_mono (R'' I oI H2.objs.size oC s₂.heap.objs.size _ h₃ _ _ hoC (by simp [hxx]) (by simp) F₃ N₃ off' ⟨hCI, hDI, Ne.symm hDC⟩) (fun ok s₄ h₄ => ?_) fun _ _ e => e
        cases ok with
        | true =>
          simp only [if_true] at h₄ ⊢
          refine wpAny_mono h₄ (fun y s₅ h₅ => ?_) fun _ _ e => e
          obtain ⟨h₄, tk₄, news₄, rfl, F₄, N₄, off₄, hS₄, R₄⟩ := h₅
          have zI := (N₄ (I, oI) List.mem_cons_self).1
          have zC := (N₄ (H2.objs.size, oC) (List.mem_cons_of_mem _ List.mem_cons_self)).1
          have zD := (N₄ (s₂.heap.objs.size, LCg.lst ys) (List.mem_cons_of_mem _ (List.mem_cons_of_mem _ List.mem_cons_self))).1
          have N₄' : News h₀ L h₄ news₄ := fun p hp => N₄ p (List.mem_cons_of_mem _ (List.mem_cons_of_mem _ (List.mem_cons_of_mem _ hp)))
          have hst₄ : St (i + 1) h₄ := hSt _ _ _ _ _ hst₃ heI zI F₄.keep N₄' hS₄
          refine append_at (hsz := by show ys.toArray.size ≤ sizeLine; rw [List.size_toArray]; exact Nat.le_trans (Nat.le_trans hyl hi) hsz) zD fun h₅ hs₅ hD₅ => ?_
          have off4 := off₄.mem
          refine ⟨n + 1 - (i + 1), by omega, h₅, tk₄, i + 1, ys ++ [y], _, news₄, rfl, hlt, rfl, by rw [List.length_append, List.length_singleton]; exact Nat.succ_le_succ hyl, W.frame _ _ _ hst₄ fun b hb o e => hs₅.extBut b o (fun q => hDf (q ▸ hb)) e, F₄.change hs₅ hDL hD₀,
            (hoC.ns zC).sameBut hs₅ (Ne.symm hDC), fun p hp => ?_, off₄, hS₄, ?_⟩
          · rcases List.mem_cons.mp hp with rfl | hp
            · exact ⟨hD₅.trans (congrArg some (LCg.lst_snoc ys y)), hDL, hD₀⟩
            · exact ⟨hs₅.extBut _ _ (off4 p hp).2.2 (N₄' p hp).1, (N₄' p hp).2⟩
          · rw [show n - (i + 1) = j by omega]
            exact R₄
        | false =>
          simp only [Bool.false_eq_true, if_false] at h₄ ⊢
          obtain ⟨h₅, tk₄, news₄, rfl, F₄, N₄, off₄, hS₄, R₄⟩ := h₄
          have zI := (N₄ (I, oI) List.mem_cons_self).1
          have zC := (N₄ (H2.objs.size, oC) (List.mem_cons_of_mem _ List.mem_cons_self)).1
          have N₄' : News h₀ L h₅ news₄ := fun p hp => N₄ p (List.mem_cons_of_mem _ (List.mem_cons_of_mem _ (List.mem_cons_of_mem _ hp)))
          have hst₄ : St (i + 1) h₅ := hSt _ _ _ _ _ hst₃ heI zI F₄.keep N₄' hS₄
          refine ⟨n + 1 - (i + 1), by omega, h₅, tk₄, i + 1, ys, _, news₄, rfl, hlt, rfl, Nat.le_succ_of_le hyl, hst₄, F₄, hoC.ns zC, fun p hp => ?_, off₄, hS₄, ?_⟩
          · rcases List.mem_cons.mp hp with rfl | hp
            · exact N₄ _ (List.mem_cons_of_mem _ (List.mem_cons_of_mem _ List.mem_cons_self))
            · exact N₄' p hp
          · rw [show n - (i + 1) = j by omega]
            exact R₄
      · obtain rfl : i = n := Nat.le_antisymm hi (Nat.not_lt.mp hlt)
        rw [Nat.sub_self] at R'
        refine W.done _ _ _ hst' fun h₂ tk₂ hk₂ => ?_
        have off3 := off'.mem
        exact hRR _ _ h₂ tk₂ _ ys news' (LCg.fr_but F' hk₂ hIL hI₀) (LCg.news_but N' hk₂ fun p hp => by
          rcases List.mem_cons.mp hp with rfl | hp
          · exact Ne.symm hDI
          · exact (off3 p hp).1) off'.one (hn'.at' fun o e => hk₂ _ o (by simpa using Ne.symm hCI) e) hC₀ hD₀ hCL hDL (Ne.symm hDC) (fun p hp => (off3 p hp).2.1) R'
    · rcases List.mem_cons.mp hp with rfl | hp
      · exact ⟨hacc, hDL, hD₀⟩
      · exact ⟨old _ _ (N p hp).1, (N p hp).2⟩
  exact codeAny_compStart_list (loop _ rfl) (W.self 0 _ _ _ hst₁ (loop _ rfl))
def SrcPT (prog : Program) (w : World) (A : Around) (h₀ : Heap) (L : Addr) (m : Str → Option Value) (env : Env) (ct elt : PySem.Expr) (x x₂ : Str) (scope : Scope) (cl : List (Str × Addr)) (Fin : Shared → List Value → List (Addr × Obj) → Prop) (xv : Value) (s₁ : Shared) : Prop :=
  ∃ ax its news, xv = .ref ax ∧ A.handled = none ∧ Fr h₀ L s₁.heap m ∧ News h₀ L s₁.heap news ∧ LCg.SrcAt h₀ ax its news ∧ its.size ≤ sizeLine ∧
    ∀ s₂ : Shared, (∃ h, s₂ = { s₁ with heap := h }) → CRestPT prog w A h₀ L m env ct elt x x₂ scope cl s₂ (LCg.SrcAt h₀ ax its) (fun i v => its[i]? = some v) (Fin s₂) its.size 0 [] news
theorem comp_pt {ct elt iter : PySem.Expr} {x x₂ : Str} {px px₂ tp : Pos} {k1 : Nat} {scope : Scope} {cl : List (Str × Addr)} {pos : Pos} {Q : Value → Shared → Prop} (F₀ : Fr h₀ L s.heap m)
    (hclos : closureFor scope env = pure cl) (hcell : ∀ y ∈ scope.names, y.2 ≠ .cell) (hkind : scope.kind = .function)
    (hnames : ∀ y ∈ scope.names, y.2 = .local → scope.names.lookup y.1 = some .local) (hx : scope.names.lookup x = some .local) (hx₂ : scope.names.lookup x₂ = some .local) (hxx : x ≠ x₂)
    (h : wpAny (model prog w) A (eval iter env) (SrcPT prog w A h₀ L m env ct elt x x₂ scope cl (fun s₂ => LCg.FinE h₀ L m s₂ Q)) E s)
    (hs : ∀ x, foldedSetIterable iter env x = pure x := by intro _; rfl) :
    wpAny (model prog w) A (eval (.ListComp elt [⟨.Tuple [.Name x px, .Name x₂ px₂] k1 tp, iter, [ct], 0⟩] scope pos) env) Q E s := by
  rw [eval_ListComp]
  refine wpAny_comprehension_free (use := none) rfl hs hclos hkind hnames (wpAny_mono h (fun xv s₁ h₁ => ?_) fun _ _ e => e)
  obtain ⟨ax, its, news, rfl, hh, F, N, S, hsz, R⟩ := h₁
  have hl := S.list F.keep N
  have hlt : ax < s₁.heap.objs.size := by obtain ⟨_, e, _⟩ := hl; exact Heap.lt_size e
  refine wpAny_pyIter_list hl ?_
  have up : ∀ b o, s₁.heap.get? b = some o → (s₁.heap.push { cls := .type "list_iterator", data := .fields #[.ref ax, .int 0 0] }).get? b = some o := fun b o e => Heap.get?_push_of_some _ e
  refine block_pt (Walks.list hh s₁.heap.objs.size ax (Nat.ne_of_lt hlt) its) hsz (fun i h st => by obtain ⟨o, e, _⟩ := st.1; exact ⟨o, e⟩) LCg.list_st hcell hkind hx hx₂ hxx hh (fun i h st => ⟨_, _, st.1⟩) ⟨⟨_, Heap.get?_push_size _ rfl, rfl, rfl⟩, hl.push _⟩ (fun b hb => ?_)
    (F.keeps up) (N.grown up) (Nat.ne_of_lt F.ns.lt) (next_is_new F) (fun p hp => Nat.ne_of_lt (Heap.lt_size (N p hp).1)) S (R _ ⟨_, rfl⟩) ?_
  · show b < (s₁.heap.push _).objs.size
    rw [Heap.size_push]
    rcases List.mem_cons.mp hb with rfl | hb
    · exact Nat.lt_succ_self _
    · rw [List.mem_singleton.mp hb]; exact Nat.lt_succ_of_lt hlt
  · intro D C h tk m' ys news' F' N' o1 hn hC₀ hD₀ hCL hDL hCD offC fin
    refine ⟨m', hn, fun h'' hs'' => fin D h'' tk (F'.change hs'' hCL hC₀) (fun p hp => ?_) o1⟩
    refine ⟨hs''.extBut _ _ ?_ (N' p hp).1, (N' p hp).2⟩
    rcases List.mem_cons.mp hp with rfl | hp
    · exact Ne.symm hCD
    · exact offC p hp
end
end Mine
end

theorem Mine.reset_V7 : True := by
  w_top off
  k_with_none
  exact trivial
section
open PySem PySem.W PyProof.Rows PySem.Calls PyProof.V
set_option maxRecDepth 100000
set_option maxHeartbeats 800000
namespace Mine
abbrev varTexts : List Str := [Str.ofString "?a", Str.ofString "?b", Str.ofString "?c"]
def Tm.v? : Tm → Option Str
  | .leaf s => if s ∈ varTexts then some s else none
  | _ => none
def Tm.VOk : Tm → Prop
  | .leaf s => VarSays (.leaf s) (decide (s ∈ varTexts))
  | .neg x => x.VOk
  | .bin _ x y => x.VOk ∧ y.VOk
def Tm.vars (T : Tm) : List Str := T.subs.filterMap Tm.v?
def VIs (T : Tm) : Prop := (∃ σ, T = .leaf σ ∧ T.v? = some σ ∧ VarSays (.leaf σ) true) ∨ (T.v? = none ∧ VarSays T false)
theorem vsay_eq {T : Tm} {a b : Bool} (e : a = b) (h : VarSays T a) : VarSays T b := by
  subst e; exact @h
theorem strs_app : ∀ {vs ws : List Value} {xs ys : List Str}, StrsAre vs xs → StrsAre ws ys → StrsAre (vs ++ ws) (xs ++ ys)
  | _, _, _, _, .nil, h => h
  | _, _, _, _, .cons x t r, h => .cons x t (strs_app r h)
theorem VOk.subs : ∀ {T : Tm}, T.VOk → ∀ U ∈ T.subs, VIs U
  | .leaf s, h, U, hU => by
    simp only [Tm.subs, List.mem_cons, List.not_mem_nil, or_false] at hU
    subst hU
    by_cases hs : s ∈ varTexts
    · exact .inl ⟨s, rfl, by simp only [Tm.v?, if_pos hs], vsay_eq (decide_eq_true hs) h⟩
    · exact .inr ⟨by simp only [Tm.v?, if_neg hs], vsay_eq (decide_eq_false hs) h⟩
  | .neg x, h, U, hU => by
    simp only [Tm.subs, List.mem_cons] at hU
    rcases hU with rfl | hU
    · exact .inr ⟨rfl, var_neg x⟩
    · exact VOk.subs (T := x) h U hU
  | .bin o x y, h, U, hU => by
    simp only [Tm.subs, List.mem_cons, List.mem_append] at hU
    rcases hU with rfl | hU | hU
    · exact .inr ⟨rfl, var_bin o x y⟩
    · exact VOk.subs (T := x) h.1 U hU
    · exact VOk.subs (T := y) h.2 U hU
section
variable {prog : Program} {w : World} {A : Around} {E : Value → Shared → Prop} {s : Shared} {h₀ : Heap} {L : Addr} {m : Str → Option Value} {env : Env}
def VarEnd (h₀ : Heap) (L : Addr) (m : Str → Option Value) (s₁ : Shared) (I : Addr) (oI : Obj) (C : Addr) (oC : Obj) (D : Addr) (ys : List Value) (n0 : List (Addr × Obj)) (σ : Str) (y : Value) (s₂ : Shared) : Prop :=
  ∃ t h' tk, y = .str σ t ∧ s₂ = { s₁ with heap := h', toks := tk } ∧ Fr h₀ L h' m ∧ News h₀ L h' ((I, oI) :: (C, oC) :: (D, LCg.lst ys) :: n0)
def NoEnd (h₀ : Heap) (L : Addr) (m : Str → Option Value) (s₁ : Shared) (I : Addr) (oI : Obj) (C : Addr) (oC : Obj) (D : Addr) (ys : List Value) (n0 : List (Addr × Obj)) (s₂ : Shared) : Prop :=
  ∃ h' tk, s₂ = { s₁ with heap := h', toks := tk } ∧ Fr h₀ L h' m ∧ News h₀ L h' ((I, oI) :: (C, oC) :: (D, LCg.lst ys) :: n0)
theorem restPT_vars {ct elt : PySem.Expr} {x x₂ : Str} {scope : Scope} {cl : List (Str × Addr)} {s : Shared} {S : List (Addr × Obj) → Prop} {Fin : List Value → List (Addr × Obj) → Prop} {vs : List Value} {Ts : List Tm} {n : Nat} {base n0 : List (Addr × Obj)}
    (hp : PartsIn base n vs Ts) (hb : ∀ p ∈ base, p ∈ n0) (hv : ∀ T ∈ Ts, VIs T) (hS : S n0)
    (yes : ∀ ys σ v t I oI C oC D m₂ h tk (E' : Value → Shared → Prop), VarSays (.leaf σ) true → Tm.In n0 v (.leaf σ) → LCg.NsObj oC m₂ → m₂ x = some t → m₂ x₂ = some v → Fr h₀ L h m → News h₀ L h ((I, oI) :: (C, oC) :: (D, LCg.lst ys) :: n0) →
      wpAny (model prog w) A (isTrue ct (compEnvC scope cl C env) (eval ct (compEnvC scope cl C env))) (fun ok s' => if ok = true then wpAny (model prog w) A (eval elt (compEnvC scope cl C env)) (VarEnd h₀ L m { s with heap := h, toks := tk } I oI C oC D ys n0 σ) E' s' else False) E' { s with heap := h, toks := tk })
    (no : ∀ ys T v t I oI C oC D m₂ h tk (E' : Value → Shared → Prop), VarSays T false → Tm.In n0 v T → LCg.NsObj oC m₂ → m₂ x = some t → m₂ x₂ = some v → Fr h₀ L h m → News h₀ L h ((I, oI) :: (C, oC) :: (D, LCg.lst ys) :: n0) →
      wpAny (model prog w) A (isTrue ct (compEnvC scope cl C env) (eval ct (compEnvC scope cl C env))) (fun ok s' => if ok = true then False else NoEnd h₀ L m { s with heap := h, toks := tk } I oI C oC D ys n0 s') E' { s with heap := h, toks := tk })
    (fin : ∀ ys, StrsAre ys (Ts.filterMap Tm.v?) → Fin ys n0) :
    CRestPT prog w A h₀ L m env ct elt x x₂ scope cl s S (fun i v => vs.toArray[i]? = some v) Fin vs.toArray.size 0 [] n0 := by
  have key : ∀ k i ys, i + k = vs.length → StrsAre ys ((Ts.take i).filterMap Tm.v?) → CRestPT prog w A h₀ L m env ct elt x x₂ scope cl s S (fun i v => vs.toArray[i]? = some v) Fin k i ys n0 := by
    intro k
    induction k with
    | zero =>
      intro i ys hk hy
      rw [List.take_of_length_le (by rw [← hp.len]; omega)] at hy
      exact fin ys hy
    | succ k ih =>
      intro i ys hk hy v hv'
      obtain ⟨a, b, u, its, T, rfl, hT, ha, hb', hs, hin⟩ := hp.get i v (by simpa using hv')
      refine ⟨a, _, .ref b, u, _, rfl, hb _ ha, rfl, rfl, ?_⟩
      intro I oI C oC D m₂ h tk E' e1 e2 e3 F N off ne
      have e : Ts.take (i + 1) = Ts.take i ++ [T] := by rw [List.take_add_one, hT]; rfl
      rcases hv T (List.mem_of_getElem? hT) with ⟨σ, rfl, hvs, hsay⟩ | ⟨hvn, hsay⟩
      · refine wpAny_mono (yes ys σ u _ I oI C oC D m₂ h tk E' hsay (hin.mono hb) e1 e2 e3 F N) (fun ok s' hok => ?_) fun _ _ z => z
        cases ok with
        | false => simp at hok
        | true =>
          simp only [if_true] at hok ⊢
          refine wpAny_mono hok (fun y s'' hy' => ?_) fun _ _ z => z
          obtain ⟨t, h', tk', rfl, rfl, F', N'⟩ := hy'
          refine ⟨h', tk', n0, rfl, F', N', off, hS, ih (i + 1) _ (by omega) ?_⟩
          rw [e, List.filterMap_append]
          simp only [List.filterMap_cons, hvs, List.filterMap_nil]
          exact strs_app hy (.cons σ t .nil)
      · refine wpAny_mono (no ys T u _ I oI C oC D m₂ h tk E' hsay (hin.mono hb) e1 e2 e3 F N) (fun ok s' hok => ?_) fun _ _ z => z
        cases ok with
        | true => simp at hok
        | false =>
          simp only [Bool.false_eq_true, if_false] at hok ⊢
          obtain ⟨h', tk', rfl, F', N'⟩ := hok
          refine ⟨h', tk', n0, rfl, F', N', off, hS, ih (i + 1) _ (by omega) ?_⟩
          rw [e, List.filterMap_append]
          simp only [List.filterMap_cons, hvn, List.filterMap_nil, List.append_nil]
          exact hy
  have := key vs.length 0 [] (by simp) (by simpa using StrsAre.nil)
  simpa using this
end
end Mine
end

theorem Mine.reset_V8 : True := by
  w_top off
  k_with_none
  exact trivial
section
open PySem PySem.W PyProof.Rows PySem.Calls PyProof.V
set_option maxRecDepth 100000
set_option maxHeartbeats 800000
namespace Mine
theorem VarSays.use {T0 : Tm} {r : Bool} (C : VarSays T0 r) {w : World} {dp un : Nat} {gd : Option (List Code)} {cn : Str} {cs : Scope} {a : Addr} {ccd : Value} {cl : List (Str × Addr)} {outer : List Env} {A₀ : Around} {base h₀ : Heap} {L : Addr} {m : Str → Option Value} {s : Shared} {loose : List Str} {mean : ExcName → Option Value} {mg mb : Str → Option Value}
    {Q E : Value → Shared → Prop} {news : List (Addr × Obj)} {v : Value}
    (_B : Below A₀ base outer h₀) (_F : Fr h₀ L s.heap m) (_X : (hd.heap_1 w.params).In h₀)
    (_N : News h₀ L s.heap news) (_T : Top view loose mean mg mb h₀) (_hk : cs.kind = .function)
    (_hT : Tm.In news v T0)
    (_hd : dp + 1 < recursionLimit) (_hu : un + 100 < cLine)
    (_ret : ∀ h' tk', Fr h₀ L h' m → News h₀ L h' news → Q (.bool r) { s with heap := h', toks := tk' }) :
    wpAny (model PySem.Challenge.rw_pq0025_01.row.prog w) (ktrTop dp un gd cn cs L a ccd cl outer) (call (.ref 86) [v]) Q E s := C _B _F _X _N _T _hk _hT _hd _hu _ret
def VarsSays (T : Tm) : Prop := ∀ {w : World} {dp un : Nat} {gd : Option (List Code)} {cn : Str} {cs : Scope} {a : Addr} {ccd : Value} {cl : List (Str × Addr)} {outer : List Env} {A₀ : Around} {base h₀ : Heap} {L : Addr} {m : Str → Option Value} {s : Shared} {loose : List Str} {mean : ExcName → Option Value} {mg mb : Str → Option Value}
    {Q E : Value → Shared → Prop} {news l : List (Addr × Obj)} {v : Value}
    (_hsz : T.h ≤ 20) (_hl : ∀ p ∈ l, p ∈ news)
    (_B : Below A₀ base outer h₀) (_F : Fr h₀ L s.heap m) (_X : (hd.heap_1 w.params).In h₀)
    (_N : News h₀ L s.heap news) (_T : Top view loose mean mg mb h₀) (_hk : cs.kind = .function)
    (_hT : Tm.In l v T)
    (_hd : dp + T.h + 2 < recursionLimit) (_hu : un + 24 * T.h + 300 < cLine)
    (_ret : ∀ X vs ss n h' d' tk', Fr h₀ L h' m → News h₀ L h' ((X, listOf vs.toArray n) :: news) → (∀ q ∈ news, q.1 < X) → StrsAre vs ss → (∀ x, x ∈ ss ↔ x ∈ T.vars) → ss.length ≤ 20 → Q (.ref X) { s with heap := h', drawn := d', toks := tk' }),
    wpAny (model PySem.Challenge.rw_pq0025_01.row.prog w) (ktrTop dp un gd cn cs L a ccd cl outer) (call (.ref 91) [v]) Q E s
theorem SrcPT.ledger {prog : Program} {w : World} {A : Around} {h₀ : Heap} {L : Addr} {m : Str → Option Value} {env : Env} {ct elt : PySem.Expr} {x x₂ : Str} {scope : Scope} {cl : List (Str × Addr)} {Fin : Shared → List Value → List (Addr × Obj) → Prop} {ax : Addr} {its : Array Value} {k : Nat} {news : List (Addr × Obj)} {s₁ : Shared}
    (hh : A.handled = none) (F : Fr h₀ L s₁.heap m) (N : News h₀ L s₁.heap news) (hm : (ax, ({ cls := .type "list", data := .seq its k } : Obj)) ∈ news) (hsz : its.size ≤ sizeLine)
    (h : ∀ g, CRestPT prog w A h₀ L m env ct elt x x₂ scope cl { s₁ with heap := g } (LCg.SrcAt h₀ ax its) (fun i v => its[i]? = some v) (Fin { s₁ with heap := g }) its.size 0 [] news) :
    SrcPT prog w A h₀ L m env ct elt x x₂ scope cl Fin (.ref ax) s₁ := ⟨ax, its, news, rfl, hh, F, N, .inr ⟨_, hm, rfl, _, rfl⟩, hsz, fun _ ⟨g, e⟩ => e ▸ h g⟩
section
variable {prog : Program} {w : World} {A : Around} {E : Value → Shared → Prop} {s : Shared} {h₀ : Heap} {L : Addr} {m : Str → Option Value} {news : List (Addr × Obj)}
theorem set_rule {D : Addr} {ys : List Value} {ss : List Str} {n : Nat} {Q : Value → Shared → Prop} (hh : A.handled = none) (F : Fr h₀ L s.heap m) (N : News h₀ L s.heap news) (hm : (D, listOf ys.toArray n) ∈ news) (hs : StrsAre ys ss) (hl : ys.length ≤ 50)
    (ret : ∀ S o h' tk, Fr h₀ L h' m → News h₀ L h' ((S, o) :: news) → (∀ q ∈ news, q.1 < S) → SetS prog w o (memL ss) ys.length → Q (.ref S) { s with heap := h', toks := tk }) : wpAny (model prog w) A (call (.type "set") [.ref D]) Q E s := by
  refine call_set_strs (items := ys.toArray) (ss := ss) hh ⟨_, (N _ hm).1, rfl, _, rfl⟩ (by simpa using hs) (by simp [scanBound]; omega) fun h' tk o ho hS hk => ?_
  have k : ∀ b o, s.heap.get? b = some o → h'.get? b = some o := fun b o e => hk b o (Heap.lt_size e) e
  exact ret _ o h' tk (F.kept k) (N.kept_cons F k (Nat.le_refl _) ho) (fun q hq => Heap.lt_size (N q hq).1) (by simpa using hS)
theorem sorted_rule {S : Addr} {o : Obj} {ss : List Str} {n : Nat} {Q : Value → Shared → Prop} (hh : A.handled = none) (F : Fr h₀ L s.heap m) (N : News h₀ L s.heap news) (hm : (S, o) ∈ news) (hS : SetS prog w o (memL ss) n) (hn : n ≤ 50)
    (ret : ∀ X vs ss' e h' d tk, Fr h₀ L h' m → News h₀ L h' ((X, listOf vs.toArray e) :: news) → (∀ q ∈ news, q.1 < X) → StrsAre vs ss' → (∀ x, x ∈ ss' ↔ x ∈ ss) → ss'.length ≤ n → Q (.ref X) { s with heap := h', drawn := d, toks := tk }) : wpAny (model prog w) A (call (.builtin "sorted") [.ref S]) Q E s := by
  refine sorted_set hh (N _ hm).1 hS (by omega) fun X h' d tk out ss' e hX hsz hst hmem hlen k => ?_
  exact ret X out.toList ss' e h' d tk (F.kept k) (N.kept_cons F k hsz hX) (fun q hq => Nat.lt_of_lt_of_le (Heap.lt_size (N q hq).1) hsz) hst hmem hlen
end
theorem words_V8_1 : True := by
  w_top off
  k_with_none
  (k_with "k_ne" => (refine neN ?_; (try dsimp only); first | assumption | exact Ne.symm (by assumption) | exact Nat.ne_of_gt (by assumption) | exact Nat.ne_of_lt (by assumption) | (refine' Nat.ne_of_gt ?_; iterate 6 (try (first | exact Nat.lt_succ_self _ | refine' Nat.lt_succ_of_lt ?_)); done) | (refine' Nat.ne_of_lt ?_; iterate 6 (try (first | exact Nat.lt_succ_self _ | refine' Nat.lt_succ_of_lt ?_)); done) | exact Nat.ne_of_gt (And.left (by assumption)) | exact Nat.ne_of_lt (And.left (by assumption)) | exact Nat.ne_of_gt (And.left (And.right (by assumption))) | exact Nat.ne_of_gt (And.right (by assumption)) | exact Nat.ne_of_lt (And.left (And.right (by assumption))) | exact Nat.ne_of_lt (And.right (by assumption)) | exact Nat.ne_of_gt (And.left (And.right (And.right (by assumption)))) | exact Nat.ne_of_gt (And.right (And.right (by assumption))) | exact Nat.ne_of_lt (And.left (And.right (And.right (by assumption)))) | exact Nat.ne_of_lt (And.right (And.right (by assumption))) | exact Nat.ne_of_gt (And.left (And.right (And.right (And.right (by assumption))))) | exact Nat.ne_of_gt (And.right (And.right (And.right (by assumption)))) | exact Nat.ne_of_lt (And.left (And.right (And.right (And.right (by assumption))))) | exact Nat.ne_of_lt (And.right (And.right (And.right (by assumption)))) | exact Nat.ne_of_gt (And.left (And.right (And.right (And.right (And.right (by assumption)))))) | exact Nat.ne_of_gt (And.right (And.right (And.right (And.right (by assumption))))) | exact Nat.ne_of_lt (And.left (And.right (And.right (And.right (And.right (by assumption)))))) | exact Nat.ne_of_lt (And.right (And.right (And.right (And.right (by assumption))))) | exact Nat.ne_of_gt (And.left (And.right (And.right (And.right (And.right (And.right (by assumption))))))) | exact Nat.ne_of_gt (And.right (And.right (And.right (And.right (And.right (by assumption)))))) | exact Nat.ne_of_lt (And.left (And.right (And.right (And.right (And.right (And.right (by assumption))))))) | exact Nat.ne_of_lt (And.right (And.right (And.right (And.right (And.right (by assumption)))))) | exact Nat.ne_of_gt (And.left (And.right (And.right (And.right (And.right (And.right (And.right (by assumption)))))))) | exact Nat.ne_of_gt (And.right (And.right (And.right (And.right (And.right (And.right (by assumption))))))) | exact Nat.ne_of_lt (And.left (And.right (And.right (And.right (And.right (And.right (And.right (by assumption)))))))) | exact Nat.ne_of_lt (And.right (And.right (And.right (And.right (And.right (And.right (by assumption)))))))))
  (k_with "execs cons" => (k_here; (with_reducible refine gen_toks ?_); intro tkq))
  (k_with "execs nil" => (k_here; (with_reducible refine gen_toks ?_); intro tkq))
  (k_with "k_mem" => (assumption))
  (k_with "eval ListComp" => (k_here; k_dflt (refine comp_pt (F₀ := by k_asm) (by with_unfolding_all rfl) (by decide) (by rfl) (by decide) (by rfl) (by rfl) (by decide) ?_)))
  (k_with "subscriptTail" => (k_here; (with_reducible show wpAny _ _ (subscriptTail _ _ (Value.ref _) (Value.int 0 _)) _ _ _); k_dflt (refine' item_zero ?k1q ?k2q ?_ ?k6q; (case k1q => k_asm); (case k2q => k_mem); (case k6q => with_unfolding_all rfl))))
  (k_with "call ref" => (k_here; (with_reducible show wpAny _ _ (call (Value.ref 96) [_]) _ _ _); k_dflt (first | (refine' PartSays.use ?Cq ?hszq ?Bq ?Fq ?Xq ?Nq ?Tq ?hkq ?hTq ?hlq ?hdq ?huq ?_; (case Bq => k_asm); (case Fq => k_asm); (case Xq => k_asm); (case Nq => k_asm); (case Tq => k_asm); (case hkq => first | exact rfl | assumption); (case hTq => assumption); (case hlq => assumption); (case Cq => exact parts_says _); (case hszq => assumption); (case hdq => ktr_room); (case huq => ktr_units)); intro D'q vs'q n'q tl'q h'q tk'q F'q N'q o'q p'q d'q; (try k_sweep))))
  (k_with "call ref" => (k_here; (with_reducible show wpAny _ _ (call (Value.ref 86) [_]) _ _ _); k_dflt (first | (refine' VarSays.use ?Cq ?Bq ?Fq ?Xq ?Nq ?Tq ?hkq ?hTq ?hdq ?huq ?_; (case Bq => k_asm); (case Fq => k_asm); (case Xq => k_asm); (case Nq => k_asm); (case Tq => k_asm); (case hkq => first | exact rfl | assumption); (case hTq => (refine Tm.In.mono ?_ (by assumption); (intro pq hpq; repeat (first | exact hpq | refine List.Mem.tail _ ?_)))); (case Cq => assumption); (case hdq => ktr_room); (case huq => ktr_units)); intro h'q tk'q F'q N'q; (try k_sweep))))
  exact trivial
theorem vars_says (T : Tm) (hok : T.VOk) : VarsSays T := by
  intro w dp un gd cn cs a ccd cl outer A₀ base h₀ L m s loose mean mg mb Q E news l v hsz hl B F X N T' hk hT hd hu ret
  (revert X; k_fill; intro X)
  refine wpAny_call ?_
  k_dflt ktr_enter
  (all_goals try k_fold)
  k_steps
  refine' SrcPT.ledger (by rfl) (by k_asm) (by k_asm) (List.Mem.head _) (src_len (by assumption) (by omega)) ?_
  intro g'
  refine' restPT_vars (by assumption) ?hb (VOk.subs hok) (.inr ⟨_, List.Mem.head _, rfl, _, rfl⟩) ?yes ?no ?fin
  case hb => exact fun p hp => .tail _ (app_sub hl p hp)
  case yes =>
    intro ys' σ' v' t' I' oI' C' oC' D' m' h' tk' E' hs' hT' hC' hx' hy' F' N'
    have hT2 := hT'.mono (fun p hp => .tail (I', oI') (.tail (C', oC') (.tail (D', LCg.lst ys') hp)))
    cases hT2 <;> (k_steps; exact ⟨_, _, _, rfl, rfl, by k_asm, by k_asm⟩)
  case no =>
    intro ys' T2 v' t' I' oI' C' oC' D' m' h' tk' E' hs' hT' hC' hx' hy' F' N'
    k_steps
    exact ⟨_, _, rfl, by k_asm, by k_asm⟩
  case fin =>
    intro ys' hys D2 h2 tk2 F2 N2 off2
    (try dsimp only)
    k_steps
    have hlen : ys'.length ≤ 20 := by
      have h1 := strsAre_length hys
      have h2 : (T.subs.filterMap Tm.v?).length ≤ T.subs.length := List.length_filterMap_le ..
      rw [Tm.subs_len] at h2
      omega
    refine' set_rule (by rfl) F2 N2 (List.Mem.head _) hys (by omega) ?_
    intro S' o' h3 tk3 F3 N3 l3 hS3
    k_steps
    refine' sorted_rule (by rfl) F3 N3 (List.Mem.head _) hS3 (by omega) ?_
    intro X' vs3 ss3 e3 h4 d4 tk4 F4 N4 l4 hst4 hm4 hl4
    k_steps
    refine' ret X' vs3 ss3 e3 h4 d4 tk4 ?f1 (News.sub ?f2 ?f3) (fun q hq => l4 q (.tail _ (.tail _ (.tail _ (List.mem_append_left _ hq))))) hst4 hm4 (by omega)
    case f1 => k_asm
    case f2 => k_asm
    case f3 =>
      intro p hp
      rcases List.mem_cons.mp hp with rfl | hp
      · exact .head _
      · exact .tail _ (.tail _ (.tail _ (.tail _ (List.mem_append_left _ hp))))
end Mine
end

theorem Mine.reset_V9 : True := by
  w_top off
  k_with_none
  exact trivial
section
open PySem PySem.W PyProof.Rows PySem.Calls PyProof.V
set_option maxRecDepth 100000
set_option maxHeartbeats 800000
namespace Mine
section
variable {prog : Program} {w : World} {A : Around} {E : Value → Shared → Prop} {s : Shared} {h₀ : Heap} {L : Addr} {m : Str → Option Value} {env : Env}
theorem cat_rule {a b : Addr} {xs ys : List Value} {ss ts : List Str} {na nb : Nat} {news : List (Addr × Obj)} {Q : Value → Shared → Prop} (F : Fr h₀ L s.heap m) (N : News h₀ L s.heap news)
    (ha : (a, listOf xs.toArray na) ∈ news) (hb : (b, listOf ys.toArray nb) ∈ news) (sx : StrsAre xs ss) (sy : StrsAre ys ts) (hz : ss.length + ts.length ≤ 1000)
    (ret : ∀ D vs h', Fr h₀ L h' m → News h₀ L h' ((D, listOf vs.toArray 0) :: news) → (∀ p ∈ news, p.1 < D) → StrsAre vs (ss ++ ts) → Q (.ref D) { s with heap := h' }) : wpAny (model prog w) A (binaryOp .Add (.ref a) (.ref b)) Q E s :=
  add_lists F N (N.isList ha) (N.isList hb) (fun h' F' N' => ret _ _ h' F' N' (fun p hp => Heap.lt_size (N p hp).1) (strs_app sx sy)) (by rw [sizeLine_eq, sx.len_eq, sy.len_eq]; omega)
theorem restT_none {ct elt : PySem.Expr} {x : Str} {scope : Scope} {cl : List (Str × Addr)} {s : Shared} {S : List (Addr × Obj) → Prop} {Fin : List Value → List (Addr × Obj) → Prop} {vs : List Value} {ss : List Str} {n0 : List (Addr × Obj)}
    (hs : StrsAre vs ss) (hS : S n0)
    (no : ∀ σ t I oI C oC D m₂ h tk (E' : Value → Shared → Prop), σ ∈ ss → LCg.NsObj oC m₂ → m₂ x = some (.str σ t) → Fr h₀ L h m → News h₀ L h ((I, oI) :: (C, oC) :: (D, LCg.lst []) :: n0) → LCg.Off3 I C D n0 → ((@Ne Nat I C) ∧ (@Ne Nat I D) ∧ (@Ne Nat C D)) →
      wpAny (model prog w) A (isTrue ct (compEnvC scope cl C env) (eval ct (compEnvC scope cl C env))) (fun ok s' => if ok = true then False else NoEnd h₀ L m { s with heap := h, toks := tk } I oI C oC D [] n0 s') E' { s with heap := h, toks := tk })
    (fin : Fin [] n0) :
    LCt.CompRestT prog w A h₀ L m env ct elt x scope cl s S (fun i v => vs.toArray[i]? = some v) Fin vs.toArray.size 0 [] n0 := by
  have key : ∀ k i, i + k = vs.length → LCt.CompRestT prog w A h₀ L m env ct elt x scope cl s S (fun i v => vs.toArray[i]? = some v) Fin k i [] n0 := by
    intro k
    induction k with
    | zero => intro i _; exact fin
    | succ k ih =>
      intro i hk v I oI C oC D m₂ h tk E' hv e1 e2 F N off ne
      obtain ⟨σ, t, rfl, hσ⟩ := hs.item i v (by simpa using hv)
      refine wpAny_mono (no σ t I oI C oC D m₂ h tk E' (List.mem_of_getElem? hσ) e1 e2 F N off ne) (fun ok s' hok => ?_) fun _ _ z => z
      cases ok with
      | true => simp at hok
      | false =>
        simp only [Bool.false_eq_true, if_false] at hok ⊢
        obtain ⟨h', tk', rfl, F', N'⟩ := hok
        exact ⟨h', tk', n0, rfl, F', N', off, hS, ih (i + 1) (by omega)⟩
  have := key vs.length 0 (by simp)
  simpa using this
end
theorem any_mem {ys : List Str} {k : Str} (h : k ∈ ys) : ys.any (· == k) = true := List.any_eq_true.mpr ⟨k, h, by simp⟩
end Mine
end

theorem Mine.reset_F1 : True := by
  w_top off
  k_with_none
  exact trivial
section
open PySem PySem.W PyProof.Rows PySem.Calls PyProof.V
set_option maxRecDepth 100000
set_option maxHeartbeats 800000
namespace Mine
section
variable {prog : Program} {w : World} {A : Around} {E : Value → Shared → Prop} {s : Shared} {env : Env} {h₀ : Heap} {target : PySem.Expr} {body : List Stmt} {Q : Flow → Shared → Prop}
def ForEnd (h₀ : Heap) (L : Addr) (s : Shared) (I : Addr) (oI : Obj) (ax : Addr) (lo : Obj) (rest : (Str → Option Value) → List (Addr × Obj) → Prop) (s₂ : Shared) : Prop :=
  ∃ h' d' tk' m' news', s₂ = { s with heap := h', drawn := d', toks := tk' } ∧ Fr h₀ L h' m' ∧ News h₀ L h' ((I, oI) :: news') ∧ (∀ p ∈ news', p.1 ≠ I) ∧ (ax, lo) ∈ news' ∧ rest m' news'
def ForPost (h₀ : Heap) (L : Addr) (s : Shared) (I : Addr) (oI : Obj) (ax : Addr) (lo : Obj) (rest : (Str → Option Value) → List (Addr × Obj) → Prop) (Q : Flow → Shared → Prop) (f : Flow) (s₂ : Shared) : Prop :=
  match f with
  | .ret v => Q (.ret v) s₂
  | .brk => Q .next s₂
  | _ => ForEnd h₀ L s I oI ax lo rest s₂
def RestL (prog : Program) (w : World) (A : Around) (E : Value → Shared → Prop) (h₀ : Heap) (env : Env) (target : PySem.Expr) (body : List Stmt) (Q : Flow → Shared → Prop) (s : Shared) (I ax : Addr) (lo : Obj) : List Value → (Str → Option Value) → List (Addr × Obj) → Prop
  | [], m, news => ∀ h d tk, Fr h₀ env.locals h m → News h₀ env.locals h news → Q .next { s with heap := h, drawn := d, toks := tk }
  | v :: r, m, news => ∀ h d tk oI, Fr h₀ env.locals h m → News h₀ env.locals h ((I, oI) :: news) → (∀ p ∈ news, p.1 ≠ I) →
      wpAny (model prog w) A (assign target env v) (fun _ s₂ => wpAny (model prog w) A (execs body env) (ForPost h₀ env.locals s I oI ax lo (RestL prog w A E h₀ env target body Q s I ax lo r) Q) E s₂) E { s with heap := h, drawn := d, toks := tk }
def SrcFor (prog : Program) (w : World) (A : Around) (h₀ : Heap) (env : Env) (target : PySem.Expr) (body : List Stmt) (Q : Flow → Shared → Prop) (E : Value → Shared → Prop) (xv : Value) (s₁ : Shared) : Prop :=
  ∃ ax lo vs n m news, xv = .ref ax ∧ A.handled = none ∧ Fr h₀ env.locals s₁.heap m ∧ News h₀ env.locals s₁.heap news ∧ (ax, lo) ∈ news ∧ lo.cls = .type "list" ∧ lo.data = .seq (List.toArray vs) n ∧ ∀ I, (∀ p ∈ news, p.1 < I) → RestL prog w A E h₀ env target body Q s₁ I ax lo vs m news
theorem for_core {ax : Addr} {lo : Obj} {vs : List Value} {n : Nat} {m : Str → Option Value} {news : List (Addr × Obj)} (hh : A.handled = none) (F : Fr h₀ env.locals s.heap m) (N : News h₀ env.locals s.heap news) (hm : (ax, lo) ∈ news) (hc : lo.cls = .type "list") (hd : lo.data = .seq vs.toArray n)
    (rest₀ : ∀ I : Addr, (∀ p ∈ news, p.1 < I) → RestL prog w A E h₀ env target body Q s I ax lo vs m news) (hE : PassesOwn (model prog w) A env E) :
    wpAny (model prog w) A (pyIter (.ref ax)) (fun it s₂ => codeAny (model prog w) A (.forLoop target it body [] env) (fun r s' => match r with | .ok f => Q f s' | .error e => cameBackBy (model prog w) A env E e s') s₂) E s := by
  have hax := N _ hm
  have hl : s.heap.IsList ax vs.toArray := ⟨lo, hax.1, hc, n, hd⟩
  have hlt : ax < s.heap.objs.size := Heap.lt_size hax.1
  have hne : ax ≠ s.heap.objs.size := Nat.ne_of_lt hlt
  have hrest := rest₀ s.heap.objs.size fun p hp => Heap.lt_size (N p hp).1
  have hI₀ : h₀.get? s.heap.objs.size = none := next_is_new F
  have hLI : env.locals ≠ s.heap.objs.size := Nat.ne_of_lt F.ns.lt
  have W := Walks.list (prog := prog) (w := w) hh s.heap.objs.size ax hne vs.toArray
  refine wpAny_pyIter_list hl ?_
  generalize hI : s.heap.objs.size = I at *
  refine codeAny_forLoop_any
    (fun k s' => ∃ h' d' tk m' news' i oI, s' = { s with heap := h', drawn := d', toks := tk } ∧ (h'.IsListIter I ax i ∧ h'.IsList ax vs.toArray) ∧ Fr h₀ env.locals h' m' ∧ News h₀ env.locals h' ((I, oI) :: news') ∧ (∀ p ∈ news', p.1 ≠ I) ∧ (ax, lo) ∈ news' ∧
      RestL prog w A E h₀ env target body Q s I ax lo (vs.drop i) m' news' ∧ i ≤ vs.length ∧ k = vs.length + 1 - i) ?_ (vs.length + 1)
    ⟨_, s.drawn, s.toks, m, news, 0, { cls := .type "list_iterator", data := .fields #[.ref ax, .int 0 0] }, rfl, ⟨⟨_, by rw [← hI]; exact Heap.get?_push_size _ rfl, rfl, rfl⟩, hl.push _⟩, F.push _, ?_, fun p hp => by rw [← hI]; exact Nat.ne_of_lt (Heap.lt_size (N p hp).1), hm, by rw [List.drop_zero]; exact hrest, Nat.zero_le _, rfl⟩
  · rintro k s' ⟨h', d', tk, m', news', i, oI, rfl, hst, F', N', hnI, hm', hR, hi, rfl⟩
    have next : ∀ h₁ : Heap, (∀ b o, b ∉ [I] → h'.get? b = some o → h₁.get? b = some o) → Fr h₀ env.locals h₁ m' ∧ News h₀ env.locals h₁ news' := fun h₁ hk₁ =>
      ⟨LCg.fr_but F' hk₁ hLI hI₀, LCg.news_but (fun p hp => N' p (.tail _ hp)) hk₁ hnI⟩
    by_cases hlt' : i < vs.length
    · refine W.item i _ _ _ (by simpa using hlt') hst fun v h₁ tk₁ hP hst₁ hk₁ => ?_
      obtain ⟨F₁, N₁⟩ := next h₁ hk₁
      refine letGo_listiter hst₁.1 ?_
      obtain ⟨o1, ho1, hc1, hd1⟩ := id hst₁.1
      have hv : vs[i]? = some v := by simpa using hP
      have hdrop : vs.drop i = v :: vs.drop (i + 1) := by
        rw [List.drop_eq_getElem_cons hlt']
        congr 1
        exact Option.some.inj ((List.getElem?_eq_getElem hlt').symm.trans hv)
      rw [hdrop] at hR
      refine wpAny_mono (hR h₁ d' tk₁ o1 F₁ (fun p hp => ?_) hnI) (fun _ s₂ h₂ => wpAny_mono h₂ (fun f s₃ h₃ => ?_) hE) hE
      · rcases List.mem_cons.mp hp with rfl | hp
        · exact ⟨ho1, Ne.symm hLI, hI₀⟩
        · exact N₁ p hp
      · have fin : ForEnd h₀ env.locals s I o1 ax lo (RestL prog w A E h₀ env target body Q s I ax lo (vs.drop (i + 1))) s₃ → ∃ m, m < vs.length + 1 - i ∧ ∃ h' d' tk m' news' i oI, s₃ = { s with heap := h', drawn := d', toks := tk } ∧ (h'.IsListIter I ax i ∧ h'.IsList ax vs.toArray) ∧ Fr h₀ env.locals h' m' ∧ News h₀ env.locals h' ((I, oI) :: news') ∧ (∀ p ∈ news', p.1 ≠ I) ∧ (ax, lo) ∈ news' ∧
            RestL prog w A E h₀ env target body Q s I ax lo (vs.drop i) m' news' ∧ i ≤ vs.length ∧ m = vs.length + 1 - i := by
          rintro ⟨h₃', d₃, tk₃, m₃, news₃, rfl, F₃, N₃, o₃, hm₃, R₃⟩
          refine ⟨vs.length + 1 - (i + 1), by omega, h₃', d₃, tk₃, m₃, news₃, i + 1, o1, rfl, ⟨⟨o1, (N₃ _ (.head _)).1, hc1, hd1⟩, ⟨lo, (N₃ _ (.tail _ hm₃)).1, hc, n, hd⟩⟩, F₃, N₃, o₃, hm₃, R₃, hlt', rfl⟩
        cases f with
        | ret v => exact h₃
        | brk => exact h₃
        | cont => exact fin h₃
        | next => exact fin h₃
    · have hin : i = vs.length := by omega
      subst hin
      refine W.done _ _ _ (by simpa using hst) fun h₁ tk₁ hk₁ => wpAny_execs_nil ?_
      obtain ⟨F₁, N₁⟩ := next h₁ hk₁
      rw [List.drop_eq_nil_of_le (Nat.le_refl _)] at hR
      exact hR h₁ d' tk₁ F₁ N₁
  · intro p hp
    rcases List.mem_cons.mp hp with rfl | hp
    · exact ⟨by rw [← hI]; exact Heap.get?_push_size _ rfl, Ne.symm hLI, hI₀⟩
    · exact ⟨Heap.get?_push_of_some _ (N p hp).1, (N p hp).2⟩
theorem For_list {iter : PySem.Expr} {pos : Pos} {m : Str → Option Value} (_F : Fr h₀ env.locals s.heap m)
    (h : wpAny (model prog w) A (eval iter env) (SrcFor prog w A h₀ env target body Q E) E s)
    (hs : ∀ x, foldedSetIterable iter env x = pure x := by intro _; rfl)
    (hE : PassesOwn (model prog w) A env E := by passes_own) :
    wpAny (model prog w) A (exec (.For target iter body [] pos) env) Q E s := by
  refine wpAny_For (wpAny_mono h (fun xv s₁ h₁ => ?_) fun _ _ e => e) hs
  obtain ⟨ax, lo, vs, n, m, news, rfl, hh, F, N, hm, hc, hd, R⟩ := h₁
  exact for_core hh F N hm hc hd R hE
theorem SrcFor.mk {ax : Addr} {lo : Obj} {vs : List Value} {n : Nat} {m : Str → Option Value} {news : List (Addr × Obj)} (hh : A.handled = none) (F : Fr h₀ env.locals s.heap m) (N : News h₀ env.locals s.heap news) (hm : (ax, lo) ∈ news) (hc : lo.cls = .type "list") (hd : lo.data = .seq vs.toArray n)
    (rest₀ : ∀ I : Addr, (∀ p ∈ news, p.1 < I) → RestL prog w A E h₀ env target body Q s I ax lo vs m news) : SrcFor prog w A h₀ env target body Q E (.ref ax) s := ⟨ax, lo, vs, n, m, news, rfl, hh, F, N, hm, hc, hd, rest₀⟩
theorem RestL.cons {I ax : Addr} {lo : Obj} {v : Value} {r : List Value} {m : Str → Option Value} {news : List (Addr × Obj)}
    (h : ∀ h d tk oI, Fr h₀ env.locals h m → News h₀ env.locals h ((I, oI) :: news) → (∀ p ∈ news, p.1 ≠ I) →
      wpAny (model prog w) A (assign target env v) (fun _ s₂ => wpAny (model prog w) A (execs body env) (ForPost h₀ env.locals s I oI ax lo (RestL prog w A E h₀ env target body Q s I ax lo r) Q) E s₂) E { s with heap := h, drawn := d, toks := tk }) :
    RestL prog w A E h₀ env target body Q s I ax lo (v :: r) m news := h
theorem RestL.nil {I ax : Addr} {lo : Obj} {m : Str → Option Value} {news : List (Addr × Obj)} (h : ∀ h d tk, Fr h₀ env.locals h m → News h₀ env.locals h news → Q .next { s with heap := h, drawn := d, toks := tk }) :
    RestL prog w A E h₀ env target body Q s I ax lo [] m news := h
theorem ForEnd.mk {L : Addr} {I : Addr} {oI : Obj} {ax : Addr} {lo : Obj} {rest : (Str → Option Value) → List (Addr × Obj) → Prop} {h' : Heap} {d' : Drawn} {tk' : Nat} {m' : Str → Option Value} {all : List (Addr × Obj)} (F : Fr h₀ L h' m') (N : News h₀ L h' all) (news' : List (Addr × Obj))
    (hI : (I, oI) ∈ all) (sub : ∀ p ∈ news', p ∈ all) (off : ∀ p ∈ news', p.1 ≠ I) (hm : (ax, lo) ∈ news') (r : rest m' news') : ForEnd h₀ L s I oI ax lo rest { s with heap := h', drawn := d', toks := tk' } :=
  ⟨h', d', tk', m', news', rfl, F, fun p hp => by
    rcases List.mem_cons.mp hp with rfl | hp
    · exact N _ hI
    · exact N _ (sub p hp), off, hm, r⟩
end
end Mine
end

theorem Mine.reset_V10 : True := by
  w_top off
  k_with_none
  exact trivial
section
open PySem PySem.W PyProof.Rows PySem.Calls PyProof.V
set_option maxRecDepth 100000
set_option maxHeartbeats 800000
namespace Mine
theorem under_cls {dp un : Nat} {gd : Option (List Code)} {cn : Str} {cs : Scope} {L a : Addr} {ccd : Value} {cl : List (Str × Addr)} {outer : List Env} {c : Addr} {rest : List Value} :
    (ktrTop dp un gd cn cs L a ccd cl outer).under (.builtin "type.__call__" ⟨.ref c :: rest, []⟩) = ktrTop (dp + 1) (un + 1) gd cn cs L a ccd cl outer := rfl
theorem VarsSays.use {T0 : Tm} (C : VarsSays T0) {w : World} {dp un : Nat} {gd : Option (List Code)} {cn : Str} {cs : Scope} {a : Addr} {ccd : Value} {cl : List (Str × Addr)} {outer : List Env} {A₀ : Around} {base h₀ : Heap} {L : Addr} {m : Str → Option Value} {s : Shared} {loose : List Str} {mean : ExcName → Option Value} {mg mb : Str → Option Value}
    {Q E : Value → Shared → Prop} {news l : List (Addr × Obj)} {v : Value}
    (_hsz : T0.h ≤ 20) (_hT : Tm.In l v T0) (_hl : ∀ p ∈ l, p ∈ news)
    (_B : Below A₀ base outer h₀) (_F : Fr h₀ L s.heap m) (_X : (hd.heap_1 w.params).In h₀)
    (_N : News h₀ L s.heap news) (_T : Top view loose mean mg mb h₀) (_hk : cs.kind = .function)
    (_hd : dp + T0.h + 2 < recursionLimit) (_hu : un + 24 * T0.h + 300 < cLine)
    (_ret : ∀ X vs ss n h' d' tk', Fr h₀ L h' m → News h₀ L h' ((X, listOf vs.toArray n) :: news) → (∀ q ∈ news, q.1 < X) → StrsAre vs ss → (∀ x, x ∈ ss ↔ x ∈ T0.vars) → ss.length ≤ 20 → Q (.ref X) { s with heap := h', drawn := d', toks := tk' }) :
    wpAny (model PySem.Challenge.rw_pq0025_01.row.prog w) (ktrTop dp un gd cn cs L a ccd cl outer) (call (.ref 91) [v]) Q E s := C _hsz _hl _B _F _X _N _T _hk _hT _hd _hu _ret
theorem known_of {σ : Str} {a b c : List Str} {Tr Tl : Tm} (h : σ ∈ a ++ b) (ha : ∀ x, x ∈ a ↔ x ∈ Tr.vars) (hb : ∀ x, x ∈ b ↔ x ∈ Tr.vars) (hc : ∀ x, x ∈ c ↔ x ∈ Tl.vars) (hs : ∀ x ∈ Tr.vars, x ∈ Tl.vars) : σ ∈ c := by
  rcases List.mem_append.mp h with h | h
  · exact (hc σ).mpr (hs σ ((ha σ).mp h))
  · exact (hc σ).mpr (hs σ ((hb σ).mp h))
theorem notin_known {prog : Program} {w : World} {A : Around} {E : Value → Shared → Prop} {s : Shared} {l : Addr} {vs : List Value} {ys : List Str} {k : Str} {t : Tok} {Q : Value → Shared → Prop} (hl : s.heap.IsList l vs.toArray) (hi : StrsAre vs ys) (hk : k ∈ ys)
    (h : Q (.bool false) s) : wpAny (model prog w) A (compareOp .NotIn (.str k t) (.ref l)) Q E s := notin_list_strs hl hi (by rw [any_mem hk]; exact h)
theorem words_V10_1 : True := by
  w_top off
  k_with_none
  (k_with "k_ne" => (refine neN ?_; (try dsimp only); first | assumption | exact Ne.symm (by assumption) | exact Nat.ne_of_gt (by assumption) | exact Nat.ne_of_lt (by assumption) | (refine' Nat.ne_of_gt ?_; iterate 6 (try (first | exact Nat.lt_succ_self _ | refine' Nat.lt_succ_of_lt ?_)); done) | (refine' Nat.ne_of_lt ?_; iterate 6 (try (first | exact Nat.lt_succ_self _ | refine' Nat.lt_succ_of_lt ?_)); done) | exact Nat.ne_of_gt (And.left (by assumption)) | exact Nat.ne_of_lt (And.left (by assumption)) | exact Nat.ne_of_gt (And.left (And.right (by assumption))) | exact Nat.ne_of_gt (And.right (by assumption)) | exact Nat.ne_of_lt (And.left (And.right (by assumption))) | exact Nat.ne_of_lt (And.right (by assumption)) | exact Nat.ne_of_gt (And.left (And.right (And.right (by assumption)))) | exact Nat.ne_of_gt (And.right (And.right (by assumption))) | exact Nat.ne_of_lt (And.left (And.right (And.right (by assumption)))) | exact Nat.ne_of_lt (And.right (And.right (by assumption))) | exact Nat.ne_of_gt (And.left (And.right (And.right (And.right (by assumption))))) | exact Nat.ne_of_gt (And.right (And.right (And.right (by assumption)))) | exact Nat.ne_of_lt (And.left (And.right (And.right (And.right (by assumption))))) | exact Nat.ne_of_lt (And.right (And.right (And.right (by assumption)))) | exact Nat.ne_of_gt (And.left (And.right (And.right (And.right (And.right (by assumption)))))) | exact Nat.ne_of_gt (And.right (And.right (And.right (And.right (by assumption))))) | exact Nat.ne_of_lt (And.left (And.right (And.right (And.right (And.right (by assumption)))))) | exact Nat.ne_of_lt (And.right (And.right (And.right (And.right (by assumption))))) | exact Nat.ne_of_gt (And.left (And.right (And.right (And.right (And.right (And.right (by assumption))))))) | exact Nat.ne_of_gt (And.right (And.right (And.right (And.right (And.right (by assumption)))))) | exact Nat.ne_of_lt (And.left (And.right (And.right (And.right (And.right (And.right (by assumption))))))) | exact Nat.ne_of_lt (And.right (And.right (And.right (And.right (And.right (by assumption)))))) | exact Nat.ne_of_gt (And.left (And.right (And.right (And.right (And.right (And.right (And.right (by assumption)))))))) | exact Nat.ne_of_gt (And.right (And.right (And.right (And.right (And.right (And.right (by assumption))))))) | exact Nat.ne_of_lt (And.left (And.right (And.right (And.right (And.right (And.right (And.right (by assumption)))))))) | exact Nat.ne_of_lt (And.right (And.right (And.right (And.right (And.right (And.right (by assumption)))))))))
  (k_with "execs cons" => (k_here; (with_reducible refine gen_toks ?_); intro tkq))
  (k_with "execs nil" => (k_here; (with_reducible refine gen_toks ?_); intro tkq))
  (k_with "k_mem" => (assumption))
  (k_with "call ref" => (k_here; (with_reducible show wpAny _ _ (call (Value.ref 86) [_]) _ _ _); k_dflt (first | (refine' VarSays.use ?Cq ?Bq ?Fq ?Xq ?Nq ?Tq ?hkq ?hTq ?hdq ?huq ?_; (case Bq => k_asm); (case Fq => k_asm); (case Xq => k_asm); (case Nq => k_asm); (case Tq => k_asm); (case hkq => first | exact rfl | assumption); (case hTq => (refine Tm.In.mono ?_ (by assumption); (intro pq hpq; have hpq := (by assumption : ∀ pq ∈ _, pq ∈ _) pq hpq; repeat (first | exact hpq | refine List.Mem.tail _ ?_)))); (case Cq => assumption); (case hdq => ktr_room); (case huq => ktr_units)); intro h'q tk'q F'q N'q; (try k_sweep))))
  (k_with "call ref" => (k_here; (with_reducible show wpAny _ _ (call (Value.ref 91) [_]) _ _ _); k_dflt (first | (refine' VarsSays.use ?Cq ?hszq ?hTq ?hlq ?Bq ?Fq ?Xq ?Nq ?Tq ?hkq ?hdq ?huq ?_; (case Bq => k_asm); (case Fq => k_asm); (case Xq => k_asm); (case Nq => k_asm); (case Tq => k_asm); (case hkq => first | exact rfl | assumption); (case hTq => assumption); (case hlq => (intro pq hpq; have hpq := (by assumption : ∀ pq ∈ _, pq ∈ _) pq hpq; repeat (first | exact hpq | refine List.Mem.tail _ ?_))); (case Cq => exact vars_says _ (by assumption)); (case hszq => assumption); (case hdq => ktr_room); (case huq => ktr_units)); intro X'q vs'q ss'q n'q h'q d'q tk'q F'q N'q l1q st'q mm'q ln'q; (try k_lt l1q); (try k_sweep))))
  (k_with "exec For Tuple Name cons nil" => (k_here; (rename Fr _ _ _ _ => lF'q); (with_unfolding_all refine' For_list lF'q ?_; k_whole)))
  (k_with "ForPost" => (dsimp only [ForPost]))
  (k_with "SrcFor" => (k_here; k_dflt (refine SrcFor.mk (vs := [_]) (by rfl) (by k_asm) (by k_asm) (by k_mem) (by rfl) (by rfl) ?_); intro i'q l1q; (try k_lt l1q)))
  (k_with "RestL" => (with_unfolding_all first | (refine RestL.cons ?_; intro h'q d'q tk'q o'q F'q N'q off'q) | (refine RestL.nil ?_; intro h'q d'q tk'q F'q N'q)))
  (k_with "exec Assign cons ListComp" => (k_here; k_dflt (refine LCt.Assign_ListComp_T (F₀ := by k_asm) (by rfl) (by with_unfolding_all rfl) (by with_unfolding_all rfl) (by decide) (by rfl) (by decide) (by rfl) (by rfl) (by rfl) ?_)))
  (k_with "binaryOp Add ref ref" => (k_here; (with_reducible show wpAny _ _ (binaryOp _ (Value.ref _) (Value.ref _)) (LCt.CompSrcT _ _ _ _ _ _ _ _ _ _ _ _ _) _ _); k_dflt (refine' cat_rule ?Fq ?Nq ?aq ?bq ?sxq ?syq ?hzq ?_; (case Fq => k_asm); (case Nq => k_asm); (case aq => k_mem); (case bq => k_mem); (case sxq => assumption); (case syq => assumption); (case hzq => omega)); intro D'q vs'q h'q F'q N'q l1q st'q; (try k_lt l1q)))
  (k_with "call type:tuple" => (k_here; (with_reducible show wpAny _ _ (call (Value.type _) [Value.ref _]) _ _ _); k_dflt (refine' call_tuple_same ?tq ?_; (case tq => exact News.isTup (by k_asm) (by repeat (first | assumption | refine List.Mem.tail _ ?_))))))
  (k_with "compareOp NotIn str ref" => (k_here; (with_reducible show wpAny _ _ (compareOp CmpOp.NotIn (Value.str _ _) (Value.ref _)) _ _ _); k_dflt (refine' notin_known ?k1q ?k2q ?k3q ?_; (case k1q => exact News.isList (by k_asm) (by k_mem)); (case k2q => assumption); (case k3q => exact known_of (by assumption) (by assumption) (by assumption) (by assumption) (by assumption)))))
  (k_with "execs cons" => k_fold)
  (k_with "eval Call" => k_fold)
  exact trivial
theorem all_cell2 {L a b : Addr} {news : List (Addr × Obj)} (l : a < L ∧ b < L ∧ AllLt L news) : ∀ p ∈ news, p.1 ≠ L + 1 := fun p hp => Nat.ne_of_lt (Nat.lt_succ_of_lt (ktn_ltOf l.2.2 p hp))
theorem words_V10_2 : True := by
  w_top off
  (k_with "k_all" => (exact all_cell2 (by assumption)))
  (k_with "execs cons" => k_fold)
  (k_with "eval Call" => k_fold)
  exact trivial
theorem rule_says {w : World} {dp un : Nat} {gd : Option (List Code)} {cn : Str} {cs : Scope} {a : Addr} {ccd : Value} {cl : List (Str × Addr)} {outer : List Env} {A₀ : Around} {base h₀ : Heap} {L : Addr} {m : Str → Option Value} {s : Shared} {loose : List Str} {mean : ExcName → Option Value} {mg mb : Str → Option Value}
    {Q E : Value → Shared → Prop} {news l : List (Addr × Obj)} {vl vr : Value} {nm : Str} {tn : Tok} {nd : Addr} {Tl Tr : Tm}
    (hvl : Tl.VOk) (hvr : Tr.VOk) (hvar : VarSays Tl false) (hsub : ∀ x ∈ Tr.vars, x ∈ Tl.vars) (hzl : Tl.h ≤ 20) (hzr : Tr.h ≤ 20) (hl : ∀ p ∈ l, p ∈ news)
    (B : Below A₀ base outer h₀) (F : Fr h₀ L s.heap m) (X : (hd.heap_1 w.params).In h₀)
    (N : News h₀ L s.heap news) (T : Top view loose mean mg mb h₀) (hk : cs.kind = .function)
    (hTl : Tm.In l vl Tl) (hTr : Tm.In l vr Tr) (hnd : (nd, tupO #[]) ∈ news)
    (hd : dp + 40 < recursionLimit) (hu : un + 2000 < cLine)
    (ret : ∀ x dx k h' d' tk' t1 t2 t3 t4, Fr h₀ L h' m → News h₀ L h' ((x, instObj 118 dx) :: (dx, dictOf [⟨PyData.keyHash w.params (Str.ofString "name"), .str (Str.ofString "name") t1, .str nm tn⟩, ⟨PyData.keyHash w.params (Str.ofString "left"), .str (Str.ofString "left") t2, vl⟩, ⟨PyData.keyHash w.params (Str.ofString "right"), .str (Str.ofString "right") t3, vr⟩, ⟨PyData.keyHash w.params (Str.ofString "needs"), .str (Str.ofString "needs") t4, .ref nd⟩] k) :: news) →
      (∀ q ∈ news, q.1 < x ∧ q.1 < dx) → Q (.ref x) { s with heap := h', drawn := d', toks := tk' }) :
    wpAny (model PySem.Challenge.rw_pq0025_01.row.prog w) (ktrTop dp un gd cn cs L a ccd cl outer) (call (.ref 118) [.str nm tn, vl, vr, .ref nd]) Q E s := by
  (revert X; k_fill; intro X)
  k_dflt (refine' call_cls ?k1 ?k2 ?k3 ?k4 ?k5 ?k6 ?_; (case k1 => k_asm); (case k2 => k_asm); (case k3 => k_asm); (case k4 => k_is); (case k5 => k_is); (case k6 => k_is); k_whole; intro x' d' h' F' N' l1 l2; have hlow : ∀ q ∈ news, q.1 < x' ∧ q.1 < d' := fun q hq => ⟨Nat.lt_trans (l1 q hq) l2, l1 q hq⟩; (try k_lt l1); (try k_lt2 l2); (try k_sweep))
  rw [under_cls]
  k_dflt (refine' code_defC ?k1 ?k2 ?k3 ?k4 ?k5 ?kA ?kF ?kK ?k6 ?k7 ?k8 ?k9 ?kB ?kD ?_ ?c2 ?c3 ?c4; (case kA => exact rfl); (case kF => exact rfl); (case kK => assumption); (case k1 => k_asm); (case k2 => k_asm); (case k3 => k_asm); (case k4 => k_asm); (case k5 => k_asm); (case k6 => k_is); (case k7 => k_is); (case k8 => (ktr_room)); (case k9 => exact BindsTo.of_eq rfl); (case kB => exact rfl); (case kD => decide +kernel); (case c2 => exact rfl); (case c3 => exact rfl); (case c4 => exact rfl); k_whole; intro g' L' h' tk' cells' FG' F' N' Y' B' X' T' l1; (try k_lt l1); k_cells Y'; (try simp only [List.cons_append, List.nil_append] at N'); (try dsimp only); (try k_fold))
  k_steps
  refine' LCt.CompSrcT.ledger (by rfl) (by k_asm) (by k_asm) (List.Mem.head _) ?hz ?_
  case hz => (rw [List.size_toArray, StrsAre.len_eq (by assumption), sizeLine_eq, List.length_append]; omega)
  intro g9
  refine' restT_none (by assumption) (.inr ⟨_, List.Mem.head _, rfl, _, rfl⟩) ?no ?fin
  case no =>
    intro σ t I' oI' C' oC' D' m' h' tk' E' hσ hC' hx' F' N' off' ne'
    k_steps
    exact ⟨_, _, rfl, by k_asm, by k_asm⟩
  case fin =>
    intro D2 h2 tk2 F2 N2 off2
    (try dsimp only)
    k_steps
    refine' ForEnd.mk (by k_asm) (by k_asm) ((_, _) :: (x', instObj 118 d') :: (d', dictOf [] 0) :: news) ?hI ?sub ?off (.head _) ?r
    case hI => (repeat (first | exact List.Mem.head _ | refine List.Mem.tail _ ?_))
    case sub => exact List.forall_mem_cons.mpr ⟨by repeat (first | exact List.Mem.head _ | refine List.Mem.tail _ ?_), List.forall_mem_cons.mpr ⟨by repeat (first | exact List.Mem.head _ | refine List.Mem.tail _ ?_), List.forall_mem_cons.mpr ⟨by repeat (first | exact List.Mem.head _ | refine List.Mem.tail _ ?_), by intro p hp; repeat (first | exact hp | refine List.Mem.tail _ ?_)⟩⟩⟩
    case off =>
      have ho := (by assumption : ∀ p ∈ (_ : List (Addr × Obj)), p.1 ≠ _)
      exact List.forall_mem_cons.mpr ⟨ho _ (by repeat (first | exact List.Mem.head _ | refine List.Mem.tail _ ?_)), List.forall_mem_cons.mpr ⟨ho _ (by repeat (first | exact List.Mem.head _ | refine List.Mem.tail _ ?_)), List.forall_mem_cons.mpr ⟨ho _ (by repeat (first | exact List.Mem.head _ | refine List.Mem.tail _ ?_)), fun p hp => ho p (by repeat (first | exact hp | refine List.Mem.tail _ ?_))⟩⟩⟩
    case r =>
      k_steps
      exact ret _ _ _ _ _ _ _ _ _ _ (by k_asm) (News.sub (by k_asm) (fun p hp => .tail _ hp)) hlow
end Mine
end

theorem Mine.reset_R1 : True := by
  w_top off
  k_with_none
  exact trivial
section
open PySem PySem.W PyProof.Rows PySem.Calls PyProof.V
set_option maxRecDepth 100000
set_option maxHeartbeats 800000
namespace Mine
def StopHere (p : Prop) : Prop := p
theorem StopHere.mk {p : Prop} (h : StopHere p) : p := h
theorem StopHere.go {p : Prop} (h : p) : StopHere p := h
def RuleIn (w : World) (l : List (Addr × Obj)) (v : Value) (Tl Tr : Tm) : Prop :=
  ∃ x dx k vl vr nm tn nd t1 t2 t3 t4, v = .ref x ∧ (x, instObj 118 dx) ∈ l ∧ (dx, dictOf [⟨PyData.keyHash w.params (Str.ofString "name"), .str (Str.ofString "name") t1, .str nm tn⟩, ⟨PyData.keyHash w.params (Str.ofString "left"), .str (Str.ofString "left") t2, vl⟩, ⟨PyData.keyHash w.params (Str.ofString "right"), .str (Str.ofString "right") t3, vr⟩, ⟨PyData.keyHash w.params (Str.ofString "needs"), .str (Str.ofString "needs") t4, nd⟩] k) ∈ l ∧ Tm.In l vl Tl ∧ Tm.In l vr Tr
theorem RuleIn.mono {w : World} {l l' : List (Addr × Obj)} {v : Value} {Tl Tr : Tm} (h : ∀ p ∈ l, p ∈ l') (r : RuleIn w l v Tl Tr) : RuleIn w l' v Tl Tr := by
  obtain ⟨x, dx, k, vl, vr, nm, tn, nd, t1, t2, t3, t4, e, a, b, c, d⟩ := r
  exact ⟨x, dx, k, vl, vr, nm, tn, nd, t1, t2, t3, t4, e, h _ a, h _ b, c.mono h, d.mono h⟩
inductive RulesIn (w : World) (l : List (Addr × Obj)) : List Value → List (Tm × Tm) → Prop
  | nil : RulesIn w l [] []
  | cons {v : Value} {Tl Tr : Tm} {vs : List Value} {Ts : List (Tm × Tm)} : RuleIn w l v Tl Tr → RulesIn w l vs Ts → RulesIn w l (v :: vs) ((Tl, Tr) :: Ts)
theorem RulesIn.mono {w : World} {l l' : List (Addr × Obj)} {vs : List Value} {Ts : List (Tm × Tm)} (h : ∀ p ∈ l, p ∈ l') (r : RulesIn w l vs Ts) : RulesIn w l' vs Ts := by
  induction r with
  | nil => exact .nil
  | cons a _ ih => exact .cons (a.mono h) ih
theorem RulesIn.app {w : World} {l : List (Addr × Obj)} : ∀ {vs vs' : List Value} {Ts Ts' : List (Tm × Tm)}, RulesIn w l vs Ts → RulesIn w l vs' Ts' → RulesIn w l (vs ++ vs') (Ts ++ Ts')
  | _, _, _, _, .nil, h => h
  | _, _, _, _, .cons a r, h => .cons a (r.app h)
theorem RulesIn.len {w : World} {l : List (Addr × Obj)} : ∀ {vs : List Value} {Ts : List (Tm × Tm)}, RulesIn w l vs Ts → vs.length = Ts.length
  | _, _, .nil => rfl
  | _, _, .cons _ r => congrArg (· + 1) r.len
theorem rule_use {w : World} {dp un : Nat} {gd : Option (List Code)} {cn : Str} {cs : Scope} {a : Addr} {ccd : Value} {cl : List (Str × Addr)} {outer : List Env} {A₀ : Around} {base h₀ : Heap} {L : Addr} {m : Str → Option Value} {s : Shared} {loose : List Str} {mean : ExcName → Option Value} {mg mb : Str → Option Value}
    {Q E : Value → Shared → Prop} {news : List (Addr × Obj)} {vl vr : Value} {nm : Str} {tn : Tok} {nd : Addr} (Tl Tr : Tm)
    (hTl : Tm.In news vl Tl) (hTr : Tm.In news vr Tr) (hnd : (nd, tupO #[]) ∈ news)
    (hvl : Tl.VOk) (hvr : Tr.VOk) (hvar : VarSays Tl false) (hsub : ∀ x ∈ Tr.vars, x ∈ Tl.vars) (hzl : Tl.h ≤ 20) (hzr : Tr.h ≤ 20)
    (B : Below A₀ base outer h₀) (F : Fr h₀ L s.heap m) (X : (hd.heap_1 w.params).In h₀)
    (N : News h₀ L s.heap news) (T : Top view loose mean mg mb h₀) (hk : cs.kind = .function)
    (hd : dp + 40 < recursionLimit) (hu : un + 2000 < cLine)
    (ret : ∀ v rest h' d' tk', Fr h₀ L h' m → News h₀ L h' rest → (∀ p ∈ news, p ∈ rest) → RuleIn w rest v Tl Tr → Q v { s with heap := h', drawn := d', toks := tk' }) :
    wpAny (model PySem.Challenge.rw_pq0025_01.row.prog w) (ktrTop dp un gd cn cs L a ccd cl outer) (call (.ref 118) [.str nm tn, vl, vr, .ref nd]) Q E s :=
  rule_says (l := news) hvl hvr hvar hsub hzl hzr (fun _ h => h) B F X N T hk hTl hTr hnd hd hu fun x dx k h' d' tk' t1 t2 t3 t4 F' N' _ =>
    ret (.ref x) _ h' d' tk' F' N' (fun p hp => .tail _ (.tail _ hp)) ⟨x, dx, k, vl, vr, nm, tn, .ref nd, t1, t2, t3, t4, rfl, .head _, .tail _ (.head _), hTl.mono fun p hp => .tail _ (.tail _ hp), hTr.mono fun p hp => .tail _ (.tail _ hp)⟩
abbrev vA : Tm := .leaf (Str.ofString "?a")
abbrev vB : Tm := .leaf (Str.ofString "?b")
abbrev vC : Tm := .leaf (Str.ofString "?c")
theorem vok_a : vA.VOk := vsay_eq (by decide +kernel) var_a
theorem vok_b : vB.VOk := vsay_eq (by decide +kernel) var_b
theorem vok_c : vC.VOk := vsay_eq (by decide +kernel) var_c
abbrev un? (o : Bool) : Str := if o then Str.ofString "0" else Str.ofString "1"
theorem vok_un (o : Bool) : (Tm.leaf (un? o)).VOk := by
  cases o
  · exact vsay_eq (by decide +kernel) var_1
  · exact vsay_eq (by decide +kernel) var_0
def lawsOf (o : Bool) : List (Tm × Tm) := [(.bin o vA vB, .bin o vB vA), (.bin o (.bin o vA vB) vC, .bin o vA (.bin o vB vC)), (.bin o vA (.leaf (un? o)), vA)]
theorem vars_a : vA.vars = [Str.ofString "?a"] := by decide +kernel
theorem vars_b : vB.vars = [Str.ofString "?b"] := by decide +kernel
theorem vars_c : vC.vars = [Str.ofString "?c"] := by decide +kernel
theorem vars_un (o : Bool) : (Tm.leaf (un? o)).vars = [] := by cases o <;> decide +kernel
theorem vars_bin (o : Bool) (x y : Tm) : (Tm.bin o x y).vars = x.vars ++ y.vars := by
  have h : Tm.v? (.bin o x y) = none := rfl
  simp [Tm.vars, Tm.subs, List.filterMap_cons, h]
theorem vars_neg (x : Tm) : (Tm.neg x).vars = x.vars := by
  have h : Tm.v? (.neg x) = none := rfl
  simp [Tm.vars, Tm.subs, List.filterMap_cons, h]
end Mine
end

theorem Mine.reset_R2 : True := by
  w_top off
  k_with_none
  exact trivial
section
open PySem PySem.W PyProof.Rows PySem.Calls PyProof.V
set_option maxRecDepth 100000
set_option maxHeartbeats 800000
namespace Mine
theorem words_R2_1 : True := by
  w_top off
  k_with_none
  (k_with "k_ne" => (refine neN ?_; (try dsimp only); first | assumption | exact Ne.symm (by assumption) | exact Nat.ne_of_gt (by assumption) | exact Nat.ne_of_lt (by assumption) | (refine' Nat.ne_of_gt ?_; iterate 6 (try (first | exact Nat.lt_succ_self _ | refine' Nat.lt_succ_of_lt ?_)); done) | (refine' Nat.ne_of_lt ?_; iterate 6 (try (first | exact Nat.lt_succ_self _ | refine' Nat.lt_succ_of_lt ?_)); done) | exact Nat.ne_of_gt (And.left (by assumption)) | exact Nat.ne_of_lt (And.left (by assumption)) | exact Nat.ne_of_gt (And.left (And.right (by assumption))) | exact Nat.ne_of_gt (And.right (by assumption)) | exact Nat.ne_of_lt (And.left (And.right (by assumption))) | exact Nat.ne_of_lt (And.right (by assumption)) | exact Nat.ne_of_gt (And.left (And.right (And.right (by assumption)))) | exact Nat.ne_of_gt (And.right (And.right (by assumption))) | exact Nat.ne_of_lt (And.left (And.right (And.right (by assumption)))) | exact Nat.ne_of_lt (And.right (And.right (by assumption))) | exact Nat.ne_of_gt (And.left (And.right (And.right (And.right (by assumption))))) | exact Nat.ne_of_gt (And.right (And.right (And.right (by assumption)))) | exact Nat.ne_of_lt (And.left (And.right (And.right (And.right (by assumption))))) | exact Nat.ne_of_lt (And.right (And.right (And.right (by assumption)))) | exact Nat.ne_of_gt (And.left (And.right (And.right (And.right (And.right (by assumption)))))) | exact Nat.ne_of_gt (And.right (And.right (And.right (And.right (by assumption))))) | exact Nat.ne_of_lt (And.left (And.right (And.right (And.right (And.right (by assumption)))))) | exact Nat.ne_of_lt (And.right (And.right (And.right (And.right (by assumption))))) | exact Nat.ne_of_gt (And.left (And.right (And.right (And.right (And.right (And.right (by assumption))))))) | exact Nat.ne_of_gt (And.right (And.right (And.right (And.right (And.right (by assumption)))))) | exact Nat.ne_of_lt (And.left (And.right (And.right (And.right (And.right (And.right (by assumption))))))) | exact Nat.ne_of_lt (And.right (And.right (And.right (And.right (And.right (by assumption)))))) | exact Nat.ne_of_gt (And.left (And.right (And.right (And.right (And.right (And.right (And.right (by assumption)))))))) | exact Nat.ne_of_gt (And.right (And.right (And.right (And.right (And.right (And.right (by assumption))))))) | exact Nat.ne_of_lt (And.left (And.right (And.right (And.right (And.right (And.right (And.right (by assumption)))))))) | exact Nat.ne_of_lt (And.right (And.right (And.right (And.right (And.right (And.right (by assumption)))))))))
  (k_with "eval Call" => k_fold)
  (k_with "execs cons" => (k_here; (with_reducible refine gen_toks ?_); intro tkq))
  (k_with "execs nil" => (k_here; (with_reducible refine gen_toks ?_); intro tkq))
  (k_with "call ref" => (k_here; (with_reducible show wpAny _ _ (call (Value.ref 118) _) _ _ _); (refine StopHere.mk ?_)))
  exact trivial
theorem laws_says (o : Bool) {w : World} {dp un : Nat} {gd : Option (List Code)} {cn : Str} {cs : Scope} {a : Addr} {ccd : Value} {cl : List (Str × Addr)} {outer : List Env} {A₀ : Around} {base h₀ : Heap} {L : Addr} {m : Str → Option Value} {s : Shared} {loose : List Str} {mean : ExcName → Option Value} {mg mb : Str → Option Value}
    {Q E : Value → Shared → Prop} {news : List (Addr × Obj)} {t1 t2 : Tok}
    (B : Below A₀ base outer h₀) (F : Fr h₀ L s.heap m) (X : (hd.heap_1 w.params).In h₀)
    (N : News h₀ L s.heap news) (T : Top view loose mean mg mb h₀) (hk : cs.kind = .function)
    (hd : dp + 50 < recursionLimit) (hu : un + 3000 < cLine)
    (ret : ∀ D vs rest h' d' tk', Fr h₀ L h' m → News h₀ L h' ((D, listOf (List.toArray vs) 0) :: rest) → (∀ p ∈ news, p ∈ rest) → RulesIn w rest vs (lawsOf o) → Q (.ref D) { s with heap := h', drawn := d', toks := tk' }) :
    wpAny (model PySem.Challenge.rw_pq0025_01.row.prog w) (ktrTop dp un gd cn cs L a ccd cl outer) (call (.ref 143) [.str (opS o) t1, .str (un? o) t2]) Q E s := by
  (revert X; k_fill; intro X)
  cases o
  all_goals (
    refine wpAny_call ?_
    k_dflt ktr_enter
    (all_goals try k_fold)
    k_steps
    refine' StopHere.go (rule_use (.bin _ vA vB) (.bin _ vB vA) ?hTl1 ?hTr1 ?hnd1 ?vl1 ?vr1 ?var1 ?hs1 ?z11 ?z21 ?B1 ?F1 ?X1 ?N1 ?T1 ?hk1 ?hd1 ?hu1 ?_)
    case N1 => k_asm
    case F1 => k_asm
    case B1 => k_asm
    case X1 => k_asm
    case T1 => k_asm
    case hk1 => exact rfl
    case hTl1 => exact .bin (by repeat (first | exact List.Mem.head _ | assumption | refine List.Mem.tail _ ?_)) .va .vb
    case hTr1 => exact .bin (by repeat (first | exact List.Mem.head _ | assumption | refine List.Mem.tail _ ?_)) .vb .va
    case hnd1 => (repeat (first | exact List.Mem.head _ | assumption | refine List.Mem.tail _ ?_))
    case vl1 => exact ⟨vok_a, vok_b⟩
    case vr1 => exact ⟨vok_b, vok_a⟩
    case var1 => exact var_bin _ _ _
    case hs1 => (intro x hx; simp only [vars_bin, vars_neg, vars_a, vars_b, vars_c, vars_un, List.mem_append, List.mem_cons, List.not_mem_nil, or_false, false_or] at hx ⊢; first | exact hx | exact hx.symm | (rcases hx with h | h | h <;> simp [h]) | (rcases hx with h | h <;> simp [h]))
    case z11 => (simp only [Tm.h]; omega)
    case z21 => (simp only [Tm.h]; omega)
    case hd1 => ktr_room
    case hu1 => ktr_units
    intro v1 rest1 h1 d1 tk1 F1 N1 sub1 R1
    k_steps
    refine' StopHere.go (rule_use (.bin _ (.bin _ vA vB) vC) (.bin _ vA (.bin _ vB vC)) ?hTl2 ?hTr2 ?hnd2 ?vl2 ?vr2 ?var2 ?hs2 ?z12 ?z22 ?B2 ?F2 ?X2 ?N2 ?T2 ?hk2 ?hd2 ?hu2 ?_)
    case N2 => k_asm
    case F2 => k_asm
    case B2 => k_asm
    case X2 => k_asm
    case T2 => k_asm
    case hk2 => exact rfl
    case hTl2 => exact .bin (by repeat (first | exact List.Mem.head _ | assumption | refine List.Mem.tail _ ?_)) (.bin (by repeat (first | exact List.Mem.head _ | assumption | refine List.Mem.tail _ ?_)) .va .vb) .vc
    case hTr2 => exact .bin (by repeat (first | exact List.Mem.head _ | assumption | refine List.Mem.tail _ ?_)) .va (.bin (by repeat (first | exact List.Mem.head _ | assumption | refine List.Mem.tail _ ?_)) .vb .vc)
    case hnd2 => (repeat (first | exact List.Mem.head _ | assumption | refine List.Mem.tail _ ?_))
    case vl2 => exact ⟨⟨vok_a, vok_b⟩, vok_c⟩
    case vr2 => exact ⟨vok_a, vok_b, vok_c⟩
    case var2 => exact var_bin _ _ _
    case hs2 => (intro x hx; simp only [vars_bin, vars_neg, vars_a, vars_b, vars_c, vars_un, List.mem_append, List.mem_cons, List.not_mem_nil, or_false, false_or] at hx ⊢; first | exact hx | exact hx.symm | (rcases hx with h | h | h <;> simp [h]) | (rcases hx with h | h <;> simp [h]))
    case z12 => (simp only [Tm.h]; omega)
    case z22 => (simp only [Tm.h]; omega)
    case hd2 => ktr_room
    case hu2 => ktr_units
    intro v2 rest2 h2 d2 tk2 F2 N2 sub2 R2
    k_steps
    refine' StopHere.go (rule_use (.bin _ vA (.leaf (un? _))) (vA) ?hTl3 ?hTr3 ?hnd3 ?vl3 ?vr3 ?var3 ?hs3 ?z13 ?z23 ?B3 ?F3 ?X3 ?N3 ?T3 ?hk3 ?hd3 ?hu3 ?_)
    case N3 => k_asm
    case F3 => k_asm
    case B3 => k_asm
    case X3 => k_asm
    case T3 => k_asm
    case hk3 => exact rfl
    case hTl3 => exact .bin (by repeat (first | exact List.Mem.head _ | assumption | refine List.Mem.tail _ ?_)) .va (.leaf (by repeat (first | exact List.Mem.head _ | assumption | refine List.Mem.tail _ ?_)))
    case hTr3 => exact .va
    case hnd3 => (repeat (first | exact List.Mem.head _ | assumption | refine List.Mem.tail _ ?_))
    case vl3 => exact ⟨vok_a, vok_un _⟩
    case vr3 => exact vok_a
    case var3 => exact var_bin _ _ _
    case hs3 => (intro x hx; simp only [vars_bin, vars_neg, vars_a, vars_b, vars_c, vars_un, List.mem_append, List.mem_cons, List.not_mem_nil, or_false, false_or] at hx ⊢; first | exact hx | exact hx.symm | (rcases hx with h | h | h <;> simp [h]) | (rcases hx with h | h <;> simp [h]))
    case z13 => (simp only [Tm.h]; omega)
    case z23 => (simp only [Tm.h]; omega)
    case hd3 => ktr_room
    case hu3 => ktr_units
    intro v3 rest3 h3 d3 tk3 F3 N3 sub3 R3
    k_steps
    have s1 : ∀ p ∈ news, p ∈ rest1 := fun p hp => sub1 p (by repeat (first | exact hp | refine List.Mem.tail _ ?_))
    have s2 : ∀ p ∈ rest1, p ∈ rest2 := fun p hp => sub2 p (by repeat (first | exact hp | refine List.Mem.tail _ ?_))
    have s3 : ∀ p ∈ rest2, p ∈ rest3 := fun p hp => sub3 p (by repeat (first | exact hp | refine List.Mem.tail _ ?_))
    exact ret _ [v1, v2, v3] rest3 _ _ _ (by k_asm) (by k_asm) (fun p hp => s3 p (s2 p (s1 p hp))) (.cons (R1.mono fun p hp => s3 p (s2 p hp)) (.cons (R2.mono s3) (.cons R3 .nil))))
end Mine
end

theorem Mine.reset_R3 : True := by
  w_top off
  k_with_none
  exact trivial
section
open PySem PySem.W PyProof.Rows PySem.Calls PyProof.V
set_option maxRecDepth 100000
set_option maxHeartbeats 800000
namespace Mine
abbrev nTxt (n : Int) : Str := Str.ofString (toString n)
abbrev z0 : Tm := .leaf (Str.ofString "0")
def ringRules (n : Int) : List (Tm × Tm) := lawsOf true ++ lawsOf false ++ [(.bin true vA (.neg vA), z0), (.neg (.neg vA), vA), (.bin false (.neg vA) vB, .neg (.bin false vA vB)), (.bin false vA z0, z0),
  (.bin false vA (.bin true vB vC), .bin true (.bin false vA vB) (.bin false vA vC)), (.bin true (.bin false vA vB) (.bin false vA vC), .bin false vA (.bin true vB vC)), (.leaf (nTxt n), z0)]
def RingN (n : Int) : Prop := n = 1 ∨ n = 2 ∨ n = 3 ∨ n = 5 ∨ n = 12 ∨ n = 1000000007
theorem RingN.pos {n : Int} (h : RingN n) : 0 < n := by unfold RingN at h; omega
theorem RingN.le {n : Int} (h : RingN n) : n ≤ 1000000007 := by unfold RingN at h; omega
theorem tx1 : nTxt 1 = Str.ofString "1" := by decide +kernel
theorem tx2 : nTxt 2 = Str.ofString "2" := by decide +kernel
theorem tx3 : nTxt 3 = Str.ofString "3" := by decide +kernel
theorem tx5 : nTxt 5 = Str.ofString "5" := by decide +kernel
theorem tx12 : nTxt 12 = Str.ofString "12" := by decide +kernel
theorem txbig : nTxt 1000000007 = Str.ofString "1000000007" := by decide +kernel
theorem nsay {n : Int} (h : RingN n) : VarSays (.leaf (nTxt n)) false := by
  rcases h with rfl | rfl | rfl | rfl | rfl | rfl
  · rw [tx1]; exact @var_1
  · rw [tx2]; exact @var_2
  · rw [tx3]; exact @var_3
  · rw [tx5]; exact @var_5
  · rw [tx12]; exact @var_12
  · rw [txbig]; exact @var_big
theorem nvar {n : Int} (h : RingN n) : nTxt n ∉ varTexts := by
  rcases h with rfl | rfl | rfl | rfl | rfl | rfl <;> decide +kernel
theorem nvok {n : Int} (h : RingN n) : (Tm.leaf (nTxt n)).VOk := vsay_eq (decide_eq_false (nvar h)).symm (nsay h)
theorem vok_z : z0.VOk := vok_un true
theorem vars_z : z0.vars = [] := vars_un true
theorem catL {prog : Program} {w : World} {A : Around} {E : Value → Shared → Prop} {s : Shared} {h₀ : Heap} {L : Addr} {m : Str → Option Value} {a b : Addr} {xs ys : List Value} {na nb : Nat} {news : List (Addr × Obj)} {Q : Value → Shared → Prop} (F : Fr h₀ L s.heap m) (N : News h₀ L s.heap news)
    (ha : (a, listOf xs.toArray na) ∈ news) (hb : (b, listOf ys.toArray nb) ∈ news) (hz : xs.length + ys.length ≤ 1000)
    (ret : ∀ D h', Fr h₀ L h' m → News h₀ L h' ((D, listOf (xs ++ ys).toArray 0) :: news) → Q (.ref D) { s with heap := h' }) : wpAny (model prog w) A (binaryOp .Add (.ref a) (.ref b)) Q E s :=
  add_lists F N (N.isList ha) (N.isList hb) (fun h' F' N' => ret _ h' F' N') (by rw [sizeLine_eq]; omega)
theorem words_R3_1 : True := by
  w_top off
  k_with_none
  (k_with "k_ne" => (refine neN ?_; (try dsimp only); first | assumption | exact Ne.symm (by assumption) | exact Nat.ne_of_gt (by assumption) | exact Nat.ne_of_lt (by assumption) | (refine' Nat.ne_of_gt ?_; iterate 6 (try (first | exact Nat.lt_succ_self _ | refine' Nat.lt_succ_of_lt ?_)); done) | (refine' Nat.ne_of_lt ?_; iterate 6 (try (first | exact Nat.lt_succ_self _ | refine' Nat.lt_succ_of_lt ?_)); done) | exact Nat.ne_of_gt (And.left (by assumption)) | exact Nat.ne_of_lt (And.left (by assumption)) | exact Nat.ne_of_gt (And.left (And.right (by assumption))) | exact Nat.ne_of_gt (And.right (by assumption)) | exact Nat.ne_of_lt (And.left (And.right (by assumption))) | exact Nat.ne_of_lt (And.right (by assumption)) | exact Nat.ne_of_gt (And.left (And.right (And.right (by assumption)))) | exact Nat.ne_of_gt (And.right (And.right (by assumption))) | exact Nat.ne_of_lt (And.left (And.right (And.right (by assumption)))) | exact Nat.ne_of_lt (And.right (And.right (by assumption))) | exact Nat.ne_of_gt (And.left (And.right (And.right (And.right (by assumption))))) | exact Nat.ne_of_gt (And.right (And.right (And.right (by assumption)))) | exact Nat.ne_of_lt (And.left (And.right (And.right (And.right (by assumption))))) | exact Nat.ne_of_lt (And.right (And.right (And.right (by assumption)))) | exact Nat.ne_of_gt (And.left (And.right (And.right (And.right (And.right (by assumption)))))) | exact Nat.ne_of_gt (And.right (And.right (And.right (And.right (by assumption))))) | exact Nat.ne_of_lt (And.left (And.right (And.right (And.right (And.right (by assumption)))))) | exact Nat.ne_of_lt (And.right (And.right (And.right (And.right (by assumption))))) | exact Nat.ne_of_gt (And.left (And.right (And.right (And.right (And.right (And.right (by assumption))))))) | exact Nat.ne_of_gt (And.right (And.right (And.right (And.right (And.right (by assumption)))))) | exact Nat.ne_of_lt (And.left (And.right (And.right (And.right (And.right (And.right (by assumption))))))) | exact Nat.ne_of_lt (And.right (And.right (And.right (And.right (And.right (by assumption)))))) | exact Nat.ne_of_gt (And.left (And.right (And.right (And.right (And.right (And.right (And.right (by assumption)))))))) | exact Nat.ne_of_gt (And.right (And.right (And.right (And.right (And.right (And.right (by assumption))))))) | exact Nat.ne_of_lt (And.left (And.right (And.right (And.right (And.right (And.right (And.right (by assumption)))))))) | exact Nat.ne_of_lt (And.right (And.right (And.right (And.right (And.right (And.right (by assumption)))))))))
  (k_with "eval Call" => k_fold)
  (k_with "execs cons" => (k_here; (with_reducible refine gen_toks ?_); intro tkq))
  (k_with "execs nil" => (k_here; (with_reducible refine gen_toks ?_); intro tkq))
  (k_with "call ref" => (k_here; (with_reducible show wpAny _ _ (call (Value.ref 118) _) _ _ _); (refine StopHere.mk ?_)))
  (k_with "call ref" => (k_here; (with_reducible show wpAny _ _ (call (Value.ref 143) _) _ _ _); (refine StopHere.mk ?_)))
  (k_with "binaryOp Add ref ref" => (k_here; (with_reducible show wpAny _ _ (binaryOp _ (Value.ref _) (Value.ref _)) _ _ _); (refine StopHere.mk ?_)))
  exact trivial
theorem rules_says {w : World} {dp un : Nat} {gd : Option (List Code)} {cn : Str} {cs : Scope} {a : Addr} {ccd : Value} {cl : List (Str × Addr)} {outer : List Env} {A₀ : Around} {base h₀ : Heap} {L : Addr} {m : Str → Option Value} {s : Shared} {loose : List Str} {mean : ExcName → Option Value} {mg mb : Str → Option Value}
    {Q E : Value → Shared → Prop} {news : List (Addr × Obj)} {rg : Addr} {n : Int}
    (hn : RingN n)
    (B : Below A₀ base outer h₀) (F : Fr h₀ L s.heap m) (X : (hd.heap_1 w.params).In h₀)
    (N : News h₀ L s.heap news) (T : Top view loose mean mg mb h₀) (hk : cs.kind = .function) (hr : RingIn w news rg n)
    (hd : dp + 60 < recursionLimit) (hu : un + 4000 < cLine)
    (ret : ∀ D vs rest h' d' tk', Fr h₀ L h' m → News h₀ L h' ((D, listOf (List.toArray vs) 0) :: rest) → (∀ p ∈ news, p ∈ rest) → RulesIn w rest vs (ringRules n) → Q (.ref D) { s with heap := h', drawn := d', toks := tk' }) :
    wpAny (model PySem.Challenge.rw_pq0025_01.row.prog w) (ktrTop dp un gd cn cs L a ccd cl outer) (call (.ref 164) [.ref rg]) Q E s := by
  have hn0 := hn.pos
  have hn1 := hn.le
  (revert X; k_fill; intro X)
  have hrr := hr
  obtain ⟨dx, t, tn, k, hr1, hr2⟩ := hr
  refine wpAny_call ?_
  k_dflt ktr_enter
  (all_goals try k_fold)
  k_steps
  refine' StopHere.go (laws_says true ?B1 ?F1 ?X1 ?N1 ?T1 ?hk1 ?hd1 ?hu1 ?_)
  case N1 => k_asm
  case F1 => k_asm
  case B1 => k_asm
  case X1 => k_asm
  case T1 => k_asm
  case hk1 => exact rfl
  case hd1 => ktr_room
  case hu1 => ktr_units
  intro D1 vs1 rest1 h1 d1 tk1 F1 N1 sub1 R1
  have hz1 := sub1 _ (.head _)
  have s1 : ∀ p ∈ news, p ∈ rest1 := fun p hp => sub1 p (.tail _ hp)
  clear sub1
  k_steps
  refine' StopHere.go (laws_says false ?B2 ?F2 ?X2 ?N2 ?T2 ?hk2 ?hd2 ?hu2 ?_)
  case N2 => k_asm
  case F2 => k_asm
  case B2 => k_asm
  case X2 => k_asm
  case T2 => k_asm
  case hk2 => exact rfl
  case hd2 => ktr_room
  case hu2 => ktr_units
  intro D2 vs2 rest2 h2 d2 tk2 F2 N2 sub2 R2
  have hz2 := sub2 _ (.tail _ hz1)
  have hs2 := sub2 _ (.head _)
  have s2 : ∀ p ∈ rest1, p ∈ rest2 := fun p hp => sub2 p (.tail _ hp)
  clear sub2
  k_steps
  refine' StopHere.go (catL F2 N2 (.tail _ hs2) (.head _) (by rw [R1.len, R2.len]; decide) ?_)
  intro D9 hA FA NA
  have R12 := (R1.mono s2).app R2
  obtain ⟨rest3, e3⟩ : ∃ r, (D9, listOf (vs1 ++ vs2).toArray 0) :: (D2, listOf vs2.toArray 0) :: rest2 = r := ⟨_, rfl⟩
  rw [e3] at NA
  have i3 : ∀ p ∈ rest2, p ∈ rest3 := fun p hp => e3 ▸ .tail _ (.tail _ hp)
  have hz3 := i3 _ hz2
  have hs3 : (D9, listOf (vs1 ++ vs2).toArray 0) ∈ rest3 := e3 ▸ .head _
  have R12' := R12.mono i3
  have s3 : ∀ p ∈ news, p ∈ rest3 := fun p hp => i3 p (s2 p (s1 p hp))
  clear hz1 hz2 hs2 N2 F2 N1 F1 e3
  k_steps
  refine' StopHere.go (rule_use (.bin true vA (.neg vA)) (z0) ?hTl4 ?hTr4 ?hnd4 ?vl4 ?vr4 ?var4 ?hs4 ?z14 ?z24 ?B4 ?F4 ?X4 ?N4 ?T4 ?hk4 ?hd4 ?hu4 ?_)
  case N4 => k_asm
  case F4 => k_asm
  case B4 => k_asm
  case X4 => k_asm
  case T4 => k_asm
  case hk4 => exact rfl
  case hd4 => ktr_room
  case hu4 => ktr_units
  case hTl4 => exact .bin (by repeat (first | exact List.Mem.head _ | assumption | refine List.Mem.tail _ ?_)) .va (.neg (by repeat (first | exact List.Mem.head _ | assumption | refine List.Mem.tail _ ?_)) .va)
  case hTr4 => exact .leaf (by repeat (first | exact List.Mem.head _ | assumption | refine List.Mem.tail _ ?_))
  case hnd4 => (repeat (first | exact List.Mem.head _ | assumption | refine List.Mem.tail _ ?_))
  case vl4 => exact ⟨vok_a, vok_a⟩
  case vr4 => exact vok_z
  case var4 => exact var_bin _ _ _
  case hs4 => (intro x hx; simp only [vars_bin, vars_neg, vars_a, vars_b, vars_c, vars_z, List.mem_append, List.mem_cons, List.not_mem_nil, or_false, false_or] at hx ⊢ <;> first | exact hx | exact hx.symm | (rcases hx with (h | h) | h | h <;> simp [h]) | (rcases hx with h | h | h | h <;> simp [h]) | (rcases hx with h | h | h <;> simp [h]) | (rcases hx with h | h <;> simp [h]))
  case z14 => (simp only [Tm.h]; omega)
  case z24 => (simp only [Tm.h]; omega)
  intro v4 rest4 h4 d4 tk4 F4 N4 sub4 R4
  have s4 : ∀ p ∈ rest3, p ∈ rest4 := fun p hp => sub4 p (by repeat (first | exact hp | refine List.Mem.tail _ ?_))
  have hz4 := s4 _ hz3
  have hs4 := s4 _ hs3
  clear sub4
  k_steps
  refine' StopHere.go (rule_use (.neg (.neg vA)) (vA) ?hTl5 ?hTr5 ?hnd5 ?vl5 ?vr5 ?var5 ?hs5 ?z15 ?z25 ?B5 ?F5 ?X5 ?N5 ?T5 ?hk5 ?hd5 ?hu5 ?_)
  case N5 => k_asm
  case F5 => k_asm
  case B5 => k_asm
  case X5 => k_asm
  case T5 => k_asm
  case hk5 => exact rfl
  case hd5 => ktr_room
  case hu5 => ktr_units
  case hTl5 => exact .neg (by repeat (first | exact List.Mem.head _ | assumption | refine List.Mem.tail _ ?_)) (.neg (by repeat (first | exact List.Mem.head _ | assumption | refine List.Mem.tail _ ?_)) .va)
  case hTr5 => exact .va
  case hnd5 => (repeat (first | exact List.Mem.head _ | assumption | refine List.Mem.tail _ ?_))
  case vl5 => exact vok_a
  case vr5 => exact vok_a
  case var5 => exact var_neg _
  case hs5 => (intro x hx; simp only [vars_bin, vars_neg, vars_a, vars_b, vars_c, vars_z, List.mem_append, List.mem_cons, List.not_mem_nil, or_false, false_or] at hx ⊢ <;> first | exact hx | exact hx.symm | (rcases hx with (h | h) | h | h <;> simp [h]) | (rcases hx with h | h | h | h <;> simp [h]) | (rcases hx with h | h | h <;> simp [h]) | (rcases hx with h | h <;> simp [h]))
  case z15 => (simp only [Tm.h]; omega)
  case z25 => (simp only [Tm.h]; omega)
  intro v5 rest5 h5 d5 tk5 F5 N5 sub5 R5
  have s5 : ∀ p ∈ rest4, p ∈ rest5 := fun p hp => sub5 p (by repeat (first | exact hp | refine List.Mem.tail _ ?_))
  have hz5 := s5 _ hz4
  have hs5 := s5 _ hs4
  clear sub5
  k_steps
  refine' StopHere.go (rule_use (.bin false (.neg vA) vB) (.neg (.bin false vA vB)) ?hTl6 ?hTr6 ?hnd6 ?vl6 ?vr6 ?var6 ?hs6 ?z16 ?z26 ?B6 ?F6 ?X6 ?N6 ?T6 ?hk6 ?hd6 ?hu6 ?_)
  case N6 => k_asm
  case F6 => k_asm
  case B6 => k_asm
  case X6 => k_asm
  case T6 => k_asm
  case hk6 => exact rfl
  case hd6 => ktr_room
  case hu6 => ktr_units
  case hTl6 => exact .bin (by repeat (first | exact List.Mem.head _ | assumption | refine List.Mem.tail _ ?_)) (.neg (by repeat (first | exact List.Mem.head _ | assumption | refine List.Mem.tail _ ?_)) .va) .vb
  case hTr6 => exact .neg (by repeat (first | exact List.Mem.head _ | assumption | refine List.Mem.tail _ ?_)) (.bin (by repeat (first | exact List.Mem.head _ | assumption | refine List.Mem.tail _ ?_)) .va .vb)
  case hnd6 => (repeat (first | exact List.Mem.head _ | assumption | refine List.Mem.tail _ ?_))
  case vl6 => exact ⟨vok_a, vok_b⟩
  case vr6 => exact ⟨vok_a, vok_b⟩
  case var6 => exact var_bin _ _ _
  case hs6 => (intro x hx; simp only [vars_bin, vars_neg, vars_a, vars_b, vars_c, vars_z, List.mem_append, List.mem_cons, List.not_mem_nil, or_false, false_or] at hx ⊢ <;> first | exact hx | exact hx.symm | (rcases hx with (h | h) | h | h <;> simp [h]) | (rcases hx with h | h | h | h <;> simp [h]) | (rcases hx with h | h | h <;> simp [h]) | (rcases hx with h | h <;> simp [h]))
  case z16 => (simp only [Tm.h]; omega)
  case z26 => (simp only [Tm.h]; omega)
  intro v6 rest6 h6 d6 tk6 F6 N6 sub6 R6
  have s6 : ∀ p ∈ rest5, p ∈ rest6 := fun p hp => sub6 p (by repeat (first | exact hp | refine List.Mem.tail _ ?_))
  have hz6 := s6 _ hz5
  have hs6 := s6 _ hs5
  clear sub6
  k_steps
  refine' StopHere.go (rule_use (.bin false vA z0) (z0) ?hTl7 ?hTr7 ?hnd7 ?vl7 ?vr7 ?var7 ?hs7 ?z17 ?z27 ?B7 ?F7 ?X7 ?N7 ?T7 ?hk7 ?hd7 ?hu7 ?_)
  case N7 => k_asm
  case F7 => k_asm
  case B7 => k_asm
  case X7 => k_asm
  case T7 => k_asm
  case hk7 => exact rfl
  case hd7 => ktr_room
  case hu7 => ktr_units
  case hTl7 => exact .bin (by repeat (first | exact List.Mem.head _ | assumption | refine List.Mem.tail _ ?_)) .va (.leaf (by repeat (first | exact List.Mem.head _ | assumption | refine List.Mem.tail _ ?_)))
  case hTr7 => exact .leaf (by repeat (first | exact List.Mem.head _ | assumption | refine List.Mem.tail _ ?_))
  case hnd7 => (repeat (first | exact List.Mem.head _ | assumption | refine List.Mem.tail _ ?_))
  case vl7 => exact ⟨vok_a, vok_z⟩
  case vr7 => exact vok_z
  case var7 => exact var_bin _ _ _
  case hs7 => (intro x hx; simp only [vars_bin, vars_neg, vars_a, vars_b, vars_c, vars_z, List.mem_append, List.mem_cons, List.not_mem_nil, or_false, false_or] at hx ⊢ <;> first | exact hx | exact hx.symm | (rcases hx with (h | h) | h | h <;> simp [h]) | (rcases hx with h | h | h | h <;> simp [h]) | (rcases hx with h | h | h <;> simp [h]) | (rcases hx with h | h <;> simp [h]))
  case z17 => (simp only [Tm.h]; omega)
  case z27 => (simp only [Tm.h]; omega)
  intro v7 rest7 h7 d7 tk7 F7 N7 sub7 R7
  have s7 : ∀ p ∈ rest6, p ∈ rest7 := fun p hp => sub7 p (by repeat (first | exact hp | refine List.Mem.tail _ ?_))
  have hz7 := s7 _ hz6
  have hs7 := s7 _ hs6
  clear sub7
  k_steps
  refine' StopHere.go (rule_use (.bin false vA (.bin true vB vC)) (.bin true (.bin false vA vB) (.bin false vA vC)) ?hTl8 ?hTr8 ?hnd8 ?vl8 ?vr8 ?var8 ?hs8 ?z18 ?z28 ?B8 ?F8 ?X8 ?N8 ?T8 ?hk8 ?hd8 ?hu8 ?_)
  case N8 => k_asm
  case F8 => k_asm
  case B8 => k_asm
  case X8 => k_asm
  case T8 => k_asm
  case hk8 => exact rfl
  case hd8 => ktr_room
  case hu8 => ktr_units
  case hTl8 => exact .bin (by repeat (first | exact List.Mem.head _ | assumption | refine List.Mem.tail _ ?_)) .va (.bin (by repeat (first | exact List.Mem.head _ | assumption | refine List.Mem.tail _ ?_)) .vb .vc)
  case hTr8 => exact .bin (by repeat (first | exact List.Mem.head _ | assumption | refine List.Mem.tail _ ?_)) (.bin (by repeat (first | exact List.Mem.head _ | assumption | refine List.Mem.tail _ ?_)) .va .vb) (.bin (by repeat (first | exact List.Mem.head _ | assumption | refine List.Mem.tail _ ?_)) .va .vc)
  case hnd8 => (repeat (first | exact List.Mem.head _ | assumption | refine List.Mem.tail _ ?_))
  case vl8 => exact ⟨vok_a, vok_b, vok_c⟩
  case vr8 => exact ⟨⟨vok_a, vok_b⟩, vok_a, vok_c⟩
  case var8 => exact var_bin _ _ _
  case hs8 => (intro x hx; simp only [vars_bin, vars_neg, vars_a, vars_b, vars_c, vars_z, List.mem_append, List.mem_cons, List.not_mem_nil, or_false, false_or] at hx ⊢ <;> first | exact hx | exact hx.symm | (rcases hx with (h | h) | h | h <;> simp [h]) | (rcases hx with h | h | h | h <;> simp [h]) | (rcases hx with h | h | h <;> simp [h]) | (rcases hx with h | h <;> simp [h]))
  case z18 => (simp only [Tm.h]; omega)
  case z28 => (simp only [Tm.h]; omega)
  intro v8 rest8 h8 d8 tk8 F8 N8 sub8 R8
  have s8 : ∀ p ∈ rest7, p ∈ rest8 := fun p hp => sub8 p (by repeat (first | exact hp | refine List.Mem.tail _ ?_))
  have hz8 := s8 _ hz7
  have hs8 := s8 _ hs7
  clear sub8
  k_steps
  refine' StopHere.go (rule_use (.bin true (.bin false vA vB) (.bin false vA vC)) (.bin false vA (.bin true vB vC)) ?hTl9 ?hTr9 ?hnd9 ?vl9 ?vr9 ?var9 ?hs9 ?z19 ?z29 ?B9 ?F9 ?X9 ?N9 ?T9 ?hk9 ?hd9 ?hu9 ?_)
  case N9 => k_asm
  case F9 => k_asm
  case B9 => k_asm
  case X9 => k_asm
  case T9 => k_asm
  case hk9 => exact rfl
  case hd9 => ktr_room
  case hu9 => ktr_units
  case hTl9 => exact .bin (by repeat (first | exact List.Mem.head _ | assumption | refine List.Mem.tail _ ?_)) (.bin (by repeat (first | exact List.Mem.head _ | assumption | refine List.Mem.tail _ ?_)) .va .vb) (.bin (by repeat (first | exact List.Mem.head _ | assumption | refine List.Mem.tail _ ?_)) .va .vc)
  case hTr9 => exact .bin (by repeat (first | exact List.Mem.head _ | assumption | refine List.Mem.tail _ ?_)) .va (.bin (by repeat (first | exact List.Mem.head _ | assumption | refine List.Mem.tail _ ?_)) .vb .vc)
  case hnd9 => (repeat (first | exact List.Mem.head _ | assumption | refine List.Mem.tail _ ?_))
  case vl9 => exact ⟨⟨vok_a, vok_b⟩, vok_a, vok_c⟩
  case vr9 => exact ⟨vok_a, vok_b, vok_c⟩
  case var9 => exact var_bin _ _ _
  case hs9 => (intro x hx; simp only [vars_bin, vars_neg, vars_a, vars_b, vars_c, vars_z, List.mem_append, List.mem_cons, List.not_mem_nil, or_false, false_or] at hx ⊢ <;> first | exact hx | exact hx.symm | (rcases hx with (h | h) | h | h <;> simp [h]) | (rcases hx with h | h | h | h <;> simp [h]) | (rcases hx with h | h | h <;> simp [h]) | (rcases hx with h | h <;> simp [h]))
  case z19 => (simp only [Tm.h]; omega)
  case z29 => (simp only [Tm.h]; omega)
  intro v9 rest9 h9 d9 tk9 F9 N9 sub9 R9
  have s9 : ∀ p ∈ rest8, p ∈ rest9 := fun p hp => sub9 p (by repeat (first | exact hp | refine List.Mem.tail _ ?_))
  have hz9 := s9 _ hz8
  have hs9 := s9 _ hs8
  clear sub9
  have hrg := hrr.mono fun p hp => s9 p (s8 p (s7 p (s6 p (s5 p (s4 p (s3 p hp))))))
  obtain ⟨dx', t', tn', k', hr1', hr2'⟩ := hrg
  have N9' : News _ _ _ ((rg, _) :: (dx', _) :: rest9) := News.sub N9 (List.forall_mem_cons.mpr ⟨hr1', List.forall_mem_cons.mpr ⟨hr2', fun _ h => h⟩⟩)
  clear N9
  k_steps
  refine' StopHere.go (rule_use (.leaf (nTxt n)) (z0) ?hTl10 ?hTr10 ?hnd10 ?vl10 ?vr10 ?var10 ?hs10 ?z110 ?z210 ?B10 ?F10 ?X10 ?N10 ?T10 ?hk10 ?hd10 ?hu10 ?_)
  case N10 => k_asm
  case F10 => k_asm
  case B10 => k_asm
  case X10 => k_asm
  case T10 => k_asm
  case hk10 => exact rfl
  case hd10 => ktr_room
  case hu10 => ktr_units
  case hTl10 => exact .leaf (by repeat (first | exact List.Mem.head _ | assumption | refine List.Mem.tail _ ?_))
  case hTr10 => exact .leaf (by repeat (first | exact List.Mem.head _ | assumption | refine List.Mem.tail _ ?_))
  case hnd10 => (repeat (first | exact List.Mem.head _ | assumption | refine List.Mem.tail _ ?_))
  case vl10 => exact nvok hn
  case vr10 => exact vok_z
  case var10 => exact nsay hn
  case hs10 => (intro x hx; rw [vars_z] at hx; cases hx)
  case z110 => (simp only [Tm.h]; omega)
  case z210 => (simp only [Tm.h]; omega)
  intro v10 rest10 h10 d10 tk10 F10 N10 sub10 R10
  have s10 : ∀ p ∈ rest9, p ∈ rest10 := fun p hp => sub10 p (by repeat (first | exact hp | refine List.Mem.tail _ ?_))
  have hz10 := s10 _ hz9
  have hs10 := s10 _ hs9
  clear sub10
  k_steps
  refine' StopHere.go (catL (ys := [v4, v5, v6, v7, v8, v9, v10]) (by k_asm) (by k_asm) (.tail _ hs10) (.head _) (by rw [List.length_append, R1.len, R2.len]; exact Nat.le_of_ble_eq_true rfl) ?_)
  intro DZ hZ FZ NZ
  k_steps
  have i5 : ∀ p ∈ rest4, p ∈ rest10 := fun p hp => s10 p (s9 p (s8 p (s7 p (s6 p (s5 p hp)))))
  exact ret _ _ _ _ _ _ (by k_asm) (by k_asm) (fun p hp => .tail _ (i5 p (s4 p (s3 p hp))))
    (RulesIn.mono (fun p hp => .tail _ hp) ((R12'.mono fun p hp => i5 p (s4 p hp)).app (.cons (R4.mono i5) (.cons (R5.mono fun p hp => s10 p (s9 p (s8 p (s7 p (s6 p hp))))) (.cons (R6.mono fun p hp => s10 p (s9 p (s8 p (s7 p hp)))) (.cons (R7.mono fun p hp => s10 p (s9 p (s8 p hp))) (.cons (R8.mono fun p hp => s10 p (s9 p hp)) (.cons (R9.mono s10) (.cons R10 .nil)))))))))
end Mine
end

theorem Mine.reset_LB : True := by
  w_top off
  k_with_none
  exact trivial
section
open PySem PySem.W PyProof.Rows PySem.Calls PyProof.V
set_option maxRecDepth 100000
set_option maxHeartbeats 800000
namespace Mine
def lawParts : List Stmt × Scope := match PySem.Challenge.pw_pq0025_01.main.body.getLast? with
  | some (.FunctionDef _ _ b _ _ _ sc _ _ _) => (b, sc)
  | _ => ([], default)
def lawRest (k : Nat) : List Stmt := lawParts.1.drop k
def lawScope : Scope := lawParts.2
abbrev lawEnv (L fa : Addr) (cd : Value) : Env := envOfC (Str.ofString "law") lawScope L fa cd
end Mine
end

theorem Mine.reset_LC : True := by
  w_top off
  k_with_none
  exact trivial
section
open PySem PySem.W PyProof.Rows PySem.Calls PyProof.V
set_option maxRecDepth 100000
set_option maxHeartbeats 800000
namespace Mine
abbrev Lg (b x : Addr) (fx : List (Addr × Obj)) (k : Int) (t : Tok) (nb : Nat) (rest : List (Addr × Obj)) : List (Addr × Obj) := (b, listOf #[.ref x, .int k t] nb) :: (fx ++ rest)
def NumsOk (Pz : Str → Int → Prop) (ps : List (Str × Value)) : Prop := ∀ p ∈ ps, ∃ z tz, p.2 = Value.int z tz ∧ Pz p.1 z
def NumEnd (h₀ : Heap) (L : Addr) (m : Str → Option Value) (s₁ : Shared) (I : Addr) (oI : Obj) (C : Addr) (oC : Obj) (D : Addr) (ys : List Value) (b x : Addr) (fx : List (Addr × Obj)) (k : Int) (rest : List (Addr × Obj)) (Pz : Str → Int → Prop) (σ : Str) (y : Value) (s₂ : Shared) : Prop :=
  ∃ z tz T tσ t' nb' h' tk', y = Value.ref T ∧ s₂ = { s₁ with heap := h', toks := tk' } ∧ Fr h₀ L h' m ∧ News h₀ L h' ((I, oI) :: (C, oC) :: (D, LCg.lst ys) :: (T, tupO #[.str σ tσ, .int z tz]) :: Lg b x fx (k + 1) t' nb' rest) ∧ Pz σ z ∧ ((@LT.lt Nat _ I T) ∧ (@LT.lt Nat _ C T) ∧ (@LT.lt Nat _ D T) ∧ (@LT.lt Nat _ b T))
theorem NumEnd.mk {h₀ : Heap} {L : Addr} {m : Str → Option Value} {s₁ : Shared} {I : Addr} {oI : Obj} {C : Addr} {oC : Obj} {D : Addr} {ys : List Value} {b x : Addr} {fx : List (Addr × Obj)} {k : Int} {rest : List (Addr × Obj)} {Pz : Str → Int → Prop} {σ : Str} {z : Int} {tz tσ t' : Tok} {T : Addr} {nb' tk' : Nat} {h' : Heap}
    (F : Fr h₀ L h' m) (N : News h₀ L h' ((T, tupO #[.str σ tσ, .int z tz]) :: (I, oI) :: (C, oC) :: (D, LCg.lst ys) :: Lg b x fx (k + 1) t' nb' rest)) (hz : Pz σ z) (hl : (@LT.lt Nat _ I T) ∧ (@LT.lt Nat _ C T) ∧ (@LT.lt Nat _ D T) ∧ (@LT.lt Nat _ b T)) :
    NumEnd h₀ L m s₁ I oI C oC D ys b x fx k rest Pz σ (.ref T) { s₁ with heap := h', toks := tk' } := ⟨z, tz, T, tσ, t', nb', h', tk', rfl, rfl, F, News.sub N fun p hp => by
      rcases List.mem_cons.mp hp with rfl | hp
      · exact .tail _ (.head _)
      rcases List.mem_cons.mp hp with rfl | hp
      · exact .tail _ (.tail _ (.head _))
      rcases List.mem_cons.mp hp with rfl | hp
      · exact .tail _ (.tail _ (.tail _ (.head _)))
      rcases List.mem_cons.mp hp with rfl | hp
      · exact .head _
      · exact .tail _ (.tail _ (.tail _ (.tail _ hp))), hz, hl⟩
section
variable {prog : Program} {w : World} {A : Around} {E : Value → Shared → Prop} {s : Shared} {h₀ : Heap} {L : Addr} {m : Str → Option Value} {env : Env}
theorem rest_nums {elt : PySem.Expr} {xn : Str} {scope : Scope} {cl : List (Str × Addr)} {S : List (Addr × Obj) → Prop} {Fin : List Value → List (Addr × Obj) → Prop} {its : Array Value} {σs : List Str} {b x : Addr} {fx : List (Addr × Obj)} {k0 : Int} {t0 : Tok} {nb0 : Nat} {rest0 : List (Addr × Obj)} (Pz : Str → Int → Prop)
    (hs : StrsAre its.toList σs) (hS : ∀ k t nb rest, (∀ p ∈ rest0, p ∈ rest) → S (Lg b x fx k t nb rest)) (h0 : ∀ p ∈ rest0, @LT.lt Nat _ b p.1)
    (turn : ∀ (i : Nat) σ tσ k t nb rest ys I oI C oC D m₂ h tk (E' : Value → Shared → Prop), σ ∈ σs → i < σs.length → k = k0 + i → (∀ p ∈ rest0, p ∈ rest) → (∀ p ∈ rest, @LT.lt Nat _ b p.1) → LCg.NsObj oC m₂ → m₂ xn = some (.str σ tσ) → Fr h₀ L h m →
      News h₀ L h ((I, oI) :: (C, oC) :: (D, LCg.lst ys) :: Lg b x fx k t nb rest) → LCg.Off3 I C D (Lg b x fx k t nb rest) → ((@Ne Nat I C) ∧ (@Ne Nat I D) ∧ (@Ne Nat C D)) →
      wpAny (model prog w) A (eval elt (compEnvC scope cl C env)) (NumEnd h₀ L m { s with heap := h, toks := tk } I oI C oC D ys b x fx k rest Pz σ) E' { s with heap := h, toks := tk })
    (fin : ∀ ys ps k t nb rest, PairsL rest ys ps → ps.map (·.1) = σs → NumsOk Pz ps → k = k0 + σs.length → (∀ p ∈ rest0, p ∈ rest) → (∀ p ∈ rest, @LT.lt Nat _ b p.1) → Fin ys (Lg b x fx k t nb rest)) :
    LCg.CompRest prog w A h₀ L m env elt xn scope cl s S (fun i v => its[i]? = some v) Fin its.size 0 [] (Lg b x fx k0 t0 nb0 rest0) := by
  have hlen : its.size = σs.length := by rw [← hs.len_eq]; simp
  have key : ∀ j i k t nb rest ys ps, i + j = σs.length → (∀ p ∈ rest0, p ∈ rest) → (∀ p ∈ rest, @LT.lt Nat _ b p.1) → PairsL rest ys ps → ps.map (·.1) = σs.take i → NumsOk Pz ps → k = k0 + i →
      LCg.CompRest prog w A h₀ L m env elt xn scope cl s S (fun i v => its[i]? = some v) Fin j i ys (Lg b x fx k t nb rest) := by
    intro j
    induction j with
    | zero =>
      intro i k t nb rest ys ps hj hsub hgt hP hm hok hk
      have hi : i = σs.length := by omega
      subst hi
      rw [List.take_length] at hm
      exact fin ys ps k t nb rest hP hm hok hk hsub hgt
    | succ j ih =>
      intro i k t nb rest ys ps hj hsub hgt hP hm hok hk v I oI C oC D m₂ h tk E' hv e1 e2 F N off ne
      obtain ⟨σ, tσ, rfl, hσ⟩ := hs.item i v (by simpa using hv)
      refine wpAny_mono (turn i σ tσ k t nb rest ys I oI C oC D m₂ h tk E' (List.mem_of_getElem? hσ) (by omega) hk hsub hgt e1 e2 F N off ne) (fun y s' hy => ?_) fun _ _ z => z
      obtain ⟨z, tz, T, tσ', t', nb', h', tk', rfl, rfl, F', N', hz, l1, l2, l3, l4⟩ := hy
      refine ⟨h', tk', Lg b x fx (k + 1) t' nb' ((T, tupO #[.str σ tσ', .int z tz]) :: rest), rfl, F', News.sub N' fun p hp => ?_, LCg.Off3.of fun p hp => ?_, hS _ _ _ _ fun p hp => .tail _ (hsub p hp), ?_⟩
      · simp only [List.mem_cons, List.mem_append] at hp ⊢
        rcases hp with h | h | h | h | h | h | h <;> simp [h]
      · have o3 := off.mem
        simp only [List.mem_cons, List.mem_append] at hp
        rcases hp with rfl | hp | rfl | hp
        · exact o3 (b, listOf #[.ref x, .int k t] nb) (.head _)
        · exact o3 p (.tail _ (List.mem_append_left _ hp))
        · exact ⟨Nat.ne_of_gt l1, Nat.ne_of_gt l2, Nat.ne_of_gt l3⟩
        · exact o3 p (.tail _ (List.mem_append_right _ hp))
      · refine ih (i + 1) (k + 1) t' nb' _ (ys ++ [.ref T]) (ps ++ [(σ, .int z tz)]) (by omega) (fun p hp => .tail _ (hsub p hp)) (fun p hp => ?_) ((hP.mono fun p hp => .tail _ hp).app (.cons (.head _) .nil)) ?_ (fun p hp => ?_) (by omega)
        · rcases List.mem_cons.mp hp with rfl | hp
          · exact l4
          · exact hgt p hp
        · rw [List.map_append, hm, List.take_add_one, hσ]; rfl
        · rcases List.mem_append.mp hp with hp | hp
          · exact hok p hp
          · rw [List.mem_singleton.mp hp]; exact ⟨z, tz, rfl, hz⟩
  rw [hlen]
  exact key σs.length 0 k0 t0 nb0 rest0 [] [] (by simp) (fun _ h => h) h0 .nil rfl (fun _ h => (nomatch h)) (by simp)
end
def writRho : Str → Option Int := fun σ => if Str.ofString "0" = σ then some 0 else if Str.ofString "-7" = σ then some (-7) else if Str.ofString "007" = σ then some 7 else if Str.ofString "1" = σ then some 1 else none
def envRho (z1 z2 z3 z4 : Int) : Str → Option Int := fun σ => if Str.ofString "x" = σ then some z1 else if Str.ofString "y" = σ then some z2 else if Str.ofString "12" = σ then some z3 else if Str.ofString "add" = σ then some z4 else none
def freeRho (z1 z2 z3 : Int) : Str → Option Int := fun σ => if Str.ofString "?a" = σ then some z1 else if Str.ofString "?b" = σ then some z2 else if Str.ofString "?c" = σ then some z3 else none
theorem writKvs (t0 t1 t2 t3 : Tok) : KvsAre [(Str.ofString "0", .int 0 t0), (Str.ofString "-7", .int (-7) t1), (Str.ofString "007", .int 7 t2), (Str.ofString "1", .int 1 t3)] writRho :=
  ((((KvsAre.nil).cons _ _ t3).cons _ _ t2).cons _ _ t1).cons _ _ t0
theorem envKvs (z1 z2 z3 z4 : Int) (t0 t1 t2 t3 : Tok) : KvsAre [(Str.ofString "x", .int z1 t0), (Str.ofString "y", .int z2 t1), (Str.ofString "12", .int z3 t2), (Str.ofString "add", .int z4 t3)] (envRho z1 z2 z3 z4) :=
  ((((KvsAre.nil).cons _ _ t3).cons _ _ t2).cons _ _ t1).cons _ _ t0
theorem freeKvs (z1 z2 z3 : Int) (t0 t1 t2 : Tok) : KvsAre [(Str.ofString "?a", .int z1 t0), (Str.ofString "?b", .int z2 t1), (Str.ofString "?c", .int z3 t2)] (freeRho z1 z2 z3) :=
  (((KvsAre.nil).cons _ _ t2).cons _ _ t1).cons _ _ t0
theorem nums_cons {Pz : Str → Int → Prop} {a : Str} {as : List Str} {ps : List (Str × Value)} (hm : ps.map (·.1) = a :: as) (h : NumsOk Pz ps) : ∃ z t qs, ps = (a, .int z t) :: qs ∧ qs.map (·.1) = as ∧ NumsOk Pz qs ∧ Pz a z := by
  cases ps with
  | nil => cases hm
  | cons p qs =>
    obtain ⟨k, v⟩ := p
    obtain ⟨e1, e2⟩ := List.cons.inj hm
    obtain ⟨z, t, e, hp⟩ := h (k, v) (.head _)
    cases e1
    cases e
    exact ⟨z, t, qs, rfl, e2, fun q hq => h q (.tail _ hq), hp⟩
theorem nums3 {Pz : Str → Int → Prop} {a b c : Str} {ps : List (Str × Value)} (hm : ps.map (·.1) = [a, b, c]) (h : NumsOk Pz ps) : ∃ z1 z2 z3 t1 t2 t3, ps = [(a, .int z1 t1), (b, .int z2 t2), (c, .int z3 t3)] ∧ Pz a z1 ∧ Pz b z2 ∧ Pz c z3 := by
  obtain ⟨z1, t1, q1, rfl, m1, h1, p1⟩ := nums_cons hm h
  obtain ⟨z2, t2, q2, rfl, m2, h2, p2⟩ := nums_cons m1 h1
  obtain ⟨z3, t3, q3, rfl, m3, h3, p3⟩ := nums_cons m2 h2
  obtain rfl := List.map_eq_nil_iff.mp m3
  exact ⟨z1, z2, z3, t1, t2, t3, rfl, p1, p2, p3⟩
theorem nums4 {Pz : Str → Int → Prop} {a b c d : Str} {ps : List (Str × Value)} (hm : ps.map (·.1) = [a, b, c, d]) (h : NumsOk Pz ps) : ∃ z1 z2 z3 z4 t1 t2 t3 t4, ps = [(a, .int z1 t1), (b, .int z2 t2), (c, .int z3 t3), (d, .int z4 t4)] ∧ Pz a z1 ∧ Pz b z2 ∧ Pz c z3 ∧ Pz d z4 := by
  obtain ⟨z1, t1, q1, rfl, m1, h1, p1⟩ := nums_cons hm h
  obtain ⟨z2, z3, z4, t2, t3, t4, rfl, p2, p3, p4⟩ := nums3 m1 h1
  exact ⟨z1, z2, z3, z4, t1, t2, t3, t4, rfl, p1, p2, p3, p4⟩
end Mine
end

theorem Mine.reset_L2 : True := by
  w_top off
  k_with_none
  exact trivial
section
open PySem PySem.W PyProof.Rows PySem.Calls PyProof.V
set_option maxRecDepth 100000
set_option maxHeartbeats 800000
namespace Mine
theorem words_L2_1 : True := by
  w_top off
  k_with_none
  (k_with "k_ne" => (refine neN ?_; (try dsimp only); first | assumption | exact Ne.symm (by assumption) | exact Nat.ne_of_gt (by assumption) | exact Nat.ne_of_lt (by assumption) | (refine' Nat.ne_of_gt ?_; iterate 6 (try (first | exact Nat.lt_succ_self _ | refine' Nat.lt_succ_of_lt ?_)); done) | (refine' Nat.ne_of_lt ?_; iterate 6 (try (first | exact Nat.lt_succ_self _ | refine' Nat.lt_succ_of_lt ?_)); done) | exact Nat.ne_of_gt (And.left (by assumption)) | exact Nat.ne_of_lt (And.left (by assumption)) | exact Nat.ne_of_gt (And.left (And.right (by assumption))) | exact Nat.ne_of_gt (And.right (by assumption)) | exact Nat.ne_of_lt (And.left (And.right (by assumption))) | exact Nat.ne_of_lt (And.right (by assumption)) | exact Nat.ne_of_gt (And.left (And.right (And.right (by assumption)))) | exact Nat.ne_of_gt (And.right (And.right (by assumption))) | exact Nat.ne_of_lt (And.left (And.right (And.right (by assumption)))) | exact Nat.ne_of_lt (And.right (And.right (by assumption))) | exact Nat.ne_of_gt (And.left (And.right (And.right (And.right (by assumption))))) | exact Nat.ne_of_gt (And.right (And.right (And.right (by assumption)))) | exact Nat.ne_of_lt (And.left (And.right (And.right (And.right (by assumption))))) | exact Nat.ne_of_lt (And.right (And.right (And.right (by assumption)))) | exact Nat.ne_of_gt (And.left (And.right (And.right (And.right (And.right (by assumption)))))) | exact Nat.ne_of_gt (And.right (And.right (And.right (And.right (by assumption))))) | exact Nat.ne_of_lt (And.left (And.right (And.right (And.right (And.right (by assumption)))))) | exact Nat.ne_of_lt (And.right (And.right (And.right (And.right (by assumption))))) | exact Nat.ne_of_gt (And.left (And.right (And.right (And.right (And.right (And.right (by assumption))))))) | exact Nat.ne_of_gt (And.right (And.right (And.right (And.right (And.right (by assumption)))))) | exact Nat.ne_of_lt (And.left (And.right (And.right (And.right (And.right (And.right (by assumption))))))) | exact Nat.ne_of_lt (And.right (And.right (And.right (And.right (And.right (by assumption)))))) | exact Nat.ne_of_gt (And.left (And.right (And.right (And.right (And.right (And.right (And.right (by assumption)))))))) | exact Nat.ne_of_gt (And.right (And.right (And.right (And.right (And.right (And.right (by assumption))))))) | exact Nat.ne_of_lt (And.left (And.right (And.right (And.right (And.right (And.right (And.right (by assumption)))))))) | exact Nat.ne_of_lt (And.right (And.right (And.right (And.right (And.right (And.right (by assumption)))))))))
  (k_with "execs cons" => (k_here; (with_reducible refine gen_toks ?_); intro tkq))
  (k_with "execs nil" => (k_here; (with_reducible refine gen_toks ?_); intro tkq))
  (k_with "execs cons" => (k_here; (with_reducible show wpAny _ _ (execs _ (envOfC (Str.ofString "law") _ _ _ _)) _ _ _); (refine StopHere.mk ?_)))
  exact trivial
theorem reord2 {h₀ h : Heap} {L : Addr} {t w r1 r2 b x c5 c4 c3 c2 c1 : Addr × Obj} (N : News h₀ L h [t, w, r1, r2, b, x, c5, c4, c3, c2, c1]) : News h₀ L h (b :: x :: c5 :: c4 :: c3 :: c2 :: c1 :: [w, r1, r2]) := News.sub N fun p hp => by
  simp only [List.mem_cons, List.not_mem_nil, or_false] at hp ⊢
  rcases hp with h | h | h | h | h | h | h | h | h | h <;> simp [h]
theorem seg2 {w : World} {h₀ : Heap} {L fa : Addr} {cd : Value} {m : Str → Option Value} {s : Shared} {loose : List Str} {mean : ExcName → Option Value} {mg mb : Str → Option Value} {Q : Flow → Shared → Prop} {E : Value → Shared → Prop}
    {oB oN oR oE oF : Obj} {b x : Addr} {k n : Int} {t tn : Tok} {nb n0 : Nat} {vs : List Value} {ns : List Int}
    (hB : oB.data = .cell (some (.ref b))) (hN : oN.data = .cell (some (.int n tn))) (hR : oR.data = .cell none) (hE : oE.data = .cell none) (hF : oF.data = .cell none)
    (hn : RingN n) (hI : IntsAre vs ns) (hl : ns.length ≤ 63) (h0 : 0 ≤ k) (h1 : k < 1000) (hbx : x < b) (hLx : L + 5 < x)
    (B : Below callerA h₀ [] h₀) (F : Fr h₀ L s.heap m) (X : (hd.heap_1 w.params).In h₀)
    (N : News h₀ L s.heap [(b, listOf #[.ref x, .int k t] nb), (x, listOf vs.toArray n0), (L + 1 + 1 + 1 + 1 + 1, oF), (L + 1 + 1 + 1 + 1, oE), (L + 1 + 1 + 1, oR), (L + 1 + 1, oN), (L + 1, oB)]) (T : Top view loose mean mg mb h₀)
    (cont : ∀ (rg dw : Addr) (oR' oW : Obj) (kw : List (Str × Value)) (rest : List (Addr × Obj)) (h' : Heap) (tk' : Nat), Fr h₀ L h' (fun y => if y = Str.ofString "written" then some (.ref dw) else m y) →
      News h₀ L h' ((b, listOf #[.ref x, .int k t] nb) :: (x, listOf vs.toArray n0) :: (L + 1 + 1 + 1 + 1 + 1, oF) :: (L + 1 + 1 + 1 + 1, oE) :: (L + 1 + 1 + 1, oR') :: (L + 1 + 1, oN) :: (L + 1, oB) :: rest) → (∀ p ∈ rest, @LT.lt Nat _ b p.1) →
      oR'.data = .cell (some (.ref rg)) → RingIn w rest rg n → (dw, oW) ∈ rest → (dw == sysModules) = false → oW.IsDictOf (PySem.strKind PySem.Challenge.rw_pq0025_01.row.prog w) kw → KvsAre kw writRho → kw.length = 4 →
      wpAny (model PySem.Challenge.rw_pq0025_01.row.prog w) (callerA.deeper (lawEnv L fa cd)) (execs (lawRest 3) (lawEnv L fa cd)) Q E { s with heap := h', toks := tk' }) :
    wpAny (model PySem.Challenge.rw_pq0025_01.row.prog w) (callerA.deeper (lawEnv L fa cd)) (execs (lawRest 2) (lawEnv L fa cd)) Q E s := by
  (revert X; k_fill; intro X)
  replace hbx := ltN hbx
  replace hLx := ltN hLx
  have hn0 := hn.pos
  have hn1 := hn.le
  unfold lawEnv
  conv in (lawRest 2) => whnf
  conv =>
    pattern (occs := *) lawScope
    all_goals whnf
  refine wpAny_execs_cons ?_
  k_steps
  refine StopHere.go (cont _ _ _ _ _ _ _ _ (by k_asm) (reord2 (by k_asm)) ?_ (by assumption) ⟨_, _, _, _, .tail _ (.head _), .tail _ (.tail _ (.head _))⟩ (.head _) (by assumption) (by assumption) (writKvs _ _ _ _) rfl)
  refine List.forall_mem_cons.mpr ⟨?_, List.forall_mem_cons.mpr ⟨?_, List.forall_mem_cons.mpr ⟨?_, List.forall_mem_nil _⟩⟩⟩ <;> (dsimp only; omega)
end Mine
end

theorem Mine.reset_L3 : True := by
  w_top off
  k_with_none
  exact trivial
section
open PySem PySem.W PyProof.Rows PySem.Calls PyProof.V
set_option maxRecDepth 100000
set_option maxHeartbeats 800000
namespace Mine
theorem ne_gt {b : Addr} {rest : List (Addr × Obj)} (h : ∀ p ∈ rest, @LT.lt Nat _ b p.1) : ∀ p ∈ rest, p.1 ≠ b := fun p hp => Nat.ne_of_gt (h p hp)
theorem ne_low {b c : Addr} {rest : List (Addr × Obj)} (h : ∀ p ∈ rest, @LT.lt Nat _ b p.1) (hc : @LT.lt Nat _ c b) : ∀ p ∈ rest, p.1 ≠ c := fun p hp => Nat.ne_of_gt (Nat.lt_trans hc (h p hp))
theorem words_L3_1 : True := by
  w_top off
  k_with_none
  (k_with "k_ne" => (refine neN ?_; (try dsimp only); first | assumption | exact Ne.symm (by assumption) | exact Nat.ne_of_gt (by assumption) | exact Nat.ne_of_lt (by assumption) | (refine' Nat.ne_of_gt ?_; iterate 6 (try (first | exact Nat.lt_succ_self _ | refine' Nat.lt_succ_of_lt ?_)); done) | (refine' Nat.ne_of_lt ?_; iterate 6 (try (first | exact Nat.lt_succ_self _ | refine' Nat.lt_succ_of_lt ?_)); done) | exact Nat.ne_of_gt (And.left (by assumption)) | exact Nat.ne_of_lt (And.left (by assumption)) | exact Nat.ne_of_gt (And.left (And.right (by assumption))) | exact Nat.ne_of_gt (And.right (by assumption)) | exact Nat.ne_of_lt (And.left (And.right (by assumption))) | exact Nat.ne_of_lt (And.right (by assumption)) | exact Nat.ne_of_gt (And.left (And.right (And.right (by assumption)))) | exact Nat.ne_of_gt (And.right (And.right (by assumption))) | exact Nat.ne_of_lt (And.left (And.right (And.right (by assumption)))) | exact Nat.ne_of_lt (And.right (And.right (by assumption))) | exact Nat.ne_of_gt (And.left (And.right (And.right (And.right (by assumption))))) | exact Nat.ne_of_gt (And.right (And.right (And.right (by assumption)))) | exact Nat.ne_of_lt (And.left (And.right (And.right (And.right (by assumption))))) | exact Nat.ne_of_lt (And.right (And.right (And.right (by assumption)))) | exact Nat.ne_of_gt (And.left (And.right (And.right (And.right (And.right (by assumption)))))) | exact Nat.ne_of_gt (And.right (And.right (And.right (And.right (by assumption))))) | exact Nat.ne_of_lt (And.left (And.right (And.right (And.right (And.right (by assumption)))))) | exact Nat.ne_of_lt (And.right (And.right (And.right (And.right (by assumption))))) | exact Nat.ne_of_gt (And.left (And.right (And.right (And.right (And.right (And.right (by assumption))))))) | exact Nat.ne_of_gt (And.right (And.right (And.right (And.right (And.right (by assumption)))))) | exact Nat.ne_of_lt (And.left (And.right (And.right (And.right (And.right (And.right (by assumption))))))) | exact Nat.ne_of_lt (And.right (And.right (And.right (And.right (And.right (by assumption)))))) | exact Nat.ne_of_gt (And.left (And.right (And.right (And.right (And.right (And.right (And.right (by assumption)))))))) | exact Nat.ne_of_gt (And.right (And.right (And.right (And.right (And.right (And.right (by assumption))))))) | exact Nat.ne_of_lt (And.left (And.right (And.right (And.right (And.right (And.right (And.right (by assumption)))))))) | exact Nat.ne_of_lt (And.right (And.right (And.right (And.right (And.right (And.right (by assumption)))))))))
  (k_with "execs cons" => (k_here; (with_reducible refine gen_toks ?_); intro tkq))
  (k_with "execs nil" => (k_here; (with_reducible refine gen_toks ?_); intro tkq))
  (k_with "execs cons" => (k_here; (with_reducible show wpAny _ _ (execs _ (envOfC (Str.ofString "law") _ _ _ _)) _ _ _); (refine StopHere.mk ?_)))
  (k_with "k_all" => (exact ne_low (by assumption) (by omega)))
  (k_with "k_all" => (exact ne_gt (by assumption)))
  (k_with "eval ListComp" => (k_here; k_dflt (refine comp_tup (F₀ := by k_asm) (by with_unfolding_all rfl) (by decide) (by rfl) (by decide) (by rfl) ?_)))
  (k_with "SrcT" => (refine StopHere.mk ?_))
  (k_with "call ref" => (k_here; (with_reducible show wpAny _ _ (call (Value.ref 191) [Value.ref _]) _ _ _); k_dflt (refine' number_upd ?Bq ?Fq ?Xq ?Nq ?Tq ?hkq ?Uq ?hxq ?hIq ?hlq ?h0q ?h1q ?hbxq ?hdq ?huq ?_; (case Bq => k_asm); (case Fq => k_asm); (case Xq => k_asm); (case Nq => k_asm); (case Tq => k_asm); (case hkq => first | exact rfl | assumption);   (case Uq => k_updF); (case hxq => k_mem); (case hIq => assumption); (case hlq => assumption); (case h0q => omega); (case h1q => omega); (case hbxq => first | assumption | omega); (case hdq => ktr_room); (case huq => ktr_units)); intro v'q t1'q t2'q n'q h'q tk'q F'q N'q hvb'q; (try dsimp only at N'q); (try k_sweep)))
  (k_with "call type:dict" => (k_here; (refine StopHere.mk ?_)))
  exact trivial
theorem toLg {h₀ h : Heap} {L : Addr} {d b x c5 c4 c3 c2 c1 : Addr × Obj} {rest : List (Addr × Obj)} (N : News h₀ L h (d :: b :: x :: c5 :: c4 :: c3 :: c2 :: c1 :: rest)) : News h₀ L h (b :: ([x, c5, c4, c3, c2, c1] ++ d :: rest)) := News.sub N fun p hp => by
  simp only [List.mem_cons, List.mem_append, List.not_mem_nil, or_false] at hp ⊢
  rcases hp with h | (h | h | h | h | h | h) | h | h <;> simp [h]
theorem toLg3 {h₀ h : Heap} {L : Addr} {e d b x c5 c4 c3 c2 c1 : Addr × Obj} {rest : List (Addr × Obj)} (N : News h₀ L h (e :: d :: b :: x :: c5 :: c4 :: c3 :: c2 :: c1 :: rest)) : News h₀ L h (b :: x :: c5 :: c4 :: c3 :: c2 :: c1 :: e :: rest) := News.sub N fun p hp => by
  simp only [List.mem_cons] at hp ⊢
  rcases hp with h | h | h | h | h | h | h | h | h <;> simp [h]
theorem toLg2 {h₀ h : Heap} {L : Addr} {e d b x c5 c4 c3 c2 c1 : Addr × Obj} {rest : List (Addr × Obj)} (N : News h₀ L h (e :: d :: b :: x :: c5 :: c4 :: c3 :: c2 :: c1 :: rest)) : News h₀ L h (b :: x :: c5 :: c4 :: c3 :: c2 :: c1 :: e :: rest) := News.sub N fun p hp => by
  simp only [List.mem_cons] at hp ⊢
  rcases hp with h | h | h | h | h | h | h | h | h <;> simp [h]
theorem seg3 {w : World} {h₀ : Heap} {L fa : Addr} {cd : Value} {m : Str → Option Value} {s : Shared} {loose : List Str} {mean : ExcName → Option Value} {mg mb : Str → Option Value} {Q : Flow → Shared → Prop} {E : Value → Shared → Prop}
    {oB oN oR oE oF : Obj} {b x : Addr} {k n : Int} {t tn : Tok} {nb n0 : Nat} {vs : List Value} {ns : List Int} {rest : List (Addr × Obj)} {vR : Value}
    (hB : oB.data = .cell (some (.ref b))) (hN : oN.data = .cell (some (.int n tn))) (hR : oR.data = .cell (some vR)) (hE : oE.data = .cell none) (hF : oF.data = .cell none)
    (hI : IntsAre vs ns) (hl : ns.length ≤ 63) (h0 : 0 ≤ k) (h1 : k < 1000) (hbx : x < b) (hLx : L + 5 < x)
    (B : Below callerA h₀ [] h₀) (F : Fr h₀ L s.heap m) (X : (hd.heap_1 w.params).In h₀)
    (N : News h₀ L s.heap ((b, listOf #[.ref x, .int k t] nb) :: (x, listOf vs.toArray n0) :: (L + 1 + 1 + 1 + 1 + 1, oF) :: (L + 1 + 1 + 1 + 1, oE) :: (L + 1 + 1 + 1, oR) :: (L + 1 + 1, oN) :: (L + 1, oB) :: rest)) (hrest : ∀ p ∈ rest, @LT.lt Nat _ b p.1) (T : Top view loose mean mg mb h₀)
    (cont : ∀ (de : Addr) (oE' oD : Obj) (ke : List (Str × Value)) (rest' : List (Addr × Obj)) (h' : Heap) (tk' : Nat) (z1 z2 z3 z4 : Int) (t' : Tok) (nb' : Nat), Fr h₀ L h' m →
      News h₀ L h' ((b, listOf #[.ref x, .int (k + 4) t'] nb') :: (x, listOf vs.toArray n0) :: (L + 1 + 1 + 1 + 1 + 1, oF) :: (L + 1 + 1 + 1 + 1, oE') :: (L + 1 + 1 + 1, oR) :: (L + 1 + 1, oN) :: (L + 1, oB) :: rest') → (∀ p ∈ rest', @LT.lt Nat _ b p.1) → (∀ p ∈ rest, p ∈ rest') →
      oE'.data = .cell (some (.ref de)) → (de, oD) ∈ rest' → (de == sysModules) = false → oD.IsDictOf (PySem.strKind PySem.Challenge.rw_pq0025_01.row.prog w) ke → KvsAre ke (envRho z1 z2 z3 z4) → ke.length = 4 →
      Builtin.Int.intBits z1 ≤ 200 → Builtin.Int.intBits z2 ≤ 200 → Builtin.Int.intBits z3 ≤ 200 → Builtin.Int.intBits z4 ≤ 200 →
      wpAny (model PySem.Challenge.rw_pq0025_01.row.prog w) (callerA.deeper (lawEnv L fa cd)) (execs (lawRest 4) (lawEnv L fa cd)) Q E { s with heap := h', toks := tk' }) :
    wpAny (model PySem.Challenge.rw_pq0025_01.row.prog w) (callerA.deeper (lawEnv L fa cd)) (execs (lawRest 3) (lawEnv L fa cd)) Q E s := by
  (revert X; k_fill; intro X)
  replace hbx := ltN hbx
  replace hLx := ltN hLx
  have hxb : x ≠ b := Nat.ne_of_lt hbx
  unfold lawEnv
  conv in (lawRest 3) => whnf
  conv =>
    pattern (occs := *) lawScope
    all_goals whnf
  refine wpAny_execs_cons ?_
  k_steps
  refine' StopHere.go (SrcT.intro (news := Lg b x [(x, listOf vs.toArray n0), (L + 1 + 1 + 1 + 1 + 1, oF), (L + 1 + 1 + 1 + 1, oE), (L + 1 + 1 + 1, oR), (L + 1 + 1, oN), (L + 1, oB)] k t nb ((_, tupO _) :: rest)) (by rfl) (by k_asm) (toLg (by k_asm)) (.tail _ (List.mem_append_right _ (.head _))) (by exact Nat.le_of_ble_eq_true rfl) ?_)
  intro g'
  refine' rest_nums (σs := [Str.ofString "x", Str.ofString "y", Str.ofString "12", Str.ofString "add"]) (fun _ z => Builtin.Int.intBits z ≤ 200) ?hs ?hS ?hg ?turn ?fin
  case hs => exact .cons _ _ (.cons _ _ (.cons _ _ (.cons _ _ .nil)))
  case hS => exact fun k t nb rest hsub => .inr ⟨_, .tail _ (List.mem_append_right _ (hsub _ (.head _)))⟩
  case hg => exact List.forall_mem_cons.mpr ⟨by dsimp only; omega, hrest⟩
  case turn =>
    intro i σ tσ k2 t2 nb2 rest2 ys I' oI' C' oC' D2 m2 h2 tk2 E' hσ hi hk hsub hgt hC' hx' F2 N2 off2 ne2
    simp only [List.length_cons, List.length_nil] at hi
    simp only [Lg, List.cons_append, List.nil_append] at N2
    simp only [Lg, List.cons_append, List.nil_append, LCg.Off3] at off2
    have ob1 := off2.1.1
    have ob2 := off2.1.2.1
    have ob3 := off2.1.2.2
    clear off2
    k_steps
    rename News _ _ _ _ => NZ
    exact NumEnd.mk (fx := [_, _, _, _, _, _]) (by k_asm) NZ (by assumption) ⟨by omega, by omega, by omega, by omega⟩
  case fin =>
    intro ys ps k2 t2 nb2 rest2 hP hm hok hk hsub hgt D2 h2 tk2 F2 N2 off2
    simp only [Lg, List.cons_append, List.nil_append] at N2
    simp only [Lg, List.cons_append, List.nil_append, LCg.Off1] at off2
    have ob1 := off2.1
    have ob2 := off2.2.1
    have ob3 := off2.2.2.1
    have ob4 := off2.2.2.2.1
    have ob5 := off2.2.2.2.2.1
    have ob6 := off2.2.2.2.2.2.1
    have ob7 := off2.2.2.2.2.2.2.1
    clear off2
    k_steps
    obtain ⟨z1, z2, z3, z4, t1, t2, t3, t4, rfl, p1, p2, p3, p4⟩ := nums4 hm hok
    refine' StopHere.go (dict_rule (by rfl) F2 N2 (Top.nolimit T) (.head _) (hP.mono fun p hp => by repeat (first | exact hp | refine List.Mem.tail _ ?_)) (by rw [← hP.len]; exact Nat.le_of_ble_eq_true rfl) (by simp only [List.map_cons, List.map_nil]; decide +kernel) ?_)
    intro de oD h3 tk3 F3 N3 l3 lo3 hd3
    (try k_lt l3)
    k_steps
    have e4 : k2 = k + 4 := hk
    subst e4
    exact StopHere.go (cont _ _ _ _ (_ :: rest2) _ _ z1 z2 z3 z4 _ _ (by k_asm) (toLg3 (by k_asm)) (List.forall_mem_cons.mpr ⟨by dsimp only; omega, hgt⟩) (fun p hp => .tail _ (hsub p (.tail _ hp))) (by assumption) (.head _) lo3 hd3 (envKvs _ _ _ _ _ _ _ _) rfl p1 p2 p3 p4)
end Mine
end

theorem Mine.reset_L4 : True := by
  w_top off
  k_with_none
  exact trivial
section
open PySem PySem.W PyProof.Rows PySem.Calls PyProof.V
set_option maxRecDepth 100000
set_option maxHeartbeats 800000
namespace Mine
theorem term3 : TermSays 3 23 := @term_succ 2 11 (@term_succ 1 5 (@term_succ 0 2 @term_zero (by decide)) (by decide)) (by decide)
theorem words_L4_1 : True := by
  w_top off
  k_with_none
  (k_with "k_ne" => (refine neN ?_; (try dsimp only); first | assumption | exact Ne.symm (by assumption) | exact Nat.ne_of_gt (by assumption) | exact Nat.ne_of_lt (by assumption) | (refine' Nat.ne_of_gt ?_; iterate 6 (try (first | exact Nat.lt_succ_self _ | refine' Nat.lt_succ_of_lt ?_)); done) | (refine' Nat.ne_of_lt ?_; iterate 6 (try (first | exact Nat.lt_succ_self _ | refine' Nat.lt_succ_of_lt ?_)); done) | exact Nat.ne_of_gt (And.left (by assumption)) | exact Nat.ne_of_lt (And.left (by assumption)) | exact Nat.ne_of_gt (And.left (And.right (by assumption))) | exact Nat.ne_of_gt (And.right (by assumption)) | exact Nat.ne_of_lt (And.left (And.right (by assumption))) | exact Nat.ne_of_lt (And.right (by assumption)) | exact Nat.ne_of_gt (And.left (And.right (And.right (by assumption)))) | exact Nat.ne_of_gt (And.right (And.right (by assumption))) | exact Nat.ne_of_lt (And.left (And.right (And.right (by assumption)))) | exact Nat.ne_of_lt (And.right (And.right (by assumption))) | exact Nat.ne_of_gt (And.left (And.right (And.right (And.right (by assumption))))) | exact Nat.ne_of_gt (And.right (And.right (And.right (by assumption)))) | exact Nat.ne_of_lt (And.left (And.right (And.right (And.right (by assumption))))) | exact Nat.ne_of_lt (And.right (And.right (And.right (by assumption)))) | exact Nat.ne_of_gt (And.left (And.right (And.right (And.right (And.right (by assumption)))))) | exact Nat.ne_of_gt (And.right (And.right (And.right (And.right (by assumption))))) | exact Nat.ne_of_lt (And.left (And.right (And.right (And.right (And.right (by assumption)))))) | exact Nat.ne_of_lt (And.right (And.right (And.right (And.right (by assumption))))) | exact Nat.ne_of_gt (And.left (And.right (And.right (And.right (And.right (And.right (by assumption))))))) | exact Nat.ne_of_gt (And.right (And.right (And.right (And.right (And.right (by assumption)))))) | exact Nat.ne_of_lt (And.left (And.right (And.right (And.right (And.right (And.right (by assumption))))))) | exact Nat.ne_of_lt (And.right (And.right (And.right (And.right (And.right (by assumption)))))) | exact Nat.ne_of_gt (And.left (And.right (And.right (And.right (And.right (And.right (And.right (by assumption)))))))) | exact Nat.ne_of_gt (And.right (And.right (And.right (And.right (And.right (And.right (by assumption))))))) | exact Nat.ne_of_lt (And.left (And.right (And.right (And.right (And.right (And.right (And.right (by assumption)))))))) | exact Nat.ne_of_lt (And.right (And.right (And.right (And.right (And.right (And.right (by assumption)))))))))
  (k_with "execs cons" => (k_here; (with_reducible refine gen_toks ?_); intro tkq))
  (k_with "execs nil" => (k_here; (with_reducible refine gen_toks ?_); intro tkq))
  (k_with "execs cons" => (k_here; (with_reducible show wpAny _ _ (execs _ (envOfC (Str.ofString "law") _ _ _ _)) _ _ _); (refine StopHere.mk ?_)))
  (k_with "k_all" => (exact ne_low (by assumption) (by omega)))
  (k_with "k_all" => (exact ne_gt (by assumption)))
  (k_with "call ref" => (k_here; (with_reducible show wpAny _ _ (call (Value.ref 198) [Value.ref _, _]) _ _ _); k_dflt (refine' TermSays.upd ?Cq ?hflq ?Bq ?Fq ?Xq ?Nq ?Tq ?hkq ?Uq ?hxq ?hIq ?hlq ?h0q ?h1q ?hbxq ?hdq ?huq ?_; (case Cq => exact term3); (case hflq => rfl); (case Bq => k_asm); (case Fq => k_asm); (case Xq => k_asm); (case Nq => k_asm); (case Tq => k_asm); (case hkq => first | exact rfl | assumption); (case Uq => k_updF); (case hxq => k_mem); (case hIq => assumption); (case hlq => assumption); (case h0q => omega); (case h1q => omega); (case hbxq => first | assumption | omega); (case hdq => ktr_room); (case huq => ktr_units)); intro r'q d'q k'q t2'q n'q tl'q h'q tk'q F'q N'q ho'q hi'q hok'q hk1'q hk2'q; (try simp only [List.cons_append] at N'q); (try k_sweep)))
  exact trivial
theorem seg4 {w : World} {h₀ : Heap} {L fa : Addr} {cd : Value} {m : Str → Option Value} {s : Shared} {loose : List Str} {mean : ExcName → Option Value} {mg mb : Str → Option Value} {Q : Flow → Shared → Prop} {E : Value → Shared → Prop}
    {oB oN oR oE oF : Obj} {b x : Addr} {k n : Int} {t tn : Tok} {nb n0 : Nat} {vs : List Value} {ns : List Int} {rest : List (Addr × Obj)}
    (hB : oB.data = .cell (some (.ref b)))
    (hI : IntsAre vs ns) (hl : ns.length ≤ 63) (h0 : 0 ≤ k) (h1 : k < 1000) (hbx : x < b) (hLx : L + 5 < x)
    (B : Below callerA h₀ [] h₀) (F : Fr h₀ L s.heap m) (X : (hd.heap_1 w.params).In h₀)
    (N : News h₀ L s.heap ((b, listOf #[.ref x, .int k t] nb) :: (x, listOf vs.toArray n0) :: (L + 1 + 1 + 1 + 1 + 1, oF) :: (L + 1 + 1 + 1 + 1, oE) :: (L + 1 + 1 + 1, oR) :: (L + 1 + 1, oN) :: (L + 1, oB) :: rest)) (hrest : ∀ p ∈ rest, @LT.lt Nat _ b p.1) (T : Top view loose mean mg mb h₀)
    (cont : ∀ (v : Value) (d : Tm) (rest' : List (Addr × Obj)) (h' : Heap) (tk' : Nat) (k' : Int) (t' : Tok) (nb' : Nat), Fr h₀ L h' (fun y => if y = Str.ofString "term" then some v else m y) →
      News h₀ L h' ((b, listOf #[.ref x, .int k' t'] nb') :: (x, listOf vs.toArray n0) :: (L + 1 + 1 + 1 + 1 + 1, oF) :: (L + 1 + 1 + 1 + 1, oE) :: (L + 1 + 1 + 1, oR) :: (L + 1 + 1, oN) :: (L + 1, oB) :: rest') → (∀ p ∈ rest', @LT.lt Nat _ b p.1) → (∀ p ∈ rest, p ∈ rest') →
      Tm.In rest' v d → Tm.Ok 3 d → k ≤ k' → k' ≤ k + 23 →
      wpAny (model PySem.Challenge.rw_pq0025_01.row.prog w) (callerA.deeper (lawEnv L fa cd)) (execs (lawRest 5) (lawEnv L fa cd)) Q E { s with heap := h', toks := tk' }) :
    wpAny (model PySem.Challenge.rw_pq0025_01.row.prog w) (callerA.deeper (lawEnv L fa cd)) (execs (lawRest 4) (lawEnv L fa cd)) Q E s := by
  (revert X; k_fill; intro X)
  replace hbx := ltN hbx
  replace hLx := ltN hLx
  have hxb : x ≠ b := Nat.ne_of_lt hbx
  unfold lawEnv
  conv in (lawRest 4) => whnf
  conv =>
    pattern (occs := *) lawScope
    all_goals whnf
  refine wpAny_execs_cons ?_
  k_steps
  rename_i h2 F2 N2
  refine StopHere.go (cont r'q d'q (rest ++ tl'q) _ _ k'q t2'q n'q F2 N2 (fun p hp => ?_) (fun p hp => List.mem_append_left _ hp) (hi'q.mono fun p hp => List.mem_append_right _ hp) hok'q hk1'q hk2'q)
  rcases List.mem_append.mp hp with hp | hp
  · exact hrest p hp
  · exact ho'q _ (.head _) p hp
end Mine
end

theorem Mine.reset_L5 : True := by
  w_top off
  k_with_none
  exact trivial
section
open PySem PySem.W PyProof.Rows PySem.Calls PyProof.V
set_option maxRecDepth 100000
set_option maxHeartbeats 800000
namespace Mine
theorem bits_n {n : Int} (h0 : 0 < n) (h1 : n ≤ 1000000007) : Builtin.Int.intBits n ≤ 64 := intBits_le_64 (by omega) (by omega)
theorem Tm.Ok.h {f : Nat} {d : Tm} (o : Tm.Ok f d) : d.h + 1 ≤ 2 ^ (f + 1) := by
  induction o with
  | @plain f s _ => have := Nat.pow_le_pow_right (n := 2) (by decide) (Nat.zero_le f); rw [Nat.pow_succ]; simp only [Tm.h]; omega
  | @env f s _ => have := Nat.pow_le_pow_right (n := 2) (by decide) (Nat.zero_le f); rw [Nat.pow_succ]; simp only [Tm.h]; omega
  | @neg f x _ ih => rw [Nat.pow_succ]; simp only [Tm.h]; omega
  | @bin f o x y _ _ ih ih2 => rw [Nat.pow_succ]; simp only [Tm.h]; omega
theorem words_L5_1 : True := by
  w_top off
  k_with_none
  (k_with "k_ne" => (refine neN ?_; (try dsimp only); first | assumption | exact Ne.symm (by assumption) | exact Nat.ne_of_gt (by assumption) | exact Nat.ne_of_lt (by assumption) | (refine' Nat.ne_of_gt ?_; iterate 6 (try (first | exact Nat.lt_succ_self _ | refine' Nat.lt_succ_of_lt ?_)); done) | (refine' Nat.ne_of_lt ?_; iterate 6 (try (first | exact Nat.lt_succ_self _ | refine' Nat.lt_succ_of_lt ?_)); done) | exact Nat.ne_of_gt (And.left (by assumption)) | exact Nat.ne_of_lt (And.left (by assumption)) | exact Nat.ne_of_gt (And.left (And.right (by assumption))) | exact Nat.ne_of_gt (And.right (by assumption)) | exact Nat.ne_of_lt (And.left (And.right (by assumption))) | exact Nat.ne_of_lt (And.right (by assumption)) | exact Nat.ne_of_gt (And.left (And.right (And.right (by assumption)))) | exact Nat.ne_of_gt (And.right (And.right (by assumption))) | exact Nat.ne_of_lt (And.left (And.right (And.right (by assumption)))) | exact Nat.ne_of_lt (And.right (And.right (by assumption))) | exact Nat.ne_of_gt (And.left (And.right (And.right (And.right (by assumption))))) | exact Nat.ne_of_gt (And.right (And.right (And.right (by assumption)))) | exact Nat.ne_of_lt (And.left (And.right (And.right (And.right (by assumption))))) | exact Nat.ne_of_lt (And.right (And.right (And.right (by assumption)))) | exact Nat.ne_of_gt (And.left (And.right (And.right (And.right (And.right (by assumption)))))) | exact Nat.ne_of_gt (And.right (And.right (And.right (And.right (by assumption))))) | exact Nat.ne_of_lt (And.left (And.right (And.right (And.right (And.right (by assumption)))))) | exact Nat.ne_of_lt (And.right (And.right (And.right (And.right (by assumption))))) | exact Nat.ne_of_gt (And.left (And.right (And.right (And.right (And.right (And.right (by assumption))))))) | exact Nat.ne_of_gt (And.right (And.right (And.right (And.right (And.right (by assumption)))))) | exact Nat.ne_of_lt (And.left (And.right (And.right (And.right (And.right (And.right (by assumption))))))) | exact Nat.ne_of_lt (And.right (And.right (And.right (And.right (And.right (by assumption)))))) | exact Nat.ne_of_gt (And.left (And.right (And.right (And.right (And.right (And.right (And.right (by assumption)))))))) | exact Nat.ne_of_gt (And.right (And.right (And.right (And.right (And.right (And.right (by assumption))))))) | exact Nat.ne_of_lt (And.left (And.right (And.right (And.right (And.right (And.right (And.right (by assumption)))))))) | exact Nat.ne_of_lt (And.right (And.right (And.right (And.right (And.right (And.right (by assumption)))))))))
  (k_with "execs cons" => (k_here; (with_reducible refine gen_toks ?_); intro tkq))
  (k_with "execs nil" => (k_here; (with_reducible refine gen_toks ?_); intro tkq))
  (k_with "binaryOp Mult int int" => (k_dflt (refine mul_int ?_ (mulOk_of_bits (bits_n (by assumption) (by assumption)) (bits_fdiv (by assumption)) (by decide)))))
  exact trivial
theorem left_says {w : World} {dp un : Nat} {gd : Option (List Code)} {cn : Str} {cs : Scope} {a : Addr} {ccd : Value} {cl : List (Str × Addr)} {outer : List Env} {A₀ : Around} {base h₀ : Heap} {L : Addr} {m : Str → Option Value} {s : Shared} {loose : List Str} {mean : ExcName → Option Value} {mg mb : Str → Option Value}
    {Q E : Value → Shared → Prop} {news : List (Addr × Obj)} {z n : Int} {tz tn : Tok}
    (hn0 : 0 < n) (hn1 : n ≤ 1000000007) (hb : Builtin.Int.intBits z ≤ 300000)
    (B : Below A₀ base outer h₀) (F : Fr h₀ L s.heap m) (X : (hd.heap_1 w.params).In h₀)
    (N : News h₀ L s.heap news) (T : Top view loose mean mg mb h₀) (hk : cs.kind = .function)
    (hd : dp + 4 < recursionLimit) (hu : un + 100 < cLine)
    (ret : ∀ t h' tk', Fr h₀ L h' m → News h₀ L h' news → Q (.int (Int.fmod z n) t) { s with heap := h', toks := tk' }) :
    wpAny (model PySem.Challenge.rw_pq0025_01.row.prog w) (ktrTop dp un gd cn cs L a ccd cl outer) (call (.ref 210) [.int n tn, .int z tz]) Q E s := by
  (revert X; k_fill; intro X)
  have hn2 : n ≠ 0 := by omega
  refine wpAny_call ?_
  k_dflt ktr_enter
  (all_goals try k_fold)
  k_steps
  rw [← Int.fmod_def]
  exact ret _ _ _ (by k_asm) (by k_asm)
end Mine
end

theorem Mine.reset_L6 : True := by
  w_top off
  k_with_none
  exact trivial
section
open PySem PySem.W PyProof.Rows PySem.Calls PyProof.V
set_option maxRecDepth 100000
set_option maxHeartbeats 800000
namespace Mine
theorem dict_keys {w : World} {o : Obj} {kvs : List (Str × Value)} (h : o.IsDictOf (PySem.strKind PySem.Challenge.rw_pq0025_01.row.prog w) kvs) : (kvs.map (·.1)).Nodup := let ⟨_, _, _, _, _, _, hn⟩ := h; hn
theorem words_L6_1 : True := by
  w_top off
  k_with_none
  (k_with "k_ne" => (refine neN ?_; (try dsimp only); first | assumption | exact Ne.symm (by assumption) | exact Nat.ne_of_gt (by assumption) | exact Nat.ne_of_lt (by assumption) | (refine' Nat.ne_of_gt ?_; iterate 6 (try (first | exact Nat.lt_succ_self _ | refine' Nat.lt_succ_of_lt ?_)); done) | (refine' Nat.ne_of_lt ?_; iterate 6 (try (first | exact Nat.lt_succ_self _ | refine' Nat.lt_succ_of_lt ?_)); done) | exact Nat.ne_of_gt (And.left (by assumption)) | exact Nat.ne_of_lt (And.left (by assumption)) | exact Nat.ne_of_gt (And.left (And.right (by assumption))) | exact Nat.ne_of_gt (And.right (by assumption)) | exact Nat.ne_of_lt (And.left (And.right (by assumption))) | exact Nat.ne_of_lt (And.right (by assumption)) | exact Nat.ne_of_gt (And.left (And.right (And.right (by assumption)))) | exact Nat.ne_of_gt (And.right (And.right (by assumption))) | exact Nat.ne_of_lt (And.left (And.right (And.right (by assumption)))) | exact Nat.ne_of_lt (And.right (And.right (by assumption))) | exact Nat.ne_of_gt (And.left (And.right (And.right (And.right (by assumption))))) | exact Nat.ne_of_gt (And.right (And.right (And.right (by assumption)))) | exact Nat.ne_of_lt (And.left (And.right (And.right (And.right (by assumption))))) | exact Nat.ne_of_lt (And.right (And.right (And.right (by assumption)))) | exact Nat.ne_of_gt (And.left (And.right (And.right (And.right (And.right (by assumption)))))) | exact Nat.ne_of_gt (And.right (And.right (And.right (And.right (by assumption))))) | exact Nat.ne_of_lt (And.left (And.right (And.right (And.right (And.right (by assumption)))))) | exact Nat.ne_of_lt (And.right (And.right (And.right (And.right (by assumption))))) | exact Nat.ne_of_gt (And.left (And.right (And.right (And.right (And.right (And.right (by assumption))))))) | exact Nat.ne_of_gt (And.right (And.right (And.right (And.right (And.right (by assumption)))))) | exact Nat.ne_of_lt (And.left (And.right (And.right (And.right (And.right (And.right (by assumption))))))) | exact Nat.ne_of_lt (And.right (And.right (And.right (And.right (And.right (by assumption)))))) | exact Nat.ne_of_gt (And.left (And.right (And.right (And.right (And.right (And.right (And.right (by assumption)))))))) | exact Nat.ne_of_gt (And.right (And.right (And.right (And.right (And.right (And.right (by assumption))))))) | exact Nat.ne_of_lt (And.left (And.right (And.right (And.right (And.right (And.right (And.right (by assumption)))))))) | exact Nat.ne_of_lt (And.right (And.right (And.right (And.right (And.right (And.right (by assumption)))))))))
  (k_with "execs cons" => (k_here; (with_reducible refine gen_toks ?_); intro tkq))
  (k_with "execs nil" => (k_here; (with_reducible refine gen_toks ?_); intro tkq))
  (k_with "execs cons" => (k_here; (with_reducible show wpAny _ _ (execs _ (envOfC (Str.ofString "law") _ _ _ _)) _ _ _); (refine StopHere.mk ?_)))
  (k_with "eval Dict" => (k_here; (with_reducible show wpAny _ _ (eval (PySem.Expr.Dict [none, none] _ _) _) _ _ _); (refine StopHere.mk ?_)))
  (k_with "call ref" => (k_here; (with_reducible show wpAny _ _ (call (Value.ref 203) [_, Value.ref _]) _ _ _); (refine StopHere.mk ?_)))
  (k_with "call ref" => (k_here; (with_reducible show wpAny _ _ (call (Value.ref 210) [_, _]) _ _ _); (refine StopHere.mk ?_)))
  exact trivial
theorem seg5 {w : World} {h₀ : Heap} {L fa : Addr} {cd : Value} {m : Str → Option Value} {s : Shared} {loose : List Str} {mean : ExcName → Option Value} {mg mb : Str → Option Value} {Q : Flow → Shared → Prop} {E : Value → Shared → Prop}
    {oB oN oR oE oF oW oD : Obj} {b x de dw : Addr} {k n z : Int} {t tn : Tok} {nb n0 : Nat} {vs : List Value} {rest : List (Addr × Obj)} {v : Value} {d : Tm} {kw ke : List (Str × Value)} {ρe ρw : Str → Option Int}
    (hN : oN.data = .cell (some (.int n tn))) (hE : oE.data = .cell (some (.ref de)))
    (hn0 : 0 < n) (hn1 : n ≤ 1000000007) (hTd : Tm.In rest v d) (hok : Tm.Ok 3 d) (hz : Ev (fun σ => (ρe σ).or (ρw σ)) d z) (hbz : ∀ σ z, (ρe σ).or (ρw σ) = some z → Builtin.Int.intBits z ≤ 300)
    (mW : (dw, oW) ∈ rest) (lW : (dw == sysModules) = false) (dW : oW.IsDictOf (PySem.strKind PySem.Challenge.rw_pq0025_01.row.prog w) kw) (aW : KvsAre kw ρw) (zW : kw.length = 4)
    (mD : (de, oD) ∈ rest) (lD : (de == sysModules) = false) (dD : oD.IsDictOf (PySem.strKind PySem.Challenge.rw_pq0025_01.row.prog w) ke) (aD : KvsAre ke ρe) (zD : ke.length = 4)
    (B : Below callerA h₀ [] h₀) (F : Fr h₀ L s.heap (fun y => if y = Str.ofString "term" then some v else if y = Str.ofString "written" then some (.ref dw) else m y)) (X : (hd.heap_1 w.params).In h₀)
    (N : News h₀ L s.heap ((b, listOf #[.ref x, .int k t] nb) :: (x, listOf vs.toArray n0) :: (L + 1 + 1 + 1 + 1 + 1, oF) :: (L + 1 + 1 + 1 + 1, oE) :: (L + 1 + 1 + 1, oR) :: (L + 1 + 1, oN) :: (L + 1, oB) :: rest)) (T : Top view loose mean mg mb h₀)
    (cont : ∀ (h' : Heap) (tk' : Nat) (td : Tok), Fr h₀ L h' (fun y => if y = Str.ofString "due" then some (.int (Int.fmod z n) td) else if y = Str.ofString "term" then some v else if y = Str.ofString "written" then some (.ref dw) else m y) →
      News h₀ L h' ((b, listOf #[.ref x, .int k t] nb) :: (x, listOf vs.toArray n0) :: (L + 1 + 1 + 1 + 1 + 1, oF) :: (L + 1 + 1 + 1 + 1, oE) :: (L + 1 + 1 + 1, oR) :: (L + 1 + 1, oN) :: (L + 1, oB) :: rest) →
      wpAny (model PySem.Challenge.rw_pq0025_01.row.prog w) (callerA.deeper (lawEnv L fa cd)) (execs (lawRest 6) (lawEnv L fa cd)) Q E { s with heap := h', toks := tk' }) :
    wpAny (model PySem.Challenge.rw_pq0025_01.row.prog w) (callerA.deeper (lawEnv L fa cd)) (execs (lawRest 5) (lawEnv L fa cd)) Q E s := by
  (revert X; k_fill; intro X)
  have hh := hok.h
  have hbits := hz.bits hbz
  unfold lawEnv
  conv in (lawRest 5) => whnf
  conv =>
    pattern (occs := *) lawScope
    all_goals whnf
  refine wpAny_execs_cons ?_
  k_steps
  refine StopHere.go (star_rule (by k_asm) (by k_asm) (Top.nolimit T) (by repeat (first | exact mW | refine List.Mem.tail _ ?_)) (by repeat (first | exact mD | refine List.Mem.tail _ ?_)) lW lD dW dD (by rw [zW, zD]; decide) ?_ ?_ ?_)
  · intro h1 Q1 E1 F1 N1 hq
    k_steps
    exact hq
  · intro h1 Q1 E1 F1 N1 hq
    k_steps
    exact hq
  intro dm om h2 F2 N2 l2 lo2 dm2
  (try dsimp only)
  k_steps
  have am := ((KvsAre.nil.merged aW (dict_keys dW)).merged aD (dict_keys dD)).congr (ρ' := fun σ => (ρe σ).or (ρw σ)) (fun σ => by simp)
  refine' StopHere.go (WholeSays.use (T0 := d) hbz ?hsz ?B ?F ?X ?N ?T ?hk ?hT (am.env (.head _) lo2 dm2) hz ?hd ?hu (whole_says d) ?_)
  case B => k_asm
  case F => k_asm
  case X => k_asm
  case N => k_asm
  case T => k_asm
  case hk => exact rfl
  case hsz => omega
  case hT => exact hTd.mono fun p hp => by repeat (first | exact hp | refine List.Mem.tail _ ?_)
  case hd => ktr_room
  case hu => ktr_units
  intro tz h3 tk3 F3 N3
  k_steps
  refine' StopHere.go (left_says (z := z) (n := n) hn0 hn1 ?hb2 ?B2 ?F2 ?X2 ?N2 ?T2 ?hk2 ?hd2 ?hu2 ?_)
  case B2 => k_asm
  case F2 => k_asm
  case X2 => k_asm
  case N2 => k_asm
  case T2 => k_asm
  case hk2 => exact rfl
  case hb2 => omega
  case hd2 => ktr_room
  case hu2 => ktr_units
  intro tz2 h4 tk4 F4 N4
  k_steps
  exact StopHere.go (cont _ _ _ (by k_asm) (News.sub (by k_asm) fun p hp => .tail _ hp))
end Mine
end

theorem Mine.reset_L7 : True := by
  w_top off
  k_with_none
  exact trivial
section
open PySem PySem.W PyProof.Rows PySem.Calls PyProof.V
set_option maxRecDepth 100000
set_option maxHeartbeats 800000
namespace Mine
theorem words_L7_1 : True := by
  w_top off
  k_with_none
  (k_with "k_ne" => (refine neN ?_; (try dsimp only); first | assumption | exact Ne.symm (by assumption) | exact Nat.ne_of_gt (by assumption) | exact Nat.ne_of_lt (by assumption) | (refine' Nat.ne_of_gt ?_; iterate 6 (try (first | exact Nat.lt_succ_self _ | refine' Nat.lt_succ_of_lt ?_)); done) | (refine' Nat.ne_of_lt ?_; iterate 6 (try (first | exact Nat.lt_succ_self _ | refine' Nat.lt_succ_of_lt ?_)); done) | exact Nat.ne_of_gt (And.left (by assumption)) | exact Nat.ne_of_lt (And.left (by assumption)) | exact Nat.ne_of_gt (And.left (And.right (by assumption))) | exact Nat.ne_of_gt (And.right (by assumption)) | exact Nat.ne_of_lt (And.left (And.right (by assumption))) | exact Nat.ne_of_lt (And.right (by assumption)) | exact Nat.ne_of_gt (And.left (And.right (And.right (by assumption)))) | exact Nat.ne_of_gt (And.right (And.right (by assumption))) | exact Nat.ne_of_lt (And.left (And.right (And.right (by assumption)))) | exact Nat.ne_of_lt (And.right (And.right (by assumption))) | exact Nat.ne_of_gt (And.left (And.right (And.right (And.right (by assumption))))) | exact Nat.ne_of_gt (And.right (And.right (And.right (by assumption)))) | exact Nat.ne_of_lt (And.left (And.right (And.right (And.right (by assumption))))) | exact Nat.ne_of_lt (And.right (And.right (And.right (by assumption)))) | exact Nat.ne_of_gt (And.left (And.right (And.right (And.right (And.right (by assumption)))))) | exact Nat.ne_of_gt (And.right (And.right (And.right (And.right (by assumption))))) | exact Nat.ne_of_lt (And.left (And.right (And.right (And.right (And.right (by assumption)))))) | exact Nat.ne_of_lt (And.right (And.right (And.right (And.right (by assumption))))) | exact Nat.ne_of_gt (And.left (And.right (And.right (And.right (And.right (And.right (by assumption))))))) | exact Nat.ne_of_gt (And.right (And.right (And.right (And.right (And.right (by assumption)))))) | exact Nat.ne_of_lt (And.left (And.right (And.right (And.right (And.right (And.right (by assumption))))))) | exact Nat.ne_of_lt (And.right (And.right (And.right (And.right (And.right (by assumption)))))) | exact Nat.ne_of_gt (And.left (And.right (And.right (And.right (And.right (And.right (And.right (by assumption)))))))) | exact Nat.ne_of_gt (And.right (And.right (And.right (And.right (And.right (And.right (by assumption))))))) | exact Nat.ne_of_lt (And.left (And.right (And.right (And.right (And.right (And.right (And.right (by assumption)))))))) | exact Nat.ne_of_lt (And.right (And.right (And.right (And.right (And.right (And.right (by assumption)))))))))
  (k_with "execs cons" => (k_here; (with_reducible refine gen_toks ?_); intro tkq))
  (k_with "execs nil" => (k_here; (with_reducible refine gen_toks ?_); intro tkq))
  (k_with "execs cons" => (k_here; (with_reducible show wpAny _ _ (execs _ (envOfC (Str.ofString "law") _ _ _ _)) _ _ _); (refine StopHere.mk ?_)))
  (k_with "call ref" => (k_here; (with_reducible show wpAny _ _ (call (Value.ref 169) [Value.ref _, _, Value.ref _]) _ _ _); (refine StopHere.mk ?_)))
  (k_with "k_mem" => (assumption))
  exact trivial
theorem ne_same {prog : Program} {w : World} {A : Around} {E : Value → Shared → Prop} {s : Shared} {a b : Int} {t u : Tok} {Q : Value → Shared → Prop} (e : a = b) (h : Q (.bool false) s) : wpAny (model prog w) A (compareOp .NotEq (.int a t) (.int b u)) Q E s :=
  ne_int (by rw [e]; simpa using h)
theorem words_L7_2 : True := by
  w_top off
  (k_with "compareOp NotEq int int" => (k_here; k_dflt (refine ne_same (by first | with_reducible rfl | assumption) ?_)))
  exact trivial
theorem seg6 {w : World} {h₀ : Heap} {L fa : Addr} {cd : Value} {m : Str → Option Value} {s : Shared} {loose : List Str} {mean : ExcName → Option Value} {mg mb : Str → Option Value} {Q : Flow → Shared → Prop} {E : Value → Shared → Prop}
    {oB oN oR oE oF oD : Obj} {b x de dw rg : Addr} {k n z : Int} {t tn td : Tok} {nb n0 : Nat} {vs : List Value} {rest : List (Addr × Obj)} {v : Value} {d : Tm} {ke : List (Str × Value)} {ρe ρ' : Str → Option Int}
    (hE : oE.data = .cell (some (.ref de))) (hR : oR.data = .cell (some (.ref rg)))
    (hn0 : 0 < n) (hn1 : n ≤ 1000000007) (hTd : Tm.In rest v d) (hok : Tm.Ok 3 d) (hz : Ev ρ' d z)
    (hbz : ∀ σ z, ρe σ = some z → Builtin.Int.intBits z ≤ 300) (hw : ∀ σ z, ρ' σ = some z → PyData.strOk σ = true ∧ (ρe σ = some z ∨ (ρe σ = none ∧ WOf σ (some z))))
    (hr : RingIn w rest rg n)
    (mD : (de, oD) ∈ rest) (lD : (de == sysModules) = false) (dD : oD.IsDictOf (PySem.strKind PySem.Challenge.rw_pq0025_01.row.prog w) ke) (aD : KvsAre ke ρe)
    (B : Below callerA h₀ [] h₀) (F : Fr h₀ L s.heap (fun y => if y = Str.ofString "due" then some (.int (Int.fmod z n) td) else if y = Str.ofString "term" then some v else if y = Str.ofString "written" then some (.ref dw) else m y)) (X : (hd.heap_1 w.params).In h₀)
    (N : News h₀ L s.heap ((b, listOf #[.ref x, .int k t] nb) :: (x, listOf vs.toArray n0) :: (L + 1 + 1 + 1 + 1 + 1, oF) :: (L + 1 + 1 + 1 + 1, oE) :: (L + 1 + 1 + 1, oR) :: (L + 1 + 1, oN) :: (L + 1, oB) :: rest)) (T : Top view loose mean mg mb h₀)
    (cont : ∀ (h' : Heap) (tk' : Nat), Fr h₀ L h' (fun y => if y = Str.ofString "due" then some (.int (Int.fmod z n) td) else if y = Str.ofString "term" then some v else if y = Str.ofString "written" then some (.ref dw) else m y) →
      News h₀ L h' ((b, listOf #[.ref x, .int k t] nb) :: (x, listOf vs.toArray n0) :: (L + 1 + 1 + 1 + 1 + 1, oF) :: (L + 1 + 1 + 1 + 1, oE) :: (L + 1 + 1 + 1, oR) :: (L + 1 + 1, oN) :: (L + 1, oB) :: rest) →
      wpAny (model PySem.Challenge.rw_pq0025_01.row.prog w) (callerA.deeper (lawEnv L fa cd)) (execs (lawRest 7) (lawEnv L fa cd)) Q E { s with heap := h', toks := tk' }) :
    wpAny (model PySem.Challenge.rw_pq0025_01.row.prog w) (callerA.deeper (lawEnv L fa cd)) (execs (lawRest 6) (lawEnv L fa cd)) Q E s := by
  (revert X; k_fill; intro X)
  have hh := hok.h
  have hrr := hr
  obtain ⟨dx, tx, tnx, kx, hr1, hr2⟩ := hr
  have N1 : News h₀ L s.heap ((rg, _) :: (dx, _) :: _) := News.sub N (List.forall_mem_cons.mpr ⟨by repeat (first | exact hr1 | refine List.Mem.tail _ ?_), List.forall_mem_cons.mpr ⟨by repeat (first | exact hr2 | refine List.Mem.tail _ ?_), fun _ h => h⟩⟩)
  clear N
  unfold lawEnv
  conv in (lawRest 6) => whnf
  conv =>
    pattern (occs := *) lawScope
    all_goals whnf
  refine wpAny_execs_cons ?_
  k_steps
  refine' StopHere.go (ValSays.use (val_says d) hbz hw hn0 hn1 ?B ?F ?X ?N ?T ?hk ?hT ?he ?hr hz ?hd ?hu ?_)
  case B => k_asm
  case F => k_asm
  case X => k_asm
  case N => k_asm
  case T => k_asm
  case hk => exact rfl
  case hT => exact hTd.mono fun p hp => by repeat (first | exact hp | refine List.Mem.tail _ ?_)
  case he => exact (aD.env mD lD dD).mono fun p hp => by repeat (first | exact hp | refine List.Mem.tail _ ?_)
  case hr => exact hrr.mono fun p hp => by repeat (first | exact hp | refine List.Mem.tail _ ?_)
  case hd => ktr_room
  case hu => ktr_units
  intro tz h3 tk3 F3 N3 g0 g1
  k_steps
  exact StopHere.go (cont _ _ (by k_asm) (News.sub (by k_asm) fun p hp => .tail _ (.tail _ hp)))
end Mine
end

theorem Mine.reset_L8 : True := by
  w_top off
  k_with_none
  exact trivial
section
open PySem PySem.W PyProof.Rows PySem.Calls PyProof.V
set_option maxRecDepth 100000
set_option maxHeartbeats 800000
namespace Mine
section
variable (z1 z2 z3 z4 : Int)
theorem env_x : envRho z1 z2 z3 z4 (Str.ofString "x") = some z1 := if_pos rfl
theorem env_y : envRho z1 z2 z3 z4 (Str.ofString "y") = some z2 := (if_neg (by decide +kernel)).trans (if_pos rfl)
theorem env_12 : envRho z1 z2 z3 z4 (Str.ofString "12") = some z3 := (if_neg (by decide +kernel)).trans ((if_neg (by decide +kernel)).trans (if_pos rfl))
theorem env_add : envRho z1 z2 z3 z4 (Str.ofString "add") = some z4 := (if_neg (by decide +kernel)).trans ((if_neg (by decide +kernel)).trans ((if_neg (by decide +kernel)).trans (if_pos rfl)))
end
def Moved (ρ : Str → Option Int) (n : Int) (σ : Str) (z : Int) : Prop := ∃ a q, ρ σ = some a ∧ z = a + n * q ∧ Builtin.Int.intBits z ≤ 300
theorem Moved.at {ρ : Str → Option Int} {n : Int} {σ : Str} {z a : Int} (h : Moved ρ n σ z) (e : ρ σ = some a) : ∃ q, z = a + n * q := by
  obtain ⟨a', q, h1, h2, _⟩ := h
  rw [e] at h1
  cases h1
  exact ⟨q, h2⟩
theorem Moved.bits {ρ : Str → Option Int} {n : Int} {σ : Str} {z : Int} (h : Moved ρ n σ z) : Builtin.Int.intBits z ≤ 300 := by
  obtain ⟨_, _, _, _, h3⟩ := h
  exact h3
theorem words_L8_1 : True := by
  w_top off
  k_with_none
  (k_with "k_ne" => (refine neN ?_; (try dsimp only); first | assumption | exact Ne.symm (by assumption) | exact Nat.ne_of_gt (by assumption) | exact Nat.ne_of_lt (by assumption) | (refine' Nat.ne_of_gt ?_; iterate 6 (try (first | exact Nat.lt_succ_self _ | refine' Nat.lt_succ_of_lt ?_)); done) | (refine' Nat.ne_of_lt ?_; iterate 6 (try (first | exact Nat.lt_succ_self _ | refine' Nat.lt_succ_of_lt ?_)); done) | exact Nat.ne_of_gt (And.left (by assumption)) | exact Nat.ne_of_lt (And.left (by assumption)) | exact Nat.ne_of_gt (And.left (And.right (by assumption))) | exact Nat.ne_of_gt (And.right (by assumption)) | exact Nat.ne_of_lt (And.left (And.right (by assumption))) | exact Nat.ne_of_lt (And.right (by assumption)) | exact Nat.ne_of_gt (And.left (And.right (And.right (by assumption)))) | exact Nat.ne_of_gt (And.right (And.right (by assumption))) | exact Nat.ne_of_lt (And.left (And.right (And.right (by assumption)))) | exact Nat.ne_of_lt (And.right (And.right (by assumption))) | exact Nat.ne_of_gt (And.left (And.right (And.right (And.right (by assumption))))) | exact Nat.ne_of_gt (And.right (And.right (And.right (by assumption)))) | exact Nat.ne_of_lt (And.left (And.right (And.right (And.right (by assumption))))) | exact Nat.ne_of_lt (And.right (And.right (And.right (by assumption)))) | exact Nat.ne_of_gt (And.left (And.right (And.right (And.right (And.right (by assumption)))))) | exact Nat.ne_of_gt (And.right (And.right (And.right (And.right (by assumption))))) | exact Nat.ne_of_lt (And.left (And.right (And.right (And.right (And.right (by assumption)))))) | exact Nat.ne_of_lt (And.right (And.right (And.right (And.right (by assumption))))) | exact Nat.ne_of_gt (And.left (And.right (And.right (And.right (And.right (And.right (by assumption))))))) | exact Nat.ne_of_gt (And.right (And.right (And.right (And.right (And.right (by assumption)))))) | exact Nat.ne_of_lt (And.left (And.right (And.right (And.right (And.right (And.right (by assumption))))))) | exact Nat.ne_of_lt (And.right (And.right (And.right (And.right (And.right (by assumption)))))) | exact Nat.ne_of_gt (And.left (And.right (And.right (And.right (And.right (And.right (And.right (by assumption)))))))) | exact Nat.ne_of_gt (And.right (And.right (And.right (And.right (And.right (And.right (by assumption))))))) | exact Nat.ne_of_lt (And.left (And.right (And.right (And.right (And.right (And.right (And.right (by assumption)))))))) | exact Nat.ne_of_lt (And.right (And.right (And.right (And.right (And.right (And.right (by assumption)))))))))
  (k_with "execs cons" => (k_here; (with_reducible refine gen_toks ?_); intro tkq))
  (k_with "execs nil" => (k_here; (with_reducible refine gen_toks ?_); intro tkq))
  (k_with "execs cons" => (k_here; (with_reducible show wpAny _ _ (execs _ (envOfC (Str.ofString "law") _ _ _ _)) _ _ _); (refine StopHere.mk ?_)))
  (k_with "k_all" => (exact ne_low (by assumption) (by omega)))
  (k_with "k_all" => (exact ne_gt (by assumption)))
  (k_with "eval ListComp" => (k_here; k_dflt (refine comp_tup (F₀ := by k_asm) (by with_unfolding_all rfl) (by decide) (by rfl) (by decide) (by rfl) ?_)))
  (k_with "SrcT" => (refine StopHere.mk ?_))
  (k_with "call ref" => (k_here; (with_reducible show wpAny _ _ (call (Value.ref 191) [Value.ref _]) _ _ _); k_dflt (refine' number_upd ?Bq ?Fq ?Xq ?Nq ?Tq ?hkq ?Uq ?hxq ?hIq ?hlq ?h0q ?h1q ?hbxq ?hdq ?huq ?_; (case Bq => k_asm); (case Fq => k_asm); (case Xq => k_asm); (case Nq => k_asm); (case Tq => k_asm); (case hkq => first | exact rfl | assumption);   (case Uq => k_updF); (case hxq => k_mem); (case hIq => assumption); (case hlq => assumption); (case h0q => omega); (case h1q => omega); (case hbxq => first | assumption | omega); (case hdq => ktr_room); (case huq => ktr_units)); intro v'q t1'q t2'q n'q h'q tk'q F'q N'q hvb'q; (try dsimp only at N'q); (try k_sweep)))
  (k_with "call type:dict" => (k_here; (refine StopHere.mk ?_)))
  (k_with "subscriptTail" => (k_here; (with_reducible show wpAny _ _ (subscriptTail _ _ (Value.ref _) (Value.str _ _)) _ _ _); k_dflt (refine' item_env ?k1q ?k2q ?k3q ?k4q ?_ ?k5q ?k6q; (case k1q => assumption); (case k2q => k_asm); (case k3q => (intro pq hpq; have hpq := (by assumption : ∀ pq ∈ _, pq ∈ _) pq hpq; repeat (first | exact hpq | refine List.Mem.tail _ ?_))); (case k4q => assumption); (case k5q => with_unfolding_all rfl); (case k6q => intro _; with_unfolding_all rfl)); intro tz'q))
  (k_with "binaryOp Mult int int" => (k_dflt (refine mul_int ?_ (mulOk_of_bits (bits_n (by assumption) (by assumption)) (by assumption : Builtin.Int.intBits _ ≤ 200) (by decide)))))
  exact trivial
theorem seg7 {w : World} {h₀ : Heap} {L fa : Addr} {cd : Value} {m : Str → Option Value} {s : Shared} {loose : List Str} {mean : ExcName → Option Value} {mg mb : Str → Option Value} {Q : Flow → Shared → Prop} {E : Value → Shared → Prop}
    {oB oN oR oE oF oD : Obj} {b x de : Addr} {k n z1 z2 z3 z4 : Int} {t tn : Tok} {nb n0 : Nat} {vs : List Value} {ns : List Int} {rest : List (Addr × Obj)} {ke : List (Str × Value)}
    (hB : oB.data = .cell (some (.ref b))) (hN : oN.data = .cell (some (.int n tn))) (hE : oE.data = .cell (some (.ref de)))
    (hI : IntsAre vs ns) (hl : ns.length ≤ 63) (h0 : 0 ≤ k) (h1 : k < 1000) (hbx : x < b) (hLx : L + 5 < x) (hn0 : 0 < n) (hn1 : n ≤ 1000000007)
    (p1 : Builtin.Int.intBits z1 ≤ 200) (p2 : Builtin.Int.intBits z2 ≤ 200) (p3 : Builtin.Int.intBits z3 ≤ 200) (p4 : Builtin.Int.intBits z4 ≤ 200)
    (mD : (de, oD) ∈ rest) (lD : (de == sysModules) = false) (dD : oD.IsDictOf (PySem.strKind PySem.Challenge.rw_pq0025_01.row.prog w) ke) (aD : KvsAre ke (envRho z1 z2 z3 z4))
    (B : Below callerA h₀ [] h₀) (F : Fr h₀ L s.heap m) (X : (hd.heap_1 w.params).In h₀)
    (N : News h₀ L s.heap ((b, listOf #[.ref x, .int k t] nb) :: (x, listOf vs.toArray n0) :: (L + 1 + 1 + 1 + 1 + 1, oF) :: (L + 1 + 1 + 1 + 1, oE) :: (L + 1 + 1 + 1, oR) :: (L + 1 + 1, oN) :: (L + 1, oB) :: rest)) (hrest : ∀ p ∈ rest, @LT.lt Nat _ b p.1) (T : Top view loose mean mg mb h₀)
    (cont : ∀ (dm : Addr) (oM : Obj) (km : List (Str × Value)) (rest' : List (Addr × Obj)) (h' : Heap) (tk' : Nat) (y1 y2 y3 y4 q1 q2 q3 q4 : Int) (t' : Tok) (nb' : Nat), Fr h₀ L h' (fun y => if y = Str.ofString "moved" then some (.ref dm) else m y) →
      News h₀ L h' ((b, listOf #[.ref x, .int (k + 4) t'] nb') :: (x, listOf vs.toArray n0) :: (L + 1 + 1 + 1 + 1 + 1, oF) :: (L + 1 + 1 + 1 + 1, oE) :: (L + 1 + 1 + 1, oR) :: (L + 1 + 1, oN) :: (L + 1, oB) :: rest') → (∀ p ∈ rest', @LT.lt Nat _ b p.1) → (∀ p ∈ rest, p ∈ rest') →
      (dm, oM) ∈ rest' → (dm == sysModules) = false → oM.IsDictOf (PySem.strKind PySem.Challenge.rw_pq0025_01.row.prog w) km → KvsAre km (envRho y1 y2 y3 y4) →
      Builtin.Int.intBits y1 ≤ 300 → Builtin.Int.intBits y2 ≤ 300 → Builtin.Int.intBits y3 ≤ 300 → Builtin.Int.intBits y4 ≤ 300 → y1 = z1 + n * q1 → y2 = z2 + n * q2 → y3 = z3 + n * q3 → y4 = z4 + n * q4 →
      wpAny (model PySem.Challenge.rw_pq0025_01.row.prog w) (callerA.deeper (lawEnv L fa cd)) (execs (lawRest 8) (lawEnv L fa cd)) Q E { s with heap := h', toks := tk' }) :
    wpAny (model PySem.Challenge.rw_pq0025_01.row.prog w) (callerA.deeper (lawEnv L fa cd)) (execs (lawRest 7) (lawEnv L fa cd)) Q E s := by
  (revert X; k_fill; intro X)
  replace hbx := ltN hbx
  replace hLx := ltN hLx
  have hxb : x ≠ b := Nat.ne_of_lt hbx
  have he : EnvIn w rest de (envRho z1 z2 z3 z4) := aD.env mD lD dD
  have hall : ∀ σ ∈ [Str.ofString "x", Str.ofString "y", Str.ofString "12", Str.ofString "add"], ∃ a, envRho z1 z2 z3 z4 σ = some a ∧ Builtin.Int.intBits a ≤ 200 := by
    intro σ hσ
    simp only [List.mem_cons, List.not_mem_nil, or_false] at hσ
    rcases hσ with rfl | rfl | rfl | rfl
    · exact ⟨z1, env_x .., p1⟩
    · exact ⟨z2, env_y .., p2⟩
    · exact ⟨z3, env_12 .., p3⟩
    · exact ⟨z4, env_add .., p4⟩
  unfold lawEnv
  conv in (lawRest 7) => whnf
  conv =>
    pattern (occs := *) lawScope
    all_goals whnf
  refine wpAny_execs_cons ?_
  k_steps
  refine' StopHere.go (SrcT.intro (news := Lg b x [(x, listOf vs.toArray n0), (L + 1 + 1 + 1 + 1 + 1, oF), (L + 1 + 1 + 1 + 1, oE), (L + 1 + 1 + 1, oR), (L + 1 + 1, oN), (L + 1, oB)] k t nb ((_, tupO _) :: rest)) (by rfl) (by k_asm) (toLg (by k_asm)) (.tail _ (List.mem_append_right _ (.head _))) (by exact Nat.le_of_ble_eq_true rfl) ?_)
  intro g'
  refine' rest_nums (σs := [Str.ofString "x", Str.ofString "y", Str.ofString "12", Str.ofString "add"]) (Moved (envRho z1 z2 z3 z4) n) ?hs ?hS ?hg ?turn ?fin
  case hs => exact .cons _ _ (.cons _ _ (.cons _ _ (.cons _ _ .nil)))
  case hS => exact fun k t nb rest hsub => .inr ⟨_, .tail _ (List.mem_append_right _ (hsub _ (.head _)))⟩
  case hg => exact List.forall_mem_cons.mpr ⟨by dsimp only; omega, hrest⟩
  case turn =>
    intro i σ tσ k2 t2 nb2 rest2 ys I' oI' C' oC' D2 m2 h2 tk2 E' hσ hi hk hsub hgt hC' hx' F2 N2 off2 ne2
    simp only [List.length_cons, List.length_nil] at hi
    simp only [Lg, List.cons_append, List.nil_append] at N2
    simp only [Lg, List.cons_append, List.nil_append, LCg.Off3] at off2
    have ob1 := off2.1.1
    have ob2 := off2.1.2.1
    have ob3 := off2.1.2.2
    clear off2
    obtain ⟨aσ, haσ, hbσ⟩ := hall σ hσ
    have hsub2 : ∀ p ∈ rest, p ∈ rest2 := fun p hp => hsub p (.tail _ hp)
    clear hsub
    k_steps
    rename News _ _ _ _ => NZ
    refine NumEnd.mk (fx := [_, _, _, _, _, _]) (by k_asm) NZ ⟨aσ, _, haσ, rfl, ?_⟩ ⟨by omega, by omega, by omega, by omega⟩
    exact Nat.le_trans (bits_add hbσ (bits_mul (bits_n hn0 hn1) (by assumption : Builtin.Int.intBits _ ≤ 200))) (by decide)
  case fin =>
    intro ys ps k2 t2 nb2 rest2 hP hm hok hk hsub hgt D2 h2 tk2 F2 N2 off2
    simp only [Lg, List.cons_append, List.nil_append] at N2
    simp only [Lg, List.cons_append, List.nil_append, LCg.Off1] at off2
    have ob1 := off2.1
    have ob2 := off2.2.1
    have ob3 := off2.2.2.1
    have ob4 := off2.2.2.2.1
    have ob5 := off2.2.2.2.2.1
    have ob6 := off2.2.2.2.2.2.1
    have ob7 := off2.2.2.2.2.2.2.1
    clear off2
    k_steps
    obtain ⟨y1, y2, y3, y4, t1, t2, t3, t4, rfl, r1, r2, r3, r4⟩ := nums4 hm hok
    refine' StopHere.go (dict_rule (by rfl) F2 N2 (Top.nolimit T) (.head _) (hP.mono fun p hp => by repeat (first | exact hp | refine List.Mem.tail _ ?_)) (by rw [← hP.len]; exact Nat.le_of_ble_eq_true rfl) (by simp only [List.map_cons, List.map_nil]; decide +kernel) ?_)
    intro dm oM h3 tk3 F3 N3 l3 lo3 hd3
    (try k_lt l3)
    k_steps
    have e4 : k2 = k + 4 := hk
    subst e4
    obtain ⟨q1, e1⟩ := r1.at (env_x ..)
    obtain ⟨q2, e2⟩ := r2.at (env_y ..)
    obtain ⟨q3, e3⟩ := r3.at (env_12 ..)
    obtain ⟨q4, e4⟩ := r4.at (env_add ..)
    exact StopHere.go (cont _ _ _ (_ :: rest2) _ _ y1 y2 y3 y4 q1 q2 q3 q4 _ _ (by k_asm) (toLg3 (by k_asm)) (List.forall_mem_cons.mpr ⟨by dsimp only; omega, hgt⟩) (fun p hp => .tail _ (hsub p (.tail _ hp))) (.head _) lo3 hd3 (envKvs _ _ _ _ _ _ _ _) r1.bits r2.bits r3.bits r4.bits e1 e2 e3 e4)
end Mine
end

theorem Mine.reset_L9 : True := by
  w_top off
  k_with_none
  exact trivial
section
open PySem PySem.W PyProof.Rows PySem.Calls PyProof.V
set_option maxRecDepth 100000
set_option maxHeartbeats 800000
namespace Mine
theorem words_L9_1 : True := by
  w_top off
  k_with_none
  (k_with "k_ne" => (refine neN ?_; (try dsimp only); first | assumption | exact Ne.symm (by assumption) | exact Nat.ne_of_gt (by assumption) | exact Nat.ne_of_lt (by assumption) | (refine' Nat.ne_of_gt ?_; iterate 6 (try (first | exact Nat.lt_succ_self _ | refine' Nat.lt_succ_of_lt ?_)); done) | (refine' Nat.ne_of_lt ?_; iterate 6 (try (first | exact Nat.lt_succ_self _ | refine' Nat.lt_succ_of_lt ?_)); done) | exact Nat.ne_of_gt (And.left (by assumption)) | exact Nat.ne_of_lt (And.left (by assumption)) | exact Nat.ne_of_gt (And.left (And.right (by assumption))) | exact Nat.ne_of_gt (And.right (by assumption)) | exact Nat.ne_of_lt (And.left (And.right (by assumption))) | exact Nat.ne_of_lt (And.right (by assumption)) | exact Nat.ne_of_gt (And.left (And.right (And.right (by assumption)))) | exact Nat.ne_of_gt (And.right (And.right (by assumption))) | exact Nat.ne_of_lt (And.left (And.right (And.right (by assumption)))) | exact Nat.ne_of_lt (And.right (And.right (by assumption))) | exact Nat.ne_of_gt (And.left (And.right (And.right (And.right (by assumption))))) | exact Nat.ne_of_gt (And.right (And.right (And.right (by assumption)))) | exact Nat.ne_of_lt (And.left (And.right (And.right (And.right (by assumption))))) | exact Nat.ne_of_lt (And.right (And.right (And.right (by assumption)))) | exact Nat.ne_of_gt (And.left (And.right (And.right (And.right (And.right (by assumption)))))) | exact Nat.ne_of_gt (And.right (And.right (And.right (And.right (by assumption))))) | exact Nat.ne_of_lt (And.left (And.right (And.right (And.right (And.right (by assumption)))))) | exact Nat.ne_of_lt (And.right (And.right (And.right (And.right (by assumption))))) | exact Nat.ne_of_gt (And.left (And.right (And.right (And.right (And.right (And.right (by assumption))))))) | exact Nat.ne_of_gt (And.right (And.right (And.right (And.right (And.right (by assumption)))))) | exact Nat.ne_of_lt (And.left (And.right (And.right (And.right (And.right (And.right (by assumption))))))) | exact Nat.ne_of_lt (And.right (And.right (And.right (And.right (And.right (by assumption)))))) | exact Nat.ne_of_gt (And.left (And.right (And.right (And.right (And.right (And.right (And.right (by assumption)))))))) | exact Nat.ne_of_gt (And.right (And.right (And.right (And.right (And.right (And.right (by assumption))))))) | exact Nat.ne_of_lt (And.left (And.right (And.right (And.right (And.right (And.right (And.right (by assumption)))))))) | exact Nat.ne_of_lt (And.right (And.right (And.right (And.right (And.right (And.right (by assumption)))))))))
  (k_with "execs cons" => (k_here; (with_reducible refine gen_toks ?_); intro tkq))
  (k_with "execs nil" => (k_here; (with_reducible refine gen_toks ?_); intro tkq))
  (k_with "execs cons" => (k_here; (with_reducible show wpAny _ _ (execs _ (envOfC (Str.ofString "law") _ _ _ _)) _ _ _); (refine StopHere.mk ?_)))
  (k_with "call ref" => (k_here; (with_reducible show wpAny _ _ (call (Value.ref 169) [Value.ref _, _, Value.ref _]) _ _ _); (refine StopHere.mk ?_)))
  (k_with "k_mem" => (assumption))
  (k_with "compareOp NotEq int int" => (k_here; k_dflt (refine ne_same (by first | with_reducible rfl | assumption) ?_)))
  exact trivial
theorem seg8 {w : World} {h₀ : Heap} {L fa : Addr} {cd : Value} {m : Str → Option Value} {s : Shared} {loose : List Str} {mean : ExcName → Option Value} {mg mb : Str → Option Value} {Q : Flow → Shared → Prop} {E : Value → Shared → Prop}
    {oB oN oR oE oF oD : Obj} {b x de dw rg : Addr} {k n z zd : Int} {t tn td : Tok} {nb n0 : Nat} {vs : List Value} {rest : List (Addr × Obj)} {v : Value} {d : Tm} {ke : List (Str × Value)} {ρe ρ' : Str → Option Int}
    (hR : oR.data = .cell (some (.ref rg)))
    (hn0 : 0 < n) (hn1 : n ≤ 1000000007) (hTd : Tm.In rest v d) (hok : Tm.Ok 3 d) (hz : Ev ρ' d z) (hzd : Int.fmod z n = Int.fmod zd n)
    (hbz : ∀ σ z, ρe σ = some z → Builtin.Int.intBits z ≤ 300) (hw : ∀ σ z, ρ' σ = some z → PyData.strOk σ = true ∧ (ρe σ = some z ∨ (ρe σ = none ∧ WOf σ (some z))))
    (hr : RingIn w rest rg n)
    (mD : (de, oD) ∈ rest) (lD : (de == sysModules) = false) (dD : oD.IsDictOf (PySem.strKind PySem.Challenge.rw_pq0025_01.row.prog w) ke) (aD : KvsAre ke ρe)
    (B : Below callerA h₀ [] h₀) (F : Fr h₀ L s.heap (fun y => if y = Str.ofString "moved" then some (.ref de) else if y = Str.ofString "due" then some (.int (Int.fmod zd n) td) else if y = Str.ofString "term" then some v else if y = Str.ofString "written" then some (.ref dw) else m y)) (X : (hd.heap_1 w.params).In h₀)
    (N : News h₀ L s.heap ((b, listOf #[.ref x, .int k t] nb) :: (x, listOf vs.toArray n0) :: (L + 1 + 1 + 1 + 1 + 1, oF) :: (L + 1 + 1 + 1 + 1, oE) :: (L + 1 + 1 + 1, oR) :: (L + 1 + 1, oN) :: (L + 1, oB) :: rest)) (T : Top view loose mean mg mb h₀)
    (cont : ∀ (h' : Heap) (tk' : Nat), Fr h₀ L h' (fun y => if y = Str.ofString "moved" then some (.ref de) else if y = Str.ofString "due" then some (.int (Int.fmod zd n) td) else if y = Str.ofString "term" then some v else if y = Str.ofString "written" then some (.ref dw) else m y) →
      News h₀ L h' ((b, listOf #[.ref x, .int k t] nb) :: (x, listOf vs.toArray n0) :: (L + 1 + 1 + 1 + 1 + 1, oF) :: (L + 1 + 1 + 1 + 1, oE) :: (L + 1 + 1 + 1, oR) :: (L + 1 + 1, oN) :: (L + 1, oB) :: rest) →
      wpAny (model PySem.Challenge.rw_pq0025_01.row.prog w) (callerA.deeper (lawEnv L fa cd)) (execs (lawRest 9) (lawEnv L fa cd)) Q E { s with heap := h', toks := tk' }) :
    wpAny (model PySem.Challenge.rw_pq0025_01.row.prog w) (callerA.deeper (lawEnv L fa cd)) (execs (lawRest 8) (lawEnv L fa cd)) Q E s := by
  (revert X; k_fill; intro X)
  have hh := hok.h
  have hrr := hr
  obtain ⟨dx, tx, tnx, kx, hr1, hr2⟩ := hr
  have N1 : News h₀ L s.heap ((rg, _) :: (dx, _) :: _) := News.sub N (List.forall_mem_cons.mpr ⟨by repeat (first | exact hr1 | refine List.Mem.tail _ ?_), List.forall_mem_cons.mpr ⟨by repeat (first | exact hr2 | refine List.Mem.tail _ ?_), fun _ h => h⟩⟩)
  clear N
  unfold lawEnv
  conv in (lawRest 8) => whnf
  conv =>
    pattern (occs := *) lawScope
    all_goals whnf
  refine wpAny_execs_cons ?_
  k_steps
  refine' StopHere.go (ValSays.use (val_says d) hbz hw hn0 hn1 ?B ?F ?X ?N ?T ?hk ?hT ?he ?hr hz ?hd ?hu ?_)
  case B => k_asm
  case F => k_asm
  case X => k_asm
  case N => k_asm
  case T => k_asm
  case hk => exact rfl
  case hT => exact hTd.mono fun p hp => by repeat (first | exact hp | refine List.Mem.tail _ ?_)
  case he => exact (aD.env mD lD dD).mono fun p hp => by repeat (first | exact hp | refine List.Mem.tail _ ?_)
  case hr => exact hrr.mono fun p hp => by repeat (first | exact hp | refine List.Mem.tail _ ?_)
  case hd => ktr_room
  case hu => ktr_units
  intro tz h3 tk3 F3 N3 g0 g1
  k_steps
  exact StopHere.go (cont _ _ (by k_asm) (News.sub (by k_asm) fun p hp => .tail _ (.tail _ hp)))
end Mine
end

theorem Mine.reset_L10 : True := by
  w_top off
  k_with_none
  exact trivial
section
open PySem PySem.W PyProof.Rows PySem.Calls PyProof.V
set_option maxRecDepth 100000
set_option maxHeartbeats 800000
namespace Mine
theorem words_L10_1 : True := by
  w_top off
  k_with_none
  (k_with "k_ne" => (refine neN ?_; (try dsimp only); first | assumption | exact Ne.symm (by assumption) | exact Nat.ne_of_gt (by assumption) | exact Nat.ne_of_lt (by assumption) | (refine' Nat.ne_of_gt ?_; iterate 6 (try (first | exact Nat.lt_succ_self _ | refine' Nat.lt_succ_of_lt ?_)); done) | (refine' Nat.ne_of_lt ?_; iterate 6 (try (first | exact Nat.lt_succ_self _ | refine' Nat.lt_succ_of_lt ?_)); done) | exact Nat.ne_of_gt (And.left (by assumption)) | exact Nat.ne_of_lt (And.left (by assumption)) | exact Nat.ne_of_gt (And.left (And.right (by assumption))) | exact Nat.ne_of_gt (And.right (by assumption)) | exact Nat.ne_of_lt (And.left (And.right (by assumption))) | exact Nat.ne_of_lt (And.right (by assumption)) | exact Nat.ne_of_gt (And.left (And.right (And.right (by assumption)))) | exact Nat.ne_of_gt (And.right (And.right (by assumption))) | exact Nat.ne_of_lt (And.left (And.right (And.right (by assumption)))) | exact Nat.ne_of_lt (And.right (And.right (by assumption))) | exact Nat.ne_of_gt (And.left (And.right (And.right (And.right (by assumption))))) | exact Nat.ne_of_gt (And.right (And.right (And.right (by assumption)))) | exact Nat.ne_of_lt (And.left (And.right (And.right (And.right (by assumption))))) | exact Nat.ne_of_lt (And.right (And.right (And.right (by assumption)))) | exact Nat.ne_of_gt (And.left (And.right (And.right (And.right (And.right (by assumption)))))) | exact Nat.ne_of_gt (And.right (And.right (And.right (And.right (by assumption))))) | exact Nat.ne_of_lt (And.left (And.right (And.right (And.right (And.right (by assumption)))))) | exact Nat.ne_of_lt (And.right (And.right (And.right (And.right (by assumption))))) | exact Nat.ne_of_gt (And.left (And.right (And.right (And.right (And.right (And.right (by assumption))))))) | exact Nat.ne_of_gt (And.right (And.right (And.right (And.right (And.right (by assumption)))))) | exact Nat.ne_of_lt (And.left (And.right (And.right (And.right (And.right (And.right (by assumption))))))) | exact Nat.ne_of_lt (And.right (And.right (And.right (And.right (And.right (by assumption)))))) | exact Nat.ne_of_gt (And.left (And.right (And.right (And.right (And.right (And.right (And.right (by assumption)))))))) | exact Nat.ne_of_gt (And.right (And.right (And.right (And.right (And.right (And.right (by assumption))))))) | exact Nat.ne_of_lt (And.left (And.right (And.right (And.right (And.right (And.right (And.right (by assumption)))))))) | exact Nat.ne_of_lt (And.right (And.right (And.right (And.right (And.right (And.right (by assumption)))))))))
  (k_with "execs cons" => (k_here; (with_reducible refine gen_toks ?_); intro tkq))
  (k_with "execs nil" => (k_here; (with_reducible refine gen_toks ?_); intro tkq))
  (k_with "execs cons" => (k_here; (with_reducible show wpAny _ _ (execs _ (envOfC (Str.ofString "law") _ _ _ _)) _ _ _); (refine StopHere.mk ?_)))
  (k_with "k_all" => (exact ne_low (by assumption) (by omega)))
  (k_with "k_all" => (exact ne_gt (by assumption)))
  (k_with "eval ListComp" => (k_here; k_dflt (refine comp_tup (F₀ := by k_asm) (by with_unfolding_all rfl) (by decide) (by rfl) (by decide) (by rfl) ?_)))
  (k_with "SrcT" => (refine StopHere.mk ?_))
  (k_with "call ref" => (k_here; (with_reducible show wpAny _ _ (call (Value.ref 191) [Value.ref _]) _ _ _); k_dflt (refine' number_upd ?Bq ?Fq ?Xq ?Nq ?Tq ?hkq ?Uq ?hxq ?hIq ?hlq ?h0q ?h1q ?hbxq ?hdq ?huq ?_; (case Bq => k_asm); (case Fq => k_asm); (case Xq => k_asm); (case Nq => k_asm); (case Tq => k_asm); (case hkq => first | exact rfl | assumption);   (case Uq => k_updF); (case hxq => k_mem); (case hIq => assumption); (case hlq => assumption); (case h0q => omega); (case h1q => omega); (case hbxq => first | assumption | omega); (case hdq => ktr_room); (case huq => ktr_units)); intro v'q t1'q t2'q n'q h'q tk'q F'q N'q hvb'q; (try dsimp only at N'q); (try k_sweep)))
  (k_with "call type:dict" => (k_here; (refine StopHere.mk ?_)))
  exact trivial
theorem seg9 {w : World} {h₀ : Heap} {L fa : Addr} {cd : Value} {m : Str → Option Value} {s : Shared} {loose : List Str} {mean : ExcName → Option Value} {mg mb : Str → Option Value} {Q : Flow → Shared → Prop} {E : Value → Shared → Prop}
    {oB oN oR oE oF : Obj} {b x : Addr} {k n : Int} {t tn : Tok} {nb n0 : Nat} {vs : List Value} {ns : List Int} {rest : List (Addr × Obj)} {vR vE : Value}
    (hB : oB.data = .cell (some (.ref b))) (hN : oN.data = .cell (some (.int n tn))) (hR : oR.data = .cell (some vR)) (hE : oE.data = .cell (some vE)) (hF : oF.data = .cell none)
    (hI : IntsAre vs ns) (hl : ns.length ≤ 63) (h0 : 0 ≤ k) (h1 : k < 1000) (hbx : x < b) (hLx : L + 5 < x)
    (B : Below callerA h₀ [] h₀) (F : Fr h₀ L s.heap m) (X : (hd.heap_1 w.params).In h₀)
    (N : News h₀ L s.heap ((b, listOf #[.ref x, .int k t] nb) :: (x, listOf vs.toArray n0) :: (L + 1 + 1 + 1 + 1 + 1, oF) :: (L + 1 + 1 + 1 + 1, oE) :: (L + 1 + 1 + 1, oR) :: (L + 1 + 1, oN) :: (L + 1, oB) :: rest)) (hrest : ∀ p ∈ rest, @LT.lt Nat _ b p.1) (T : Top view loose mean mg mb h₀)
    (cont : ∀ (de : Addr) (oE' oD : Obj) (ke : List (Str × Value)) (rest' : List (Addr × Obj)) (h' : Heap) (tk' : Nat) (z1 z2 z3 : Int) (t' : Tok) (nb' : Nat), Fr h₀ L h' m →
      News h₀ L h' ((b, listOf #[.ref x, .int (k + 3) t'] nb') :: (x, listOf vs.toArray n0) :: (L + 1 + 1 + 1 + 1 + 1, oE') :: (L + 1 + 1 + 1 + 1, oE) :: (L + 1 + 1 + 1, oR) :: (L + 1 + 1, oN) :: (L + 1, oB) :: rest') → (∀ p ∈ rest', @LT.lt Nat _ b p.1) → (∀ p ∈ rest, p ∈ rest') →
      oE'.data = .cell (some (.ref de)) → (de, oD) ∈ rest' → (de == sysModules) = false → oD.IsDictOf (PySem.strKind PySem.Challenge.rw_pq0025_01.row.prog w) ke → KvsAre ke (freeRho z1 z2 z3) → ke.length = 3 →
      Builtin.Int.intBits z1 ≤ 200 → Builtin.Int.intBits z2 ≤ 200 → Builtin.Int.intBits z3 ≤ 200 →
      wpAny (model PySem.Challenge.rw_pq0025_01.row.prog w) (callerA.deeper (lawEnv L fa cd)) (execs (lawRest 10) (lawEnv L fa cd)) Q E { s with heap := h', toks := tk' }) :
    wpAny (model PySem.Challenge.rw_pq0025_01.row.prog w) (callerA.deeper (lawEnv L fa cd)) (execs (lawRest 9) (lawEnv L fa cd)) Q E s := by
  (revert X; k_fill; intro X)
  replace hbx := ltN hbx
  replace hLx := ltN hLx
  have hxb : x ≠ b := Nat.ne_of_lt hbx
  unfold lawEnv
  conv in (lawRest 9) => whnf
  conv =>
    pattern (occs := *) lawScope
    all_goals whnf
  refine wpAny_execs_cons ?_
  k_steps
  refine' StopHere.go (SrcT.intro (news := Lg b x [(x, listOf vs.toArray n0), (L + 1 + 1 + 1 + 1 + 1, oF), (L + 1 + 1 + 1 + 1, oE), (L + 1 + 1 + 1, oR), (L + 1 + 1, oN), (L + 1, oB)] k t nb ((_, tupO _) :: rest)) (by rfl) (by k_asm) (toLg (by k_asm)) (.tail _ (List.mem_append_right _ (.head _))) (by exact Nat.le_of_ble_eq_true rfl) ?_)
  intro g'
  refine' rest_nums (σs := [Str.ofString "?a", Str.ofString "?b", Str.ofString "?c"]) (fun _ z => Builtin.Int.intBits z ≤ 200) ?hs ?hS ?hg ?turn ?fin
  case hs => exact .cons _ _ (.cons _ _ (.cons _ _ .nil))
  case hS => exact fun k t nb rest hsub => .inr ⟨_, .tail _ (List.mem_append_right _ (hsub _ (.head _)))⟩
  case hg => exact List.forall_mem_cons.mpr ⟨by dsimp only; omega, hrest⟩
  case turn =>
    intro i σ tσ k2 t2 nb2 rest2 ys I' oI' C' oC' D2 m2 h2 tk2 E' hσ hi hk hsub hgt hC' hx' F2 N2 off2 ne2
    simp only [List.length_cons, List.length_nil] at hi
    simp only [Lg, List.cons_append, List.nil_append] at N2
    simp only [Lg, List.cons_append, List.nil_append, LCg.Off3] at off2
    have ob1 := off2.1.1
    have ob2 := off2.1.2.1
    have ob3 := off2.1.2.2
    clear off2
    k_steps
    rename News _ _ _ _ => NZ
    exact NumEnd.mk (fx := [_, _, _, _, _, _]) (by k_asm) NZ (by assumption) ⟨by omega, by omega, by omega, by omega⟩
  case fin =>
    intro ys ps k2 t2 nb2 rest2 hP hm hok hk hsub hgt D2 h2 tk2 F2 N2 off2
    simp only [Lg, List.cons_append, List.nil_append] at N2
    simp only [Lg, List.cons_append, List.nil_append, LCg.Off1] at off2
    have ob1 := off2.1
    have ob2 := off2.2.1
    have ob3 := off2.2.2.1
    have ob4 := off2.2.2.2.1
    have ob5 := off2.2.2.2.2.1
    have ob6 := off2.2.2.2.2.2.1
    have ob7 := off2.2.2.2.2.2.2.1
    clear off2
    k_steps
    obtain ⟨z1, z2, z3, t1, t2, t3, rfl, p1, p2, p3⟩ := nums3 hm hok
    refine' StopHere.go (dict_rule (by rfl) F2 N2 (Top.nolimit T) (.head _) (hP.mono fun p hp => by repeat (first | exact hp | refine List.Mem.tail _ ?_)) (by rw [← hP.len]; exact Nat.le_of_ble_eq_true rfl) (by simp only [List.map_cons, List.map_nil]; decide +kernel) ?_)
    intro de oD h3 tk3 F3 N3 l3 lo3 hd3
    (try k_lt l3)
    k_steps
    have e4 : k2 = k + 3 := hk
    subst e4
    exact StopHere.go (cont _ _ _ _ (_ :: rest2) _ _ z1 z2 z3 _ _ (by k_asm) (toLg3 (by k_asm)) (List.forall_mem_cons.mpr ⟨by dsimp only; omega, hgt⟩) (fun p hp => .tail _ (hsub p (.tail _ hp))) (by assumption) (.head _) lo3 hd3 (freeKvs _ _ _ _ _ _) rfl p1 p2 p3)
end Mine
end

theorem Mine.reset_L11 : True := by
  w_top off
  k_with_none
  exact trivial
section
open PySem PySem.W PyProof.Rows PySem.Calls PyProof.V
set_option maxRecDepth 100000
set_option maxHeartbeats 800000
namespace Mine
theorem merged_len {ka kb : List (Str × Value)} (ha : ka.length ≤ 20) (hb : kb.length ≤ 20) : (merged (merged [] ka) kb).length ≤ 40 := by
  have h1 := merged_length_le (merged [] ka) kb
  have h2 := merged_length_le ([] : List (Str × Value)) ka
  simp only [List.length_nil] at h2
  omega
theorem words_L11_1 : True := by
  w_top off
  k_with_none
  (k_with "k_ne" => (refine neN ?_; (try dsimp only); first | assumption | exact Ne.symm (by assumption) | exact Nat.ne_of_gt (by assumption) | exact Nat.ne_of_lt (by assumption) | (refine' Nat.ne_of_gt ?_; iterate 6 (try (first | exact Nat.lt_succ_self _ | refine' Nat.lt_succ_of_lt ?_)); done) | (refine' Nat.ne_of_lt ?_; iterate 6 (try (first | exact Nat.lt_succ_self _ | refine' Nat.lt_succ_of_lt ?_)); done) | exact Nat.ne_of_gt (And.left (by assumption)) | exact Nat.ne_of_lt (And.left (by assumption)) | exact Nat.ne_of_gt (And.left (And.right (by assumption))) | exact Nat.ne_of_gt (And.right (by assumption)) | exact Nat.ne_of_lt (And.left (And.right (by assumption))) | exact Nat.ne_of_lt (And.right (by assumption)) | exact Nat.ne_of_gt (And.left (And.right (And.right (by assumption)))) | exact Nat.ne_of_gt (And.right (And.right (by assumption))) | exact Nat.ne_of_lt (And.left (And.right (And.right (by assumption)))) | exact Nat.ne_of_lt (And.right (And.right (by assumption))) | exact Nat.ne_of_gt (And.left (And.right (And.right (And.right (by assumption))))) | exact Nat.ne_of_gt (And.right (And.right (And.right (by assumption)))) | exact Nat.ne_of_lt (And.left (And.right (And.right (And.right (by assumption))))) | exact Nat.ne_of_lt (And.right (And.right (And.right (by assumption)))) | exact Nat.ne_of_gt (And.left (And.right (And.right (And.right (And.right (by assumption)))))) | exact Nat.ne_of_gt (And.right (And.right (And.right (And.right (by assumption))))) | exact Nat.ne_of_lt (And.left (And.right (And.right (And.right (And.right (by assumption)))))) | exact Nat.ne_of_lt (And.right (And.right (And.right (And.right (by assumption))))) | exact Nat.ne_of_gt (And.left (And.right (And.right (And.right (And.right (And.right (by assumption))))))) | exact Nat.ne_of_gt (And.right (And.right (And.right (And.right (And.right (by assumption)))))) | exact Nat.ne_of_lt (And.left (And.right (And.right (And.right (And.right (And.right (by assumption))))))) | exact Nat.ne_of_lt (And.right (And.right (And.right (And.right (And.right (by assumption)))))) | exact Nat.ne_of_gt (And.left (And.right (And.right (And.right (And.right (And.right (And.right (by assumption)))))))) | exact Nat.ne_of_gt (And.right (And.right (And.right (And.right (And.right (And.right (by assumption))))))) | exact Nat.ne_of_lt (And.left (And.right (And.right (And.right (And.right (And.right (And.right (by assumption)))))))) | exact Nat.ne_of_lt (And.right (And.right (And.right (And.right (And.right (And.right (by assumption)))))))))
  (k_with "execs cons" => (k_here; (with_reducible refine gen_toks ?_); intro tkq))
  (k_with "execs nil" => (k_here; (with_reducible refine gen_toks ?_); intro tkq))
  (k_with "execs cons" => (k_here; (with_reducible show wpAny _ _ (execs _ (envOfC (Str.ofString "law") _ _ _ _)) _ _ _); (refine StopHere.mk ?_)))
  (k_with "eval Dict" => (k_here; (with_reducible show wpAny _ _ (eval (PySem.Expr.Dict [none, none] _ _) _) _ _ _); (refine StopHere.mk ?_)))
  (k_with "setItem ref str" => (k_here; (refine StopHere.mk ?_)))
  exact trivial
theorem toLg4 {h₀ h : Heap} {L : Addr} {e b x c5 c4 c3 c2 c1 : Addr × Obj} {rest : List (Addr × Obj)} (N : News h₀ L h (e :: b :: x :: c5 :: c4 :: c3 :: c2 :: c1 :: rest)) : News h₀ L h (b :: x :: c5 :: c4 :: c3 :: c2 :: c1 :: e :: rest) := News.sub N fun p hp => by
  simp only [List.mem_cons] at hp ⊢
  rcases hp with h | h | h | h | h | h | h | h | h <;> simp [h]
theorem seg10 {w : World} {h₀ : Heap} {L fa : Addr} {cd : Value} {m : Str → Option Value} {s : Shared} {loose : List Str} {mean : ExcName → Option Value} {mg mb : Str → Option Value} {Q : Flow → Shared → Prop} {E : Value → Shared → Prop}
    {oB oN oR oE oF oW oD : Obj} {b x df dw : Addr} {k n : Int} {t tn : Tok} {nb n0 : Nat} {vs : List Value} {rest : List (Addr × Obj)} {v vd vm : Value} {kw kf : List (Str × Value)} {ρf ρw : Str → Option Int}
    (hN : oN.data = .cell (some (.int n tn))) (hF : oF.data = .cell (some (.ref df)))
    (hn0 : 0 < n) (hn1 : n ≤ 1000000007)
    (mW : (dw, oW) ∈ rest) (lW : (dw == sysModules) = false) (dW : oW.IsDictOf (PySem.strKind PySem.Challenge.rw_pq0025_01.row.prog w) kw) (aW : KvsAre kw ρw) (zW : kw.length = 4)
    (mD : (df, oD) ∈ rest) (lD : (df == sysModules) = false) (dD : oD.IsDictOf (PySem.strKind PySem.Challenge.rw_pq0025_01.row.prog w) kf) (aD : KvsAre kf ρf) (zD : kf.length = 3)
    (B : Below callerA h₀ [] h₀) (F : Fr h₀ L s.heap (fun y => if y = Str.ofString "moved" then some vm else if y = Str.ofString "due" then some vd else if y = Str.ofString "term" then some v else if y = Str.ofString "written" then some (.ref dw) else m y)) (X : (hd.heap_1 w.params).In h₀)
    (N : News h₀ L s.heap ((b, listOf #[.ref x, .int k t] nb) :: (x, listOf vs.toArray n0) :: (L + 1 + 1 + 1 + 1 + 1, oF) :: (L + 1 + 1 + 1 + 1, oE) :: (L + 1 + 1 + 1, oR) :: (L + 1 + 1, oN) :: (L + 1, oB) :: rest)) (T : Top view loose mean mg mb h₀)
    (cont : ∀ (dk : Addr) (oK : Obj) (kk : List (Str × Value)) (rest' : List (Addr × Obj)) (h' : Heap) (tk' : Nat), Fr h₀ L h' (fun y => if y = Str.ofString "known" then some (.ref dk) else if y = Str.ofString "moved" then some vm else if y = Str.ofString "due" then some vd else if y = Str.ofString "term" then some v else if y = Str.ofString "written" then some (.ref dw) else m y) →
      News h₀ L h' ((b, listOf #[.ref x, .int k t] nb) :: (x, listOf vs.toArray n0) :: (L + 1 + 1 + 1 + 1 + 1, oF) :: (L + 1 + 1 + 1 + 1, oE) :: (L + 1 + 1 + 1, oR) :: (L + 1 + 1, oN) :: (L + 1, oB) :: rest') → (∀ p ∈ rest, p ∈ rest') →
      (dk, oK) ∈ rest' → (dk == sysModules) = false → oK.IsDictOf (PySem.strKind PySem.Challenge.rw_pq0025_01.row.prog w) kk → KvsAre kk (fun σ => if nTxt n = σ then some n else (ρf σ).or (ρw σ)) →
      wpAny (model PySem.Challenge.rw_pq0025_01.row.prog w) (callerA.deeper (lawEnv L fa cd)) (execs (lawRest 12) (lawEnv L fa cd)) Q E { s with heap := h', toks := tk' }) :
    wpAny (model PySem.Challenge.rw_pq0025_01.row.prog w) (callerA.deeper (lawEnv L fa cd)) (execs (lawRest 10) (lawEnv L fa cd)) Q E s := by
  (revert X; k_fill; intro X)
  unfold lawEnv
  conv in (lawRest 10) => whnf
  conv =>
    pattern (occs := *) lawScope
    all_goals whnf
  refine wpAny_execs_cons ?_
  k_steps
  refine StopHere.go (star_rule (by k_asm) (by k_asm) (Top.nolimit T) (by repeat (first | exact mW | refine List.Mem.tail _ ?_)) (by repeat (first | exact mD | refine List.Mem.tail _ ?_)) lW lD dW dD (by rw [zW, zD]; decide) ?_ ?_ ?_)
  · intro h1 Q1 E1 F1 N1 hq
    k_steps
    exact hq
  · intro h1 Q1 E1 F1 N1 hq
    k_steps
    exact hq
  intro dm om h2 F2 N2 l2 lo2 dm2
  (try dsimp only)
  k_steps
  refine StopHere.go (gen_toks ?_)
  intro tk9
  refine wpAny_execs_cons ?_
  k_steps
  refine StopHere.go (kda_set (knd := PySem.strKind _ _) (k := nTxt n) (by k_asm) (by k_asm) (UpdF.head fun p hp => Nat.ne_of_lt (l2 p hp)) dm2 (strKind_is _ _ _ _) (Nat.le_trans (merged_len (by omega) (by omega)) (by rw [sizeLine_eq]; decide)) ?_)
  intro h5 o5 F5 N5 d5
  (try dsimp only at N5)
  k_steps
  have am := (((KvsAre.nil.merged aW (dict_keys dW)).merged aD (dict_keys dD)).stored (nTxt n) n tn).congr (ρ' := fun σ => if nTxt n = σ then some n else (ρf σ).or (ρw σ)) (fun σ => by simp)
  exact StopHere.go (cont _ _ _ (_ :: rest) _ _ (by k_asm) (toLg4 (by k_asm)) (fun p hp => .tail _ hp) (.head _) lo2 d5 am)
end Mine
end

theorem Mine.reset_L12 : True := by
  w_top off
  k_with_none
  exact trivial
section
open PySem PySem.W PyProof.Rows PySem.Calls PyProof.V
set_option maxRecDepth 100000
set_option maxHeartbeats 800000
namespace Mine
theorem ValSays.use2 {T0 : Tm} {w : World} {dp un : Nat} {gd : Option (List Code)} {cn : Str} {cs : Scope} {a : Addr} {ccd : Value} {cl : List (Str × Addr)} {outer : List Env} {A₀ : Around} {base h₀ : Heap} {L : Addr} {m : Str → Option Value} {s : Shared} {loose : List Str} {mean : ExcName → Option Value} {mg mb : Str → Option Value}
    {Q E : Value → Shared → Prop} {news : List (Addr × Obj)} {v : Value} {de rg : Addr} {ρ ρ' : Str → Option Int} {z n y : Int}
    (_hT : Tm.In news v T0) (_hv : Ev ρ' T0 z) (_hy : Int.fmod z n = y)
    (_hb : ∀ σ z, ρ σ = some z → Builtin.Int.intBits z ≤ 300) (_hw : ∀ σ z, ρ' σ = some z → PyData.strOk σ = true ∧ (ρ σ = some z ∨ (ρ σ = none ∧ WOf σ (some z))))
    (_n0 : 0 < n) (_n1 : n ≤ 1000000007)
    (_B : Below A₀ base outer h₀) (_F : Fr h₀ L s.heap m) (_X : (hd.heap_1 w.params).In h₀)
    (_N : News h₀ L s.heap news) (_T : Top view loose mean mg mb h₀) (_hk : cs.kind = .function)
    (_he : EnvIn w news de ρ) (_hr : RingIn w news rg n)
    (_hz : T0.h ≤ 20) (_hd : dp + 30 < recursionLimit) (_hu : un + 1000 < cLine)
    (_ret : ∀ t h' tk', Fr h₀ L h' m → News h₀ L h' news → Q (.int y t) { s with heap := h', toks := tk' }) :
    wpAny (model PySem.Challenge.rw_pq0025_01.row.prog w) (ktrTop dp un gd cn cs L a ccd cl outer) (call (.ref 169) [.ref rg, v, .ref de]) Q E s := by
  subst _hy
  exact ValSays.use (val_says T0) _hb _hw _n0 _n1 _B _F _X _N _T _hk _hT _he _hr _hv (by omega) (by omega) fun t h' tk' a b _ _ => _ret t h' tk' a b
theorem left_use {w : World} {dp un : Nat} {gd : Option (List Code)} {cn : Str} {cs : Scope} {a : Addr} {ccd : Value} {cl : List (Str × Addr)} {outer : List Env} {A₀ : Around} {base h₀ : Heap} {L : Addr} {m : Str → Option Value} {s : Shared} {loose : List Str} {mean : ExcName → Option Value} {mg mb : Str → Option Value}
    {Q E : Value → Shared → Prop} {news : List (Addr × Obj)} {z n y : Int} {tz tn : Tok}
    (hy : Int.fmod z n = y) (hn0 : 0 < n) (hn1 : n ≤ 1000000007) (hb : Builtin.Int.intBits z ≤ 300000)
    (B : Below A₀ base outer h₀) (F : Fr h₀ L s.heap m) (X : (hd.heap_1 w.params).In h₀)
    (N : News h₀ L s.heap news) (T : Top view loose mean mg mb h₀) (hk : cs.kind = .function)
    (hd : dp + 4 < recursionLimit) (hu : un + 100 < cLine)
    (ret : ∀ t h' tk', Fr h₀ L h' m → News h₀ L h' news → Q (.int y t) { s with heap := h', toks := tk' }) :
    wpAny (model PySem.Challenge.rw_pq0025_01.row.prog w) (ktrTop dp un gd cn cs L a ccd cl outer) (call (.ref 210) [.int n tn, .int z tz]) Q E s := by
  subst hy
  exact left_says hn0 hn1 hb B F X N T hk hd hu ret
theorem RestL.eqm {prog : Program} {w : World} {A : Around} {E : Value → Shared → Prop} {s : Shared} {env : Env} {h₀ : Heap} {target : PySem.Expr} {body : List Stmt} {Q : Flow → Shared → Prop} {I ax : Addr} {lo : Obj} {vs : List Value} {m m' : Str → Option Value} {news : List (Addr × Obj)}
    (e : ∀ y, m y = m' y) (h : RestL prog w A E h₀ env target body Q s I ax lo vs m' news) : RestL prog w A E h₀ env target body Q s I ax lo vs m news := by
  rw [funext e]; exact h
theorem Fr.eq {h₀ h : Heap} {L : Addr} {m m' : Str → Option Value} (F : Fr h₀ L h m) (e : ∀ y, m y = m' y) : Fr h₀ L h m' := by
  rw [← funext e]; exact F
theorem words_L12_1 : True := by
  w_top off
  k_with_none
  (k_with "k_ne" => (refine neN ?_; (try dsimp only); first | assumption | exact Ne.symm (by assumption) | exact Nat.ne_of_gt (by assumption) | exact Nat.ne_of_lt (by assumption) | (refine' Nat.ne_of_gt ?_; iterate 6 (try (first | exact Nat.lt_succ_self _ | refine' Nat.lt_succ_of_lt ?_)); done) | (refine' Nat.ne_of_lt ?_; iterate 6 (try (first | exact Nat.lt_succ_self _ | refine' Nat.lt_succ_of_lt ?_)); done) | exact Nat.ne_of_gt (And.left (by assumption)) | exact Nat.ne_of_lt (And.left (by assumption)) | exact Nat.ne_of_gt (And.left (And.right (by assumption))) | exact Nat.ne_of_gt (And.right (by assumption)) | exact Nat.ne_of_lt (And.left (And.right (by assumption))) | exact Nat.ne_of_lt (And.right (by assumption)) | exact Nat.ne_of_gt (And.left (And.right (And.right (by assumption)))) | exact Nat.ne_of_gt (And.right (And.right (by assumption))) | exact Nat.ne_of_lt (And.left (And.right (And.right (by assumption)))) | exact Nat.ne_of_lt (And.right (And.right (by assumption))) | exact Nat.ne_of_gt (And.left (And.right (And.right (And.right (by assumption))))) | exact Nat.ne_of_gt (And.right (And.right (And.right (by assumption)))) | exact Nat.ne_of_lt (And.left (And.right (And.right (And.right (by assumption))))) | exact Nat.ne_of_lt (And.right (And.right (And.right (by assumption)))) | exact Nat.ne_of_gt (And.left (And.right (And.right (And.right (And.right (by assumption)))))) | exact Nat.ne_of_gt (And.right (And.right (And.right (And.right (by assumption))))) | exact Nat.ne_of_lt (And.left (And.right (And.right (And.right (And.right (by assumption)))))) | exact Nat.ne_of_lt (And.right (And.right (And.right (And.right (by assumption))))) | exact Nat.ne_of_gt (And.left (And.right (And.right (And.right (And.right (And.right (by assumption))))))) | exact Nat.ne_of_gt (And.right (And.right (And.right (And.right (And.right (by assumption)))))) | exact Nat.ne_of_lt (And.left (And.right (And.right (And.right (And.right (And.right (by assumption))))))) | exact Nat.ne_of_lt (And.right (And.right (And.right (And.right (And.right (by assumption)))))) | exact Nat.ne_of_gt (And.left (And.right (And.right (And.right (And.right (And.right (And.right (by assumption)))))))) | exact Nat.ne_of_gt (And.right (And.right (And.right (And.right (And.right (And.right (by assumption))))))) | exact Nat.ne_of_lt (And.left (And.right (And.right (And.right (And.right (And.right (And.right (by assumption)))))))) | exact Nat.ne_of_lt (And.right (And.right (And.right (And.right (And.right (And.right (by assumption)))))))))
  (k_with "execs cons" => (k_here; (with_reducible refine gen_toks ?_); intro tkq))
  (k_with "execs nil" => (k_here; (with_reducible refine gen_toks ?_); intro tkq))
  (k_with "exec For Name Call cons nil" => (k_here; (rename Fr _ _ _ _ => lF'q); (with_unfolding_all refine' For_list lF'q ?_; k_whole)))
  (k_with "SrcFor" => (refine StopHere.mk ?_))
  (k_with "ForPost" => (dsimp only [ForPost]))
  (k_with "ForEnd" => (refine StopHere.mk ?_))
  (k_with "call ref" => (k_here; (with_reducible show wpAny _ _ (call (Value.ref 203) [_, Value.ref _]) _ _ _); (refine StopHere.mk ?_)))
  (k_with "call ref" => (k_here; (with_reducible show wpAny _ _ (call (Value.ref 210) [_, _]) _ _ _); (refine StopHere.mk ?_)))
  (k_with "call ref" => (k_here; (with_reducible show wpAny _ _ (call (Value.ref 164) _) _ _ _); (refine StopHere.mk ?_)))
  (k_with "eval ListComp" => (k_here; k_dflt (refine comp_tup (F₀ := by k_asm) (by with_unfolding_all rfl) (by decide) (by rfl) (by decide) (by rfl) ?_)))
  (k_with "SrcT" => (k_here; k_dflt (refine SrcT.intro (by rfl) (by k_asm) (by k_asm) (by k_mem) (by first | size_fits | exact Nat.le_of_ble_eq_true rfl) ?_; intro g'q; lcg_lit)))
  (k_with "CompRest" => (with_unfolding_all first
  | (refine LCg.CompRest.succ ?_; intro v'q I'q oI'q C'q oC'q D'q m'q h'q tk'q E'q hv'q hC'q hx'q F'q N'q off'q ne'q; lcg_open hv'q)
  | refine LCg.CompRest.zero ?_))
  (k_with "CompEnd" => (refine CompEnd.same (by k_asm) (by k_asm) (by assumption) (Or.inr ⟨_, by k_mem⟩) ?_))
  (k_with "call ref" => (k_here; (with_reducible show wpAny _ _ (call (Value.ref 169) [Value.ref _, _, Value.ref _]) _ _ _); k_dflt (refine' ValSays.use2 ?hTq ?hvq ?hyq ?hbq ?hwq ?n0q ?n1q ?Bq ?Fq ?Xq ?Nq ?Tq ?hkq ?heq ?hrq ?hzq ?hdq ?huq ?_; (case Bq => k_asm); (case Fq => k_asm); (case Xq => k_asm); (case Nq => k_asm); (case Tq => k_asm); (case hkq => first | exact rfl | assumption); (case hTq => (refine Tm.In.mono ?_ (by assumption); (intro pq hpq; repeat (first | exact hpq | refine List.Mem.tail _ ?_)))); (case hvq => assumption); (case hyq => assumption); (case heq => (refine EnvIn.mono ?_ (by assumption); (intro pq hpq; repeat (first | exact hpq | refine List.Mem.tail _ ?_)))); (case hrq => (refine RingIn.mono ?_ (by assumption); (intro pq hpq; repeat (first | exact hpq | refine List.Mem.tail _ ?_)))); (case hbq => assumption); (case hwq => assumption); (case n0q => assumption); (case n1q => assumption); (case hzq => assumption); (case hdq => ktr_room); (case huq => ktr_units)); intro tz'q h'q tk'q F'q N'q; (try k_sweep)))
  (k_with "execs cons" => k_fold)
  exact trivial
theorem seg12 {w : World} {h₀ : Heap} {L fa : Addr} {cd : Value} {m : Str → Option Value} {s : Shared} {loose : List Str} {mean : ExcName → Option Value} {mg mb : Str → Option Value} {Q : Flow → Shared → Prop} {E : Value → Shared → Prop}
    {oN oR oF oK oD : Obj} {df dk rg : Addr} {n : Int} {tn : Tok} {rest : List (Addr × Obj)} {v vd vm vw : Value} {kk kf : List (Str × Value)} {ρf ρk : Str → Option Int}
    (hN : oN.data = .cell (some (.int n tn))) (hR : oR.data = .cell (some (.ref rg))) (hF : oF.data = .cell (some (.ref df)))
    (hn : RingN n)
    (mK : (dk, oK) ∈ rest) (lK : (dk == sysModules) = false) (dK : oK.IsDictOf (PySem.strKind PySem.Challenge.rw_pq0025_01.row.prog w) kk) (aK : KvsAre kk ρk)
    (mD : (df, oD) ∈ rest) (lD : (df == sysModules) = false) (dD : oD.IsDictOf (PySem.strKind PySem.Challenge.rw_pq0025_01.row.prog w) kf) (aD : KvsAre kf ρf)
    (hbk : ∀ σ z, ρk σ = some z → Builtin.Int.intBits z ≤ 300) (hbf : ∀ σ z, ρf σ = some z → Builtin.Int.intBits z ≤ 300)
    (hw : ∀ σ z, ρk σ = some z → PyData.strOk σ = true ∧ (ρf σ = some z ∨ (ρf σ = none ∧ WOf σ (some z))))
    (good : ∀ T ∈ ringRules n, ∃ zl zr, Ev ρk T.1 zl ∧ Ev ρk T.2 zr ∧ Int.fmod zr n = Int.fmod zl n ∧ T.1.h ≤ 20 ∧ T.2.h ≤ 20)
    (hr : RingIn w rest rg n) (hPE : PassesOwn (model PySem.Challenge.rw_pq0025_01.row.prog w) (callerA.deeper (lawEnv L fa cd)) (lawEnv L fa cd) E)
    (B : Below callerA h₀ [] h₀) (F : Fr h₀ L s.heap (fun y => if y = Str.ofString "known" then some (.ref dk) else if y = Str.ofString "moved" then some vm else if y = Str.ofString "due" then some vd else if y = Str.ofString "term" then some v else if y = Str.ofString "written" then some vw else m y)) (X : (hd.heap_1 w.params).In h₀)
    (N : News h₀ L s.heap ((L + 1 + 1 + 1 + 1 + 1, oF) :: (L + 1 + 1 + 1, oR) :: (L + 1 + 1, oN) :: rest)) (T : Top view loose mean mg mb h₀)
    (cont : ∀ (rest' : List (Addr × Obj)) (h' : Heap) (d' : Drawn) (tk' : Nat) (od or' : Option Value), Fr h₀ L h' (fun y => if y = Str.ofString "due" then od else if y = Str.ofString "rule" then or' else if y = Str.ofString "known" then some (.ref dk) else if y = Str.ofString "moved" then some vm else if y = Str.ofString "term" then some v else if y = Str.ofString "written" then some vw else m y) →
      News h₀ L h' rest' → (∀ p ∈ (L + 1 + 1 + 1 + 1 + 1, oF) :: (L + 1 + 1 + 1, oR) :: (L + 1 + 1, oN) :: rest, p ∈ rest') →
      wpAny (model PySem.Challenge.rw_pq0025_01.row.prog w) (callerA.deeper (lawEnv L fa cd)) (execs (lawRest 13) (lawEnv L fa cd)) Q E { s with heap := h', drawn := d', toks := tk' }) :
    wpAny (model PySem.Challenge.rw_pq0025_01.row.prog w) (callerA.deeper (lawEnv L fa cd)) (execs (lawRest 12) (lawEnv L fa cd)) Q E s := by
  (revert X; k_fill; intro X)
  have hn0 := hn.pos
  have hn1 := hn.le
  have hrr := hr
  obtain ⟨dx, tx, tnx, kx, hr1, hr2⟩ := hr
  have N1 : News h₀ L s.heap ((rg, _) :: (dx, _) :: _) := News.sub N (List.forall_mem_cons.mpr ⟨by repeat (first | exact hr1 | refine List.Mem.tail _ ?_), List.forall_mem_cons.mpr ⟨by repeat (first | exact hr2 | refine List.Mem.tail _ ?_), fun _ h => h⟩⟩)
  clear N
  unfold lawEnv
  conv in (lawRest 12) => whnf
  conv =>
    pattern (occs := *) lawScope
    all_goals whnf
  refine wpAny_execs_cons ?_
  refine For_list F ?_ (hE := hPE)
  k_steps
  refine' StopHere.go (rules_says hn ?B ?F ?X ?N ?T ?hk ?hr ?hd ?hu ?_)
  case B => k_asm
  case F => k_asm
  case X => k_asm
  case N => k_asm
  case T => k_asm
  case hk => exact rfl
  case hr => exact hrr.mono fun p hp => by repeat (first | exact hp | refine List.Mem.tail _ ?_)
  case hd => ktr_room
  case hu => ktr_units
  intro D9 vs9 rest9 h9 d9 tk9 F9 N9 sub9 R9
  k_steps
  refine StopHere.go (SrcFor.mk (by rfl) F9 N9 (.head _) rfl rfl ?_)
  intro I hI
  clear N9
  obtain ⟨od, hod⟩ : ∃ o : Option Value, o = some vd := ⟨_, rfl⟩
  obtain ⟨or', hor⟩ : ∃ o : Option Value, o = m (Str.ofString "rule") := ⟨_, rfl⟩
  refine RestL.eqm (m' := fun y => if y = Str.ofString "due" then od else if y = Str.ofString "rule" then or' else if y = Str.ofString "known" then some (.ref dk) else if y = Str.ofString "moved" then some vm else if y = Str.ofString "term" then some v else if y = Str.ofString "written" then some vw else m y) (fun y => ?_) ?_
  · subst hod hor
    by_cases e1 : y = Str.ofString "due"
    · subst e1; rfl
    by_cases e2 : y = Str.ofString "rule"
    · subst e2; rfl
    simp only [if_neg e1, if_neg e2]
  clear hod hor F9
  generalize listOf (List.toArray vs9) 0 = lo at hI ⊢
  generalize ringRules n = Ts at R9 good
  have hm1 : (L + 1 + 1 + 1 + 1 + 1, oF) ∈ rest9 := sub9 _ (.tail _ (.tail _ (.head _)))
  have hm2 : (L + 1 + 1 + 1, oR) ∈ rest9 := sub9 _ (.tail _ (.tail _ (.tail _ (.head _))))
  have hm3 : (L + 1 + 1, oN) ∈ rest9 := sub9 _ (.tail _ (.tail _ (.tail _ (.tail _ (.head _)))))
  have hrest : ∀ p ∈ rest, p ∈ rest9 := fun p hp => sub9 p (.tail _ (.tail _ (.tail _ (.tail _ (.tail _ hp)))))
  have heK : EnvIn w rest9 dk ρk := (aK.env mK lK dK).mono hrest
  have heF : EnvIn w rest9 df ρf := (aD.env mD lD dD).mono hrest
  have hrg : RingIn w rest9 rg n := hrr.mono hrest
  have hr1' := hrest _ hr1
  have hr2' := hrest _ hr2
  clear N1
  revert good
  induction R9 generalizing od or' with
  | nil =>
    intro good
    refine RestL.nil ?_
    intro h2 d2 tk2 F2 N2
    exact cont _ _ _ _ _ _ F2 N2 (List.forall_mem_cons.mpr ⟨.tail _ hm1, List.forall_mem_cons.mpr ⟨.tail _ hm2, List.forall_mem_cons.mpr ⟨.tail _ hm3, fun p hp => .tail _ (hrest p hp)⟩⟩⟩)
  | @cons v0 Tl Tr vs0 Ts0 hR0 _ ih =>
    intro good
    obtain ⟨zl, zr, hzl, hzr, hzz, hhl, hhr⟩ := good (Tl, Tr) (.head _)
    dsimp only at hzl hzr hhl hhr
    obtain ⟨x0, dx0, k0, vl, vr, nm, tnm, nd, t1, t2, t3, t4, rfl, hx0, hdx0, hTl, hTr⟩ := hR0
    obtain ⟨y, hy⟩ : ∃ y, Int.fmod zl n = y := ⟨_, rfl⟩
    have hy2 : Int.fmod zr n = y := hzz.trans hy
    refine RestL.cons ?_
    intro h2 d2 tk2 oI F2 N2 off2
    have NE : News h₀ L h2 ((x0, _) :: (dx0, _) :: (rg, _) :: (dx, _) :: (L + 1 + 1 + 1 + 1 + 1, oF) :: (L + 1 + 1 + 1, oR) :: (L + 1 + 1, oN) :: (I, oI) :: (D9, lo) :: rest9) := News.sub N2 (List.forall_mem_cons.mpr ⟨.tail _ (.tail _ hx0), List.forall_mem_cons.mpr ⟨.tail _ (.tail _ hdx0), List.forall_mem_cons.mpr ⟨.tail _ (.tail _ hr1'), List.forall_mem_cons.mpr ⟨.tail _ (.tail _ hr2'), List.forall_mem_cons.mpr ⟨.tail _ (.tail _ hm1), List.forall_mem_cons.mpr ⟨.tail _ (.tail _ hm2), List.forall_mem_cons.mpr ⟨.tail _ (.tail _ hm3), fun _ h => h⟩⟩⟩⟩⟩⟩⟩)
    clear N2
    k_steps
    refine' StopHere.go (WholeSays.use (T0 := Tl) hbk ?hsz ?B2 ?F2 ?X2 ?N2 ?T2 ?hk2 ?hT2 (heK.mono ?he2) hzl ?hd2 ?hu2 (whole_says Tl) ?_)
    case B2 => k_asm
    case F2 => k_asm
    case X2 => k_asm
    case N2 => k_asm
    case T2 => k_asm
    case hk2 => exact rfl
    case hsz => omega
    case hT2 => exact hTl.mono fun p hp => by repeat (first | exact hp | refine List.Mem.tail _ ?_)
    case he2 => exact fun p hp => by repeat (first | exact hp | refine List.Mem.tail _ ?_)
    case hd2 => ktr_room
    case hu2 => ktr_units
    intro tz3 h3 tk3 F3 N3
    k_steps
    refine' StopHere.go (left_use hy hn0 hn1 ?hb4 ?B4 ?F4 ?X4 ?N4 ?T4 ?hk4 ?hd4 ?hu4 ?_)
    case B4 => k_asm
    case F4 => k_asm
    case X4 => k_asm
    case N4 => k_asm
    case T4 => k_asm
    case hk4 => exact rfl
    case hb4 => exact Nat.le_trans (hzl.bits hbk) (by omega)
    case hd4 => ktr_room
    case hu4 => ktr_units
    intro tz4 h4 tk4 F4 N4
    k_steps
    refine StopHere.go (ForEnd.mk (by k_asm) (by k_asm) ((D9, lo) :: rest9) (by repeat (first | exact List.Mem.head _ | refine List.Mem.tail _ ?_)) (fun p hp => by repeat (first | exact hp | refine List.Mem.tail _ ?_)) off2 (.head _) (RestL.eqm (fun u => ?_) (ih (some (.int y tz4)) (some (.ref x0)) (fun T hT => good T (.tail _ hT)))))
    by_cases e1 : u = Str.ofString "due"
    · subst e1; rfl
    by_cases e2 : u = Str.ofString "rule"
    · subst e2; rfl
    simp only [if_neg e1, if_neg e2]
end Mine
end

theorem Mine.reset_L13 : True := by
  w_top off
  k_with_none
  exact trivial
section
open PySem PySem.W PyProof.Rows PySem.Calls PyProof.V
set_option maxRecDepth 100000
set_option maxHeartbeats 800000
namespace Mine
theorem words_L13_1 : True := by
  w_top off
  k_with_none
  (k_with "k_ne" => (refine neN ?_; (try dsimp only); first | assumption | exact Ne.symm (by assumption) | exact Nat.ne_of_gt (by assumption) | exact Nat.ne_of_lt (by assumption) | (refine' Nat.ne_of_gt ?_; iterate 6 (try (first | exact Nat.lt_succ_self _ | refine' Nat.lt_succ_of_lt ?_)); done) | (refine' Nat.ne_of_lt ?_; iterate 6 (try (first | exact Nat.lt_succ_self _ | refine' Nat.lt_succ_of_lt ?_)); done) | exact Nat.ne_of_gt (And.left (by assumption)) | exact Nat.ne_of_lt (And.left (by assumption)) | exact Nat.ne_of_gt (And.left (And.right (by assumption))) | exact Nat.ne_of_gt (And.right (by assumption)) | exact Nat.ne_of_lt (And.left (And.right (by assumption))) | exact Nat.ne_of_lt (And.right (by assumption)) | exact Nat.ne_of_gt (And.left (And.right (And.right (by assumption)))) | exact Nat.ne_of_gt (And.right (And.right (by assumption))) | exact Nat.ne_of_lt (And.left (And.right (And.right (by assumption)))) | exact Nat.ne_of_lt (And.right (And.right (by assumption))) | exact Nat.ne_of_gt (And.left (And.right (And.right (And.right (by assumption))))) | exact Nat.ne_of_gt (And.right (And.right (And.right (by assumption)))) | exact Nat.ne_of_lt (And.left (And.right (And.right (And.right (by assumption))))) | exact Nat.ne_of_lt (And.right (And.right (And.right (by assumption)))) | exact Nat.ne_of_gt (And.left (And.right (And.right (And.right (And.right (by assumption)))))) | exact Nat.ne_of_gt (And.right (And.right (And.right (And.right (by assumption))))) | exact Nat.ne_of_lt (And.left (And.right (And.right (And.right (And.right (by assumption)))))) | exact Nat.ne_of_lt (And.right (And.right (And.right (And.right (by assumption))))) | exact Nat.ne_of_gt (And.left (And.right (And.right (And.right (And.right (And.right (by assumption))))))) | exact Nat.ne_of_gt (And.right (And.right (And.right (And.right (And.right (by assumption)))))) | exact Nat.ne_of_lt (And.left (And.right (And.right (And.right (And.right (And.right (by assumption))))))) | exact Nat.ne_of_lt (And.right (And.right (And.right (And.right (And.right (by assumption)))))) | exact Nat.ne_of_gt (And.left (And.right (And.right (And.right (And.right (And.right (And.right (by assumption)))))))) | exact Nat.ne_of_gt (And.right (And.right (And.right (And.right (And.right (And.right (by assumption))))))) | exact Nat.ne_of_lt (And.left (And.right (And.right (And.right (And.right (And.right (And.right (by assumption)))))))) | exact Nat.ne_of_lt (And.right (And.right (And.right (And.right (And.right (And.right (by assumption)))))))))
  (k_with "execs cons" => (k_here; (with_reducible refine gen_toks ?_); intro tkq))
  (k_with "execs nil" => (k_here; (with_reducible refine gen_toks ?_); intro tkq))
  (k_with "call ref" => (k_here; (with_reducible show wpAny _ _ (call (Value.ref 217) _) _ _ _); (refine StopHere.mk ?_)))
  exact trivial
theorem seg13 {w : World} {h₀ : Heap} {L fa : Addr} {cd : Value} {m : Str → Option Value} {s : Shared} {loose : List Str} {mean : ExcName → Option Value} {mg mb : Str → Option Value} {Q : Flow → Shared → Prop} {E : Value → Shared → Prop}
    {oR oE oD : Obj} {de rg : Addr} {n z : Int} {rest : List (Addr × Obj)} {v vk vm : Value} {od or' : Option Value} {d : Tm} {ke : List (Str × Value)} {ρe ρ' : Str → Option Int}
    (hR : oR.data = .cell (some (.ref rg))) (hE : oE.data = .cell (some (.ref de)))
    (hn0 : 0 < n) (hn1 : n ≤ 1000000007) (hTd : Tm.In rest v d) (hok : Tm.Ok 3 d) (hz : Ev ρ' d z)
    (hbz : ∀ σ z, ρe σ = some z → Builtin.Int.intBits z ≤ 300) (hw : ∀ σ z, ρ' σ = some z → PyData.strOk σ = true ∧ (ρe σ = some z ∨ (ρe σ = none ∧ WOf σ (some z))))
    (hnw : ρe (Str.ofString "w") = none) (hna : ρe (Str.ofString "?a") = none)
    (hr : RingIn w rest rg n)
    (mD : (de, oD) ∈ rest) (lD : (de == sysModules) = false) (dD : oD.IsDictOf (PySem.strKind PySem.Challenge.rw_pq0025_01.row.prog w) ke) (aD : KvsAre ke ρe)
    (B : Below callerA h₀ [] h₀) (F : Fr h₀ L s.heap (fun y => if y = Str.ofString "due" then od else if y = Str.ofString "rule" then or' else if y = Str.ofString "known" then some vk else if y = Str.ofString "moved" then some vm else if y = Str.ofString "term" then some v else m y)) (X : (hd.heap_1 w.params).In h₀)
    (N : News h₀ L s.heap ((L + 1 + 1 + 1 + 1, oE) :: (L + 1 + 1 + 1, oR) :: rest)) (T : Top view loose mean mg mb h₀)
    (hQ : ∀ (h' : Heap) (tk' : Nat), Fr h₀ L h' (fun y => if y = Str.ofString "due" then od else if y = Str.ofString "rule" then or' else if y = Str.ofString "known" then some vk else if y = Str.ofString "moved" then some vm else if y = Str.ofString "term" then some v else m y) → Q (.ret (.bool true)) { s with heap := h', toks := tk' }) :
    wpAny (model PySem.Challenge.rw_pq0025_01.row.prog w) (callerA.deeper (lawEnv L fa cd)) (execs (lawRest 13) (lawEnv L fa cd)) Q E s := by
  (revert X; k_fill; intro X)
  have hh := hok.h
  unfold lawEnv
  conv in (lawRest 13) => whnf
  conv =>
    pattern (occs := *) lawScope
    all_goals whnf
  refine wpAny_execs_cons ?_
  k_steps
  refine' StopHere.go (refused_leaf (σ := Str.ofString "w") ?B ?F ?X ?N ?T ?hk ?XB ?TB ?hT ?he ?hr hnw wof_w ?ho ?hl ?hd ?hu ?_)
  case B => k_asm
  case F => k_asm
  case X => k_asm
  case N => k_asm
  case T => k_asm
  case hk => exact rfl
  case XB => exact X
  case TB => exact T
  case hT => exact .leaf (.head _)
  case he => exact (aD.env mD lD dD).mono fun p hp => by repeat (first | exact hp | refine List.Mem.tail _ ?_)
  case hr => exact hr.mono fun p hp => by repeat (first | exact hp | refine List.Mem.tail _ ?_)
  case ho => decide +kernel
  case hl => exact Nat.le_of_ble_eq_true (by decide +kernel)
  case hd => ktr_room
  case hu => ktr_units
  intro h2 tk2 F2 N2
  k_steps
  refine' StopHere.go (refused_bin (σ := Str.ofString "?a") (x := d) (z := z) hbz hw hn0 hn1 hz ?B3 ?F3 ?X3 ?N3 ?T3 ?hk3 ?XB3 ?TB3 ?hT3 ?he3 ?hr3 hna wof_a ?ho3 ?hl3 ?hd3 ?hu3 ?_)
  case B3 => k_asm
  case F3 => k_asm
  case X3 => k_asm
  case N3 => k_asm
  case T3 => k_asm
  case hk3 => exact rfl
  case XB3 => exact X
  case TB3 => exact T
  case hT3 => exact .bin (.head _) (hTd.mono fun p hp => by repeat (first | exact hp | refine List.Mem.tail _ ?_)) (.leaf (.tail _ (.head _)))
  case he3 => exact (aD.env mD lD dD).mono fun p hp => by repeat (first | exact hp | refine List.Mem.tail _ ?_)
  case hr3 => exact hr.mono fun p hp => by repeat (first | exact hp | refine List.Mem.tail _ ?_)
  case ho3 => decide +kernel
  case hl3 => exact Nat.le_of_ble_eq_true (by decide +kernel)
  case hd3 => ktr_room
  case hu3 => ktr_units
  intro h3 tk3 F3 N3
  k_steps
  exact hQ _ _ (by k_asm)
end Mine
end

theorem Mine.reset_L14 : True := by
  w_top off
  k_with_none
  exact trivial
section
open PySem PySem.W PyProof.Rows PySem.Calls PyProof.V
set_option maxRecDepth 100000
set_option maxHeartbeats 800000
namespace Mine
theorem plain_tup {w : World} {h : Heap} (X : (hd.heap_1 w.params).In h) : ∃ vs ns, IsTup h 177 vs ∧ IntsAre vs.toList ns ∧ ns.length ≤ 63 := by
  have hR : PySem.Challenge.rw_pq0025_01 = PySem.Challenge.rw_pq0025_01 := rfl
  (revert X hR; k_fill; intro X hR)
  exact ⟨_, [3, 7, -1, 31, 8, 3, 0, 0, 5, 2, 1, 2, -4, 1, 3, 9, -6, 12], ⟨_, X 177 _ (by k_is), rfl, _, rfl⟩, by repeat constructor, by decide⟩
theorem plain_list {w : World} {A : Around} {E : Value → Shared → Prop} {s : Shared} {h₀ : Heap} {L : Addr} {m : Str → Option Value} {news : List (Addr × Obj)} {Q : Value → Shared → Prop} (X : (hd.heap_1 w.params).In h₀) (F : Fr h₀ L s.heap m) (N : News h₀ L s.heap news)
    (ret : ∀ D vs ns c h', Fr h₀ L h' m → News h₀ L h' ((D, listOf (List.toArray vs) c) :: news) → (∀ q ∈ news, q.1 < D) → IntsAre vs ns → ns.length ≤ 63 → Q (.ref D) { s with heap := h' }) :
    wpAny (model PySem.Challenge.rw_pq0025_01.row.prog w) A (call (.type "list") [.ref 177]) Q E s := by
  obtain ⟨vs, ns, ht, hi, hn⟩ := plain_tup (X.keeps F.keep)
  refine list_copyKT F N ht (fun D c h' F' N' l => ret D vs.toList ns c h' F' (by rw [Array.toArray_toList]; exact N') l hi hn) ?_
  have e := hi.length
  rw [Array.length_toList] at e
  rw [e, sizeLine_eq]
  omega
theorem menu6 {a : Int} {t1 t2 t3 t4 t5 t6 : Tok} {P : Value → Prop} (ha : a = 1000000007) (h : ∀ n t, RingN n → P (.int n t)) : ∀ v ∈ [Value.int 1 t1, .int 2 t2, .int 3 t3, .int 5 t4, .int 12 t5, .int a t6], P v := by
  intro v hv
  simp only [List.mem_cons, List.not_mem_nil, or_false] at hv
  subst ha
  rcases hv with rfl | rfl | rfl | rfl | rfl | rfl <;> exact h _ _ (by unfold RingN; omega)
theorem words_L14_1 : True := by
  w_top off
  k_with_none
  (k_with "k_ne" => (refine neN ?_; (try dsimp only); first | assumption | exact Ne.symm (by assumption) | exact Nat.ne_of_gt (by assumption) | exact Nat.ne_of_lt (by assumption) | (refine' Nat.ne_of_gt ?_; iterate 6 (try (first | exact Nat.lt_succ_self _ | refine' Nat.lt_succ_of_lt ?_)); done) | (refine' Nat.ne_of_lt ?_; iterate 6 (try (first | exact Nat.lt_succ_self _ | refine' Nat.lt_succ_of_lt ?_)); done) | exact Nat.ne_of_gt (And.left (by assumption)) | exact Nat.ne_of_lt (And.left (by assumption)) | exact Nat.ne_of_gt (And.left (And.right (by assumption))) | exact Nat.ne_of_gt (And.right (by assumption)) | exact Nat.ne_of_lt (And.left (And.right (by assumption))) | exact Nat.ne_of_lt (And.right (by assumption)) | exact Nat.ne_of_gt (And.left (And.right (And.right (by assumption)))) | exact Nat.ne_of_gt (And.right (And.right (by assumption))) | exact Nat.ne_of_lt (And.left (And.right (And.right (by assumption)))) | exact Nat.ne_of_lt (And.right (And.right (by assumption))) | exact Nat.ne_of_gt (And.left (And.right (And.right (And.right (by assumption))))) | exact Nat.ne_of_gt (And.right (And.right (And.right (by assumption)))) | exact Nat.ne_of_lt (And.left (And.right (And.right (And.right (by assumption))))) | exact Nat.ne_of_lt (And.right (And.right (And.right (by assumption)))) | exact Nat.ne_of_gt (And.left (And.right (And.right (And.right (And.right (by assumption)))))) | exact Nat.ne_of_gt (And.right (And.right (And.right (And.right (by assumption))))) | exact Nat.ne_of_lt (And.left (And.right (And.right (And.right (And.right (by assumption)))))) | exact Nat.ne_of_lt (And.right (And.right (And.right (And.right (by assumption))))) | exact Nat.ne_of_gt (And.left (And.right (And.right (And.right (And.right (And.right (by assumption))))))) | exact Nat.ne_of_gt (And.right (And.right (And.right (And.right (And.right (by assumption)))))) | exact Nat.ne_of_lt (And.left (And.right (And.right (And.right (And.right (And.right (by assumption))))))) | exact Nat.ne_of_lt (And.right (And.right (And.right (And.right (And.right (by assumption)))))) | exact Nat.ne_of_gt (And.left (And.right (And.right (And.right (And.right (And.right (And.right (by assumption)))))))) | exact Nat.ne_of_gt (And.right (And.right (And.right (And.right (And.right (And.right (by assumption))))))) | exact Nat.ne_of_lt (And.left (And.right (And.right (And.right (And.right (And.right (And.right (by assumption)))))))) | exact Nat.ne_of_lt (And.right (And.right (And.right (And.right (And.right (And.right (by assumption)))))))))
  (k_with "execs cons" => (k_here; (with_reducible refine gen_toks ?_); intro tkq))
  (k_with "execs nil" => (k_here; (with_reducible refine gen_toks ?_); intro tkq))
  (k_with "execs cons" => (k_here; (with_reducible show wpAny _ _ (execs _ (envOfC (Str.ofString "law") _ _ _ _)) _ _ _); (refine StopHere.mk ?_)))
  (k_with "call type:list" => (k_here; (with_reducible show wpAny _ _ (call (Value.type _) [Value.ref 177]) _ _ _); k_dflt (refine' plain_list ?Xq ?Fq ?Nq ?_; (case Xq => k_asm); (case Fq => k_asm); (case Nq => k_asm)); intro D'q vs'q ns'q c'q h'q F'q N'q l1q hI'q hl'q; (try k_lt l1q)))
  (k_with "call ref" => (k_here; (with_reducible show wpAny _ _ (call (Value.ref 184) [Value.ref _, _]) _ _ _); k_dflt (refine' cell_upd ?Bq ?Fq ?Xq ?Nq ?Tq ?hkq ?Uq ?hxq ?hIq ?hlq ?h0q ?h1q ?hbxq ?hm0q ?hm1q ?hdq ?huq ?_; (case Bq => k_asm); (case Fq => k_asm); (case Xq => k_asm); (case Nq => k_asm); (case Tq => k_asm); (case hkq => first | exact rfl | assumption); (case Uq => k_updF); (case hxq => k_mem); (case hIq => assumption); (case hlq => first | assumption | (simp only [List.length_take]; omega)); (case h0q => omega); (case h1q => omega); (case hbxq => first | assumption | k_ne); (case hm0q => decide); (case hm1q => decide); (case hdq => ktr_room); (case huq => ktr_units)); intro v'q t1'q t2'q n'q h'q tk'q F'q N'q hv0q hv1q; (try dsimp only at N'q); (try k_sweep)))
  (k_with "subscriptTail" => (k_here; (with_reducible show wpAny _ _ (subscriptTail _ _ (Value.ref _) (Value.int _ _)) _ _ _); (with_unfolding_all refine' menu_item ?k1q ?k2q ?k3q ?k4q (menu6 ?k5q ?_) ?k6q; (case k1q => is_tup); (case k2q => omega); (case k3q => (simp only [List.length_cons, List.length_nil]; omega)); (case k4q => exact Nat.le_of_ble_eq_true rfl); (case k5q => decide +kernel); (case k6q => with_unfolding_all rfl)); intro n'q tn'q hn'q))
  (k_with "binaryOp Pow int int" => (k_here; (with_reducible refine pow_int_small ?kb1q ?kb2q ?kb3q ?_); (case kb1q => decide); (case kb2q => decide); (case kb3q => decide)))
  exact trivial
theorem dropA {h₀ h : Heap} {L : Addr} {t b x sl c5 c4 c3 c2 c1 : Addr × Obj} (N : News h₀ L h [t, b, x, sl, c5, c4, c3, c2, c1]) : News h₀ L h [b, x, c5, c4, c3, c2, c1] := News.sub N fun p hp => by
  simp only [List.mem_cons, List.not_mem_nil, or_false] at hp ⊢
  rcases hp with h | h | h | h | h | h | h <;> simp [h]
theorem dropB {h₀ h : Heap} {L : Addr} {t b x c5 c4 c3 c2 c1 : Addr × Obj} (N : News h₀ L h [t, b, x, c5, c4, c3, c2, c1]) : News h₀ L h [b, x, c5, c4, c3, c2, c1] := News.sub N fun p hp => by
  simp only [List.mem_cons, List.not_mem_nil, or_false] at hp ⊢
  rcases hp with h | h | h | h | h | h | h <;> simp [h]
theorem seg0 {w : World} {h₀ : Heap} {L fa : Addr} {cd : Value} {m : Str → Option Value} {s : Shared} {loose : List Str} {mean : ExcName → Option Value} {mg mb : Str → Option Value} {Q : Flow → Shared → Prop} {E : Value → Shared → Prop}
    {oB oN oR oE oF : Obj} {sc : Addr} {us : List Value} {js : List Int}
    (hB : oB.data = .cell none) (hN : oN.data = .cell none)
    (hL : h₀.IsList sc us.toArray) (hJ : IntsAre us js) (hj : js.length ≤ 63)
    (B : Below callerA h₀ [] h₀) (F : Fr h₀ L s.heap (fun y => if y = Str.ofString "script" then some (.ref sc) else m y)) (X : (hd.heap_1 w.params).In h₀)
    (N : News h₀ L s.heap [(L + 1 + 1 + 1 + 1 + 1, oF), (L + 1 + 1 + 1 + 1, oE), (L + 1 + 1 + 1, oR), (L + 1 + 1, oN), (L + 1, oB)]) (T : Top view loose mean mg mb h₀)
    (cont : ∀ (b x : Addr) (vs : List Value) (ns : List Int) (n : Int) (tn t : Tok) (nb n0 : Nat) (oB' oN' : Obj) (h' : Heap) (tk' : Nat), oB'.data = .cell (some (.ref b)) → oN'.data = .cell (some (.int n tn)) → RingN n → IntsAre vs ns → ns.length ≤ 63 → x < b → L + 5 < x →
      Fr h₀ L h' (fun y => if y = Str.ofString "script" then some (.ref sc) else m y) →
      News h₀ L h' [(b, listOf #[.ref x, .int 1 t] nb), (x, listOf vs.toArray n0), (L + 1 + 1 + 1 + 1 + 1, oF), (L + 1 + 1 + 1 + 1, oE), (L + 1 + 1 + 1, oR), (L + 1 + 1, oN'), (L + 1, oB')] →
      wpAny (model PySem.Challenge.rw_pq0025_01.row.prog w) (callerA.deeper (lawEnv L fa cd)) (execs (lawRest 2) (lawEnv L fa cd)) Q E { s with heap := h', toks := tk' }) :
    wpAny (model PySem.Challenge.rw_pq0025_01.row.prog w) (callerA.deeper (lawEnv L fa cd)) (execs (lawRest 0) (lawEnv L fa cd)) Q E s := by
  (revert X; k_fill; intro X)
  unfold lawEnv
  conv in (lawRest 0) => whnf
  conv =>
    pattern (occs := *) lawScope
    all_goals whnf
  refine wpAny_execs_cons ?_
  k_steps
  all_goals (refine StopHere.go ?_; (try (with_reducible refine gen_toks ?_; intro tk9)); refine wpAny_execs_cons ?_; k_steps)
  all_goals (
    rename News _ _ _ _ => NZ
    refine StopHere.go (cont _ _ _ _ _ _ _ _ _ _ _ _ _ (by assumption) (by assumption) (by assumption) (by assumption) (by first | assumption | (simp only [List.length_take]; omega)) ?hb ?hc (by k_asm) (by first | exact dropA NZ | exact dropB NZ))
    case hb => (show @LT.lt Nat _ _ _; omega)
    case hc => (show @LT.lt Nat _ _ _; omega))
end Mine
end

theorem Mine.reset_P1 : True := by
  w_top off
  k_with_none
  exact trivial
section
open PySem PySem.W PyProof.Rows PySem.Calls PyProof.V
set_option maxRecDepth 100000
set_option maxHeartbeats 800000
namespace Mine
theorem or_some {a b : Option Int} {c : Int} (h : b = some c) : ∃ z, a.or b = some z := by
  cases a with
  | none => exact ⟨c, by simpa using h⟩
  | some x => exact ⟨x, rfl⟩
theorem ev_total {ρ : Str → Option Int} (h : ∀ σ, σ ∈ plainNames ∨ σ ∈ envNames → ∃ z, ρ σ = some z) {f : Nat} {d : Tm} (o : Tm.Ok f d) : ∃ z, Ev ρ d z := by
  induction o with
  | plain hs => obtain ⟨z, hz⟩ := h _ (.inl hs); exact ⟨z, .leaf hz⟩
  | env hs => obtain ⟨z, hz⟩ := h _ (.inr hs); exact ⟨z, .leaf hz⟩
  | neg _ ih => obtain ⟨z, hz⟩ := ih; exact ⟨_, .neg hz⟩
  | @bin f o x y _ _ ih ih2 =>
    obtain ⟨z, hz⟩ := ih
    obtain ⟨z', hz'⟩ := ih2
    cases o
    · exact ⟨_, .mul hz hz'⟩
    · exact ⟨_, .add hz hz'⟩
theorem ev_mod {ρ ρ2 : Str → Option Int} {n : Int} (hn : 0 < n) (h : ∀ σ a b, ρ σ = some a → ρ2 σ = some b → Int.fmod a n = Int.fmod b n) {d : Tm} {z : Int} (e : Ev ρ d z) : ∀ {z2 : Int}, Ev ρ2 d z2 → Int.fmod z n = Int.fmod z2 n := by
  induction e with
  | leaf hz => intro z2 e2; cases e2 with | leaf hz2 => exact h _ _ _ hz hz2
  | neg _ ih => intro z2 e2; cases e2 with | neg e2 => rw [← fm_neg _ _ hn, ih e2, fm_neg _ _ hn]
  | add _ _ ih ih2 => intro z2 e2; cases e2 with | add e2 e3 => rw [← fm_add _ _ _ hn, ih e2, ih2 e3, fm_add _ _ _ hn]
  | mul _ _ ih ih2 => intro z2 e2; cases e2 with | mul e2 e3 => rw [← fm_mul _ _ _ hn, ih e2, ih2 e3, fm_mul _ _ _ hn]
theorem fm_round {a b q n : Int} (hn : 0 < n) (h : b = a + n * q) : Int.fmod a n = Int.fmod b n := by
  subst h
  simp only [Int.fmod_eq_emod_of_nonneg _ (Int.le_of_lt hn), Int.add_mul_emod_self_left]
section
variable {z1 z2 z3 z4 : Int}
theorem env_total : ∀ σ, σ ∈ plainNames ∨ σ ∈ envNames → ∃ z, (envRho z1 z2 z3 z4 σ).or (writRho σ) = some z := by
  intro σ h
  rcases h with h | h
  · simp only [List.mem_cons, List.not_mem_nil, or_false] at h
    rcases h with rfl | rfl | rfl | rfl
    · exact or_some (if_pos rfl)
    · exact or_some ((if_neg (by decide +kernel)).trans (if_pos rfl))
    · exact or_some ((if_neg (by decide +kernel)).trans ((if_neg (by decide +kernel)).trans (if_pos rfl)))
    · exact or_some ((if_neg (by decide +kernel)).trans ((if_neg (by decide +kernel)).trans ((if_neg (by decide +kernel)).trans (if_pos rfl))))
  · simp only [List.mem_cons, List.not_mem_nil, or_false] at h
    rcases h with rfl | rfl | rfl | rfl
    · exact ⟨z1, by rw [env_x]; rfl⟩
    · exact ⟨z2, by rw [env_y]; rfl⟩
    · exact ⟨z3, by rw [env_12]; rfl⟩
    · exact ⟨z4, by rw [env_add]; rfl⟩
theorem env_cases {P : Str → Option Int → Prop} (hx : P (Str.ofString "x") (some z1)) (hy : P (Str.ofString "y") (some z2)) (h12 : P (Str.ofString "12") (some z3)) (ha : P (Str.ofString "add") (some z4)) (hn : ∀ σ, σ ∉ envNames → P σ none) (σ : Str) : P σ (envRho z1 z2 z3 z4 σ) := by
  unfold envRho
  by_cases h1 : Str.ofString "x" = σ
  · subst h1; rw [if_pos rfl]; exact hx
  rw [if_neg h1]
  by_cases h2 : Str.ofString "y" = σ
  · subst h2; rw [if_pos rfl]; exact hy
  rw [if_neg h2]
  by_cases h3 : Str.ofString "12" = σ
  · subst h3; rw [if_pos rfl]; exact h12
  rw [if_neg h3]
  by_cases h4 : Str.ofString "add" = σ
  · subst h4; rw [if_pos rfl]; exact ha
  rw [if_neg h4]
  refine hn σ fun h => ?_
  simp only [List.mem_cons, List.not_mem_nil, or_false] at h
  rcases h with h | h | h | h
  · exact h1 h.symm
  · exact h2 h.symm
  · exact h3 h.symm
  · exact h4 h.symm
theorem free_cases {P : Str → Option Int → Prop} (hx : P (Str.ofString "?a") (some z1)) (hy : P (Str.ofString "?b") (some z2)) (h12 : P (Str.ofString "?c") (some z3)) (hn : ∀ σ, σ ∉ varTexts → P σ none) (σ : Str) : P σ (freeRho z1 z2 z3 σ) := by
  unfold freeRho
  by_cases h1 : Str.ofString "?a" = σ
  · subst h1; rw [if_pos rfl]; exact hx
  rw [if_neg h1]
  by_cases h2 : Str.ofString "?b" = σ
  · subst h2; rw [if_pos rfl]; exact hy
  rw [if_neg h2]
  by_cases h3 : Str.ofString "?c" = σ
  · subst h3; rw [if_pos rfl]; exact h12
  rw [if_neg h3]
  refine hn σ fun h => ?_
  simp only [List.mem_cons, List.not_mem_nil, or_false] at h
  rcases h with h | h | h
  · exact h1 h.symm
  · exact h2 h.symm
  · exact h3 h.symm
end
theorem writ_ok {σ : Str} {z : Int} (h : writRho σ = some z) : PyData.strOk σ = true ∧ WOf σ (some z) ∧ Builtin.Int.intBits z ≤ 300 := by
  unfold writRho at h
  by_cases h1 : Str.ofString "0" = σ
  · subst h1; rw [if_pos rfl] at h; cases h; exact ⟨by decide +kernel, @wof_0, by decide +kernel⟩
  rw [if_neg h1] at h
  by_cases h2 : Str.ofString "-7" = σ
  · subst h2; rw [if_pos rfl] at h; cases h; exact ⟨by decide +kernel, @wof_m7, by decide +kernel⟩
  rw [if_neg h2] at h
  by_cases h3 : Str.ofString "007" = σ
  · subst h3; rw [if_pos rfl] at h; cases h; exact ⟨by decide +kernel, @wof_007, by decide +kernel⟩
  rw [if_neg h3] at h
  by_cases h4 : Str.ofString "1" = σ
  · subst h4; rw [if_pos rfl] at h; cases h; exact ⟨by decide +kernel, @wof_1, by decide +kernel⟩
  rw [if_neg h4] at h
  cases h
theorem env_hw {z1 z2 z3 z4 : Int} : ∀ σ z, (envRho z1 z2 z3 z4 σ).or (writRho σ) = some z → PyData.strOk σ = true ∧ (envRho z1 z2 z3 z4 σ = some z ∨ (envRho z1 z2 z3 z4 σ = none ∧ WOf σ (some z))) := by
  intro σ z
  refine env_cases (P := fun σ r => r.or (writRho σ) = some z → PyData.strOk σ = true ∧ (r = some z ∨ (r = none ∧ WOf σ (some z)))) ?_ ?_ ?_ ?_ ?_ σ
  · exact fun h => ⟨by decide +kernel, .inl (by simpa using h)⟩
  · exact fun h => ⟨by decide +kernel, .inl (by simpa using h)⟩
  · exact fun h => ⟨by decide +kernel, .inl (by simpa using h)⟩
  · exact fun h => ⟨by decide +kernel, .inl (by simpa using h)⟩
  · intro σ _ h
    have h' : writRho σ = some z := by simpa using h
    exact ⟨(writ_ok h').1, .inr ⟨rfl, (writ_ok h').2.1⟩⟩
theorem env_bits {z1 z2 z3 z4 : Int} (p1 : Builtin.Int.intBits z1 ≤ 300) (p2 : Builtin.Int.intBits z2 ≤ 300) (p3 : Builtin.Int.intBits z3 ≤ 300) (p4 : Builtin.Int.intBits z4 ≤ 300) : ∀ σ z, envRho z1 z2 z3 z4 σ = some z → Builtin.Int.intBits z ≤ 300 := by
  intro σ z
  refine env_cases (P := fun σ r => r = some z → Builtin.Int.intBits z ≤ 300) ?_ ?_ ?_ ?_ ?_ σ
  · intro h; cases h; exact p1
  · intro h; cases h; exact p2
  · intro h; cases h; exact p3
  · intro h; cases h; exact p4
  · intro σ _ h; cases h
theorem or_bits {ρ : Str → Option Int} (h : ∀ σ z, ρ σ = some z → Builtin.Int.intBits z ≤ 300) : ∀ σ z, (ρ σ).or (writRho σ) = some z → Builtin.Int.intBits z ≤ 300 := by
  intro σ z hz
  cases e : ρ σ with
  | none => rw [e] at hz; exact (writ_ok (by simpa using hz)).2.2
  | some a => rw [e] at hz; have : a = z := by simpa using hz
              exact h σ z (this ▸ e)
theorem moved_mod {z1 z2 z3 z4 y1 y2 y3 y4 q1 q2 q3 q4 n : Int} (hn : 0 < n) (e1 : y1 = z1 + n * q1) (e2 : y2 = z2 + n * q2) (e3 : y3 = z3 + n * q3) (e4 : y4 = z4 + n * q4) :
    ∀ σ a b, (envRho y1 y2 y3 y4 σ).or (writRho σ) = some a → (envRho z1 z2 z3 z4 σ).or (writRho σ) = some b → Int.fmod a n = Int.fmod b n := by
  intro σ a b
  unfold envRho
  by_cases h1 : Str.ofString "x" = σ
  · simp only [if_pos h1]; intro ha hb; cases ha; cases hb; exact (fm_round hn e1).symm
  simp only [if_neg h1]
  by_cases h2 : Str.ofString "y" = σ
  · simp only [if_pos h2]; intro ha hb; cases ha; cases hb; exact (fm_round hn e2).symm
  simp only [if_neg h2]
  by_cases h3 : Str.ofString "12" = σ
  · simp only [if_pos h3]; intro ha hb; cases ha; cases hb; exact (fm_round hn e3).symm
  simp only [if_neg h3]
  by_cases h4 : Str.ofString "add" = σ
  · simp only [if_pos h4]; intro ha hb; cases ha; cases hb; exact (fm_round hn e4).symm
  simp only [if_neg h4]
  intro ha hb
  rw [ha] at hb
  cases hb
  rfl
theorem free_bits {z1 z2 z3 : Int} (p1 : Builtin.Int.intBits z1 ≤ 300) (p2 : Builtin.Int.intBits z2 ≤ 300) (p3 : Builtin.Int.intBits z3 ≤ 300) : ∀ σ z, freeRho z1 z2 z3 σ = some z → Builtin.Int.intBits z ≤ 300 := by
  intro σ z
  refine free_cases (P := fun σ r => r = some z → Builtin.Int.intBits z ≤ 300) ?_ ?_ ?_ ?_ σ
  · intro h; cases h; exact p1
  · intro h; cases h; exact p2
  · intro h; cases h; exact p3
  · intro σ _ h; cases h
theorem n_wof {n : Int} (h : RingN n) : WOf (nTxt n) (some n) := by
  rcases h with rfl | rfl | rfl | rfl | rfl | rfl
  · rw [tx1]; exact @wof_1
  · rw [tx2]; exact @wof_2
  · rw [tx3]; exact @wof_3
  · rw [tx5]; exact @wof_5
  · rw [tx12]; exact @wof_12
  · rw [txbig]; exact @wof_big
theorem n_ok {n : Int} (h : RingN n) : PyData.strOk (nTxt n) = true := by
  rcases h with rfl | rfl | rfl | rfl | rfl | rfl <;> decide +kernel
theorem free_none {z1 z2 z3 : Int} {σ : Str} (h : σ ∉ varTexts) : freeRho z1 z2 z3 σ = none :=
  free_cases (P := fun σ r => σ ∉ varTexts → r = none) (fun h => absurd (by simp) h) (fun h => absurd (by simp) h) (fun h => absurd (by simp) h) (fun _ _ _ => rfl) σ h
abbrev knownRho (n z1 z2 z3 : Int) : Str → Option Int := fun σ => if nTxt n = σ then some n else (freeRho z1 z2 z3 σ).or (writRho σ)
theorem known_hw {n z1 z2 z3 : Int} (hn : RingN n) : ∀ σ z, knownRho n z1 z2 z3 σ = some z → PyData.strOk σ = true ∧ (freeRho z1 z2 z3 σ = some z ∨ (freeRho z1 z2 z3 σ = none ∧ WOf σ (some z))) := by
  intro σ z h
  unfold knownRho at h
  by_cases h1 : nTxt n = σ
  · rw [if_pos h1] at h
    cases h
    subst h1
    exact ⟨n_ok hn, .inr ⟨free_none (nvar hn), n_wof hn⟩⟩
  rw [if_neg h1] at h
  revert h
  refine free_cases (P := fun σ r => r.or (writRho σ) = some z → PyData.strOk σ = true ∧ (r = some z ∨ (r = none ∧ WOf σ (some z)))) ?_ ?_ ?_ ?_ σ
  · exact fun h => ⟨by decide +kernel, .inl (by simpa using h)⟩
  · exact fun h => ⟨by decide +kernel, .inl (by simpa using h)⟩
  · exact fun h => ⟨by decide +kernel, .inl (by simpa using h)⟩
  · intro σ _ h
    have h' : writRho σ = some z := by simpa using h
    exact ⟨(writ_ok h').1, .inr ⟨rfl, (writ_ok h').2.1⟩⟩
theorem known_bits {n z1 z2 z3 : Int} (hn : RingN n) (h : ∀ σ z, freeRho z1 z2 z3 σ = some z → Builtin.Int.intBits z ≤ 300) : ∀ σ z, knownRho n z1 z2 z3 σ = some z → Builtin.Int.intBits z ≤ 300 := by
  intro σ z hz
  unfold knownRho at hz
  by_cases h1 : nTxt n = σ
  · rw [if_pos h1] at hz
    cases hz
    exact Nat.le_trans (bits_n hn.pos hn.le) (by decide)
  rw [if_neg h1] at hz
  exact or_bits h σ z hz
theorem good_mk {ρ : Str → Option Int} {n : Int} {Tl Tr : Tm} {zl zr : Int} (e1 : Ev ρ Tl zl) (e2 : Ev ρ Tr zr) (e : Int.fmod zr n = Int.fmod zl n) (h1 : Tl.h ≤ 20) (h2 : Tr.h ≤ 20) : ∃ zl zr, Ev ρ (Tl, Tr).1 zl ∧ Ev ρ (Tl, Tr).2 zr ∧ Int.fmod zr n = Int.fmod zl n ∧ (Tl, Tr).1.h ≤ 20 ∧ (Tl, Tr).2.h ≤ 20 := ⟨zl, zr, e1, e2, e, h1, h2⟩
theorem rules_good {ρ : Str → Option Int} {n a b c : Int} (ha : ρ (Str.ofString "?a") = some a) (hb : ρ (Str.ofString "?b") = some b) (hc : ρ (Str.ofString "?c") = some c) (h0 : ρ (Str.ofString "0") = some 0) (h1 : ρ (Str.ofString "1") = some 1) (hn : ρ (nTxt n) = some n) (hn0 : 0 < n) :
    ∀ T ∈ ringRules n, ∃ zl zr, Ev ρ T.1 zl ∧ Ev ρ T.2 zr ∧ Int.fmod zr n = Int.fmod zl n ∧ T.1.h ≤ 20 ∧ T.2.h ≤ 20 := by
  have A : Ev ρ vA a := .leaf ha
  have B : Ev ρ vB b := .leaf hb
  have C : Ev ρ vC c := .leaf hc
  have Z : Ev ρ z0 0 := .leaf h0
  have I : Ev ρ (.leaf (Str.ofString "1")) 1 := .leaf h1
  intro T hT
  simp only [ringRules, lawsOf, List.mem_append, List.mem_cons, List.not_mem_nil, or_false] at hT
  rcases hT with ((rfl | rfl | rfl) | rfl | rfl | rfl) | rfl | rfl | rfl | rfl | rfl | rfl | rfl
  · exact good_mk (.add A B) (.add B A) (by rw [Int.add_comm]) (by decide) (by decide)
  · exact good_mk (.add (.add A B) C) (.add A (.add B C)) (by rw [Int.add_assoc]) (by decide) (by decide)
  · exact good_mk (.add A Z) A (by rw [Int.add_zero]) (by decide) (by decide)
  · exact good_mk (.mul A B) (.mul B A) (by rw [Int.mul_comm]) (by decide) (by decide)
  · exact good_mk (.mul (.mul A B) C) (.mul A (.mul B C)) (by rw [Int.mul_assoc]) (by decide) (by decide)
  · exact good_mk (.mul A I) A (by rw [Int.mul_one]) (by decide) (by decide)
  · exact good_mk (.add A (.neg A)) Z (by rw [show a + (0 - a) = 0 by omega]) (by decide) (by decide)
  · exact good_mk (.neg (.neg A)) A (by rw [show 0 - (0 - a) = a by omega]) (by decide) (by decide)
  · exact good_mk (.mul (.neg A) B) (.neg (.mul A B)) (by rw [show (0 - a) * b = 0 - a * b by rw [Int.sub_mul, Int.zero_mul]]) (by decide) (by decide)
  · exact good_mk (.mul A Z) Z (by rw [Int.mul_zero]) (by decide) (by decide)
  · exact good_mk (.mul A (.add B C)) (.add (.mul A B) (.mul A C)) (by rw [Int.mul_add]) (by decide) (by decide)
  · exact good_mk (.add (.mul A B) (.mul A C)) (.mul A (.add B C)) (by rw [Int.mul_add]) (by decide) (by decide)
  · exact good_mk (.leaf hn) Z (by simp [Int.fmod_self]) (by show 1 ≤ 20; decide) (by decide)
theorem known_at {n z1 z2 z3 : Int} {σ : Str} (h : nTxt n ≠ σ) : knownRho n z1 z2 z3 σ = (freeRho z1 z2 z3 σ).or (writRho σ) := if_neg h
theorem n_not {n : Int} (hn : RingN n) {σ : Str} (h : σ ∈ varTexts) : nTxt n ≠ σ := fun e => nvar hn (e ▸ h)
theorem known_good {n z1 z2 z3 : Int} (hn : RingN n) : ∀ T ∈ ringRules n, ∃ zl zr, Ev (knownRho n z1 z2 z3) T.1 zl ∧ Ev (knownRho n z1 z2 z3) T.2 zr ∧ Int.fmod zr n = Int.fmod zl n ∧ T.1.h ≤ 20 ∧ T.2.h ≤ 20 := by
  refine rules_good (a := z1) (b := z2) (c := z3) ?_ ?_ ?_ ?_ ?_ (if_pos rfl) hn.pos
  · rw [known_at (n_not hn (by simp))]; unfold freeRho; rw [if_pos rfl]; rfl
  · rw [known_at (n_not hn (by simp))]; unfold freeRho; rw [if_neg (by decide +kernel), if_pos rfl]; rfl
  · rw [known_at (n_not hn (by simp))]; unfold freeRho; rw [if_neg (by decide +kernel), if_neg (by decide +kernel), if_pos rfl]; rfl
  · rw [known_at (by rcases hn with rfl | rfl | rfl | rfl | rfl | rfl <;> decide +kernel), free_none (by decide +kernel)]; unfold writRho; rw [if_pos rfl]; rfl
  · by_cases h : nTxt n = Str.ofString "1"
    · have e : n = 1 := by rcases hn with rfl | rfl | rfl | rfl | rfl | rfl <;> first | rfl | exact absurd h (by decide +kernel)
      show (if nTxt n = Str.ofString "1" then some n else _) = _
      rw [if_pos h, e]
    · rw [known_at h, free_none (by decide +kernel)]; unfold writRho; rw [if_neg (by decide +kernel), if_neg (by decide +kernel), if_neg (by decide +kernel), if_pos rfl]; rfl
end Mine
end

theorem Mine.reset_L15 : True := by
  w_top off
  k_with_none
  exact trivial
section
open PySem PySem.W PyProof.Rows PySem.Calls PyProof.V
set_option maxRecDepth 100000
set_option maxHeartbeats 800000
namespace Mine
theorem law_body {w : World} {h₀ : Heap} {L fa : Addr} {cd : Value} {m : Str → Option Value} {s : Shared} {loose : List Str} {mean : ExcName → Option Value} {mg mb : Str → Option Value} {Q : Flow → Shared → Prop} {E : Value → Shared → Prop}
    {oB oN oR oE oF : Obj} {sc : Addr} {us : List Value} {js : List Int}
    (hB : oB.data = .cell none) (hN : oN.data = .cell none) (hR : oR.data = .cell none) (hE : oE.data = .cell none) (hF : oF.data = .cell none)
    (hL : h₀.IsList sc us.toArray) (hJ : IntsAre us js) (hj : js.length ≤ 63)
    (hPE : PassesOwn (model PySem.Challenge.rw_pq0025_01.row.prog w) (callerA.deeper (lawEnv L fa cd)) (lawEnv L fa cd) E)
    (B : Below callerA h₀ [] h₀) (F : Fr h₀ L s.heap (fun y => if y = Str.ofString "script" then some (.ref sc) else m y)) (X : (hd.heap_1 w.params).In h₀)
    (N : News h₀ L s.heap [(L + 1 + 1 + 1 + 1 + 1, oF), (L + 1 + 1 + 1 + 1, oE), (L + 1 + 1 + 1, oR), (L + 1 + 1, oN), (L + 1, oB)]) (T : Top view loose mean mg mb h₀)
    (hQ : ∀ (h' : Heap) (d' : Drawn) (tk' : Nat) (m' : Str → Option Value), Fr h₀ L h' m' → Q (.ret (.bool true)) { s with heap := h', drawn := d', toks := tk' }) :
    wpAny (model PySem.Challenge.rw_pq0025_01.row.prog w) (callerA.deeper (lawEnv L fa cd)) (execs (lawRest 0) (lawEnv L fa cd)) Q E s := by
  refine seg0 hB hN hL hJ hj B F X N T ?_
  intro b x vs ns n tn t nb n0 oB' oN' h1 tk1 dB dN hn hI hl hbx hLx F1 N1
  have n0' := hn.pos
  have n1' := hn.le
  refine seg2 dB dN hR hE hF hn hI hl (by decide) (by decide) hbx hLx B F1 X N1 T ?_
  intro rg dw oR' oW kw rest h2 tk2 F2 N2 g2 dR r2 mW lW dW aW zW
  refine seg3 dB dN dR hE hF hI hl (by decide) (by decide) hbx hLx B F2 X N2 g2 T ?_
  intro de oE' oD ke rest3 h3 tk3 z1 z2 z3 z4 t3 nb3 F3 N3 g3 s3 dE mD lD dD aD zD p1 p2 p3 p4
  refine seg4 (n := n) (tn := tn) dB hI hl (by decide) (by decide) hbx hLx B F3 X N3 g3 T ?_
  intro v d rest4 h4 tk4 k4 t4 nb4 F4 N4 g4 s4 hT hok k41 k42
  have mW4 := s4 _ (s3 _ mW)
  have mD4 := s4 _ mD
  have r4 := r2.mono fun p hp => s4 p (s3 p hp)
  have hb := env_bits (Nat.le_trans p1 (by decide)) (Nat.le_trans p2 (by decide)) (Nat.le_trans p3 (by decide)) (Nat.le_trans p4 (by decide))
  obtain ⟨z, hz⟩ := ev_total (env_total (z1 := z1) (z2 := z2) (z3 := z3) (z4 := z4)) hok
  refine seg5 dN dE n0' n1' hT hok hz (or_bits hb) mW4 lW dW aW zW mD4 lD dD aD zD B F4 X N4 T ?_
  intro h5 tk5 td F5 N5
  refine seg6 (tn := tn) dE dR n0' n1' hT hok hz hb env_hw r4 mD4 lD dD aD B F5 X N5 T ?_
  intro h6 tk6 F6 N6
  refine seg7 dB dN dE hI hl (by omega) (by omega) hbx hLx n0' n1' p1 p2 p3 p4 mD4 lD dD aD B F6 X N6 g4 T ?_
  intro dm oM km rest7 h7 tk7 y1 y2 y3 y4 q1 q2 q3 q4 t7 nb7 F7 N7 g7 s7 mM lM dM aM b1 b2 b3 b4 e1 e2 e3 e4
  obtain ⟨z', hz'⟩ := ev_total (env_total (z1 := y1) (z2 := y2) (z3 := y3) (z4 := y4)) hok
  have hm := ev_mod n0' (moved_mod n0' e1 e2 e3 e4) hz' hz
  have r7 := r4.mono s7
  refine seg8 (tn := tn) dR n0' n1' (hT.mono s7) hok hz' hm (env_bits b1 b2 b3 b4) env_hw r7 mM lM dM aM B F7 X N7 T ?_
  intro h8 tk8 F8 N8
  refine seg9 dB dN dR dE hF hI hl (by omega) (by omega) hbx hLx B F8 X N8 g7 T ?_
  intro df oF' oG kf rest9 h9 tk9 f1 f2 f3 t9 nb9 F9 N9 g9 s9 dF mF lF dG aF zF pf1 pf2 pf3
  have hfb := free_bits (Nat.le_trans pf1 (by decide)) (Nat.le_trans pf2 (by decide)) (Nat.le_trans pf3 (by decide))
  refine seg10 dN dF n0' n1' (s9 _ (s7 _ mW4)) lW dW aW zW mF lF dG aF zF B F9 X N9 T ?_
  intro dk oK kk rest10 h10 tk10 F10 N10 s10 mK lK dK aK
  have s70 : ∀ p ∈ rest4, p ∈ rest10 := fun p hp => s10 p (s9 p (s7 p hp))
  have N11 : News h₀ L h10 ((L + 1 + 1 + 1 + 1 + 1, oF') :: (L + 1 + 1 + 1, oR') :: (L + 1 + 1, oN') :: (L + 1 + 1 + 1 + 1, oE') :: rest10) := News.sub N10 fun p hp => by
    simp only [List.mem_cons] at hp ⊢
    rcases hp with h | h | h | h | h <;> simp [h]
  refine seg12 dN dR dF hn (.tail _ mK) lK dK aK (.tail _ (s10 _ mF)) lF dG aF (known_bits hn hfb) hfb (known_hw hn) (known_good hn) (r4.mono fun p hp => .tail _ (s70 p hp)) hPE B F10 X N11 T ?_
  intro rest12 h12 d12 tk12 od or' F12 N12 s12
  have i12 : ∀ p ∈ rest4, p ∈ rest12 := fun p hp => s12 p (.tail _ (.tail _ (.tail _ (.tail _ (s70 p hp)))))
  have N13 : News h₀ L h12 ((L + 1 + 1 + 1 + 1, oE') :: (L + 1 + 1 + 1, oR') :: rest12) := News.sub N12 (List.forall_mem_cons.mpr ⟨s12 _ (.tail _ (.tail _ (.tail _ (.head _)))), List.forall_mem_cons.mpr ⟨s12 _ (.tail _ (.head _)), fun _ h => h⟩⟩)
  refine seg13 dR dE n0' n1' (hT.mono i12) hok hz hb env_hw ?_ ?_ (r4.mono i12) (i12 _ mD4) lD dD aD B F12 X N13 T ?_
  · unfold envRho
    rw [if_neg (by decide +kernel), if_neg (by decide +kernel), if_neg (by decide +kernel), if_neg (by decide +kernel)]
  · unfold envRho
    rw [if_neg (by decide +kernel), if_neg (by decide +kernel), if_neg (by decide +kernel), if_neg (by decide +kernel)]
  intro h13 tk13 F13
  exact hQ _ _ _ _ F13
end Mine
end

theorem Mine.reset_end : True := by
  w_top off
  k_with_none
  exact trivial
open PySem PySem.W PyProof.Rows PySem.Calls PyProof.V
set_option maxRecDepth 100000 in
set_option maxHeartbeats 8000000 in
theorem PySem.Challenge.cw_pq0025_01_holds : PySem.Challenge.rw_pq0025_01.Holds := by
  refine Mine.hd ⟨Mine.left, ?_⟩
  k_go0
  rename Fr _ _ _ _ => F0
  rename News _ _ _ _ => N0
  rename CellsAre _ _ _ => X0
  rename Below _ _ _ _ => B0
  rename Top _ _ _ _ _ _ => T0
  rename IntsAre _ _ => J0
  rename Heap.IsList _ _ _ => L0
  rename Frag.In _ _ => K0
  rename _ = #[] => G0
  rename ¬ (_ < _) => C0
  obtain ⟨o1, o2, o3, o4, o5, hE', d1, d2, d3, d4, d5⟩ := kc_five X0
  refine Mine.law_body (m := fun _ => none) d5 d4 d3 d2 d1 L0 J0 (by omega) ?_ B0 (Mine.Fr.eq F0 (fun y => ?_)) K0 (by rw [hE'] at N0; exact N0) T0 ?_
  · passes_own
  · rfl
  · intro h' d' tk' m' F'
    refine goodW_bool F' G0 (raisesW_false ?_) ?_
    · wrow_none_raised
    · wrow_post
