import PyProof.Rows.All
import PyProof.ConsumeS
import PyProof.WalkInts
import PyProof.Rows.MinMaxN
import HandS.ForMost
import HandS.ForExc
import HandS.IsInst
import HandS.Wide
import HandS.Gcd
import HandS.TupAny
import HandS.StrMore
import HandS.ExcIs
import HandS.TryOnly
import HandS.Text
import HandS.Replace
import HandS.SortKw
import HandS.TupMul
import PyProof.StrBlock2
import HandS.Style
import HandS.Rev
import HandS.Zip
import HandS.WideBits
import KE.DataMinMax
import KE.DataCmp
import KE.SortData
import KE.GoesMore
import HandS.More
import HandS.Conv
import PySem.Challenge.RW_typefoundry_k67_shares_joined
set_option Elab.async false
set_option linter.all false
set_option maxRecDepth 100000
/-! Dx1: min and max of a list of whole numbers, with default= -/
namespace PySem
section
variable {prog : Program} {w : World} {A : Around} {E : Value → Shared → Prop} {s : Shared}
theorem call_tree_kw {id : String} {b : Builtin} {us : List Value} {kw : List (Str × Value)} {Q : Value → Shared → Prop} (hk : builtinKind id = none) (hp : plainId id = true) (hb : entryFor table id = some b) (ha : argsOk id ⟨us, kw⟩)
    (q : wpAny (model prog w) A.in1 (b ⟨us, kw⟩) (fun fin z => match fin with
      | .done f => (match (Except.ok f : Result) with | .ok (.ret v) => Q v z | .ok _ => False | .error e => E e z)
      | .again c' => c'.quiet = true ∧ codeAny (model prog w) A c' (fun r y => match r with | .ok (.ret v) => Q v y | .ok _ => False | .error e => E e y) z) E s) : wpAny (model prog w) A (call (.builtin id) us kw) Q E s := by
  refine wpAny_call (codeAny_call_builtin hp hb ?_)
  simp only [checkBuiltinCall, hk]
  cases sg : Manifest.signature? id with
  | none => exact wpAny_pure q
  | some g =>
    simp only [argsOk, sg] at ha
    have e2 : Bind.checkArgs id g ⟨us, kw⟩ = pure () := ha
    show wpAny _ _ (Bind.checkArgs id g ⟨us, kw⟩) _ _ _
    rw [e2]
    exact wpAny_pure q
end
section
variable {prog : Program} {w : World} {A : Around} {R : Result → Shared → Prop} {I : Addr} {fp wr : List Addr} {G : Array GenState → Array GenState → Prop} {n : Nat} {P : Nat → Value → Prop} {St : Nat → Shared → Prop} {kw : List (Str × Value)}
theorem dmin_loop (W : WalksS prog w A.in1 I fp wr G n P St) (bt : Nat → Nat → Bool) (hcmp : CmpOf prog w A.in1 .Lt P bt) (S : Addr) (out : S ∉ fp) (fuel : Nat) :
    ∀ (j : Nat) (s : Shared) (x : Value) (c : Nat), n - (j + 1) = fuel → j + 1 ≤ n → St (j + 1) s → P (argBest bt j) x → s.heap.get? S = some { cls := .type "list", dict := none, data := .seq #[x, x] c, slots := #[] } →
    (∀ y z, P (argBest bt (n - 1)) y → Moved (S :: wr) G s z → R (.ok (.ret y)) z) → codeAny (model prog w) A (.builtin "min.loop" ⟨[.ref I, .none, .ref S], kw⟩) R s := by
  have inw : S ∉ wr := fun z => out (W.sub _ z)
  have ne : ∀ {b : Addr}, b ∉ S :: wr → S ≠ b := fun {b} z e => z (e ▸ List.mem_cons_self ..)
  have more : ∀ b ∈ wr, b ∈ S :: wr := fun b z => List.mem_cons_of_mem _ z
  have nm : (toString "min" ++ toString ".loop" : String) = "min.loop" := by decide
  induction fuel with
  | zero =>
    intro j s x c e1 e2 st px hS k
    have en : j + 1 = n := by omega
    refine codeAny_builtin F.entry_min_loop ?_
    rw [Around.under_plainId F.plain_min_loop _]
    show wpAny _ A.in1 (seqItems? (.ref S) >>= _) _ _ _
    refine wpAny_bind (wpAny_seqItems hS (by rfl) ?_)
    show wpAny _ A.in1 (tryCatch (pyNext (.ref I)) _ >>= _) _ _ _
    refine wpAny_bind (wpAny_tryCatch (W.done s _ _ (en ▸ st) fun z mv => ?_))
    have hz := mv.heap S _ inw hS
    show wpAny _ A.in1 (updateSeq S (fun _ => #[]) >>= _) _ _ _
    exact wpAny_bind (wpAny_updateSeq hz rfl (wpAny_bind (wpAny_letGo (wpAny_pure (k x _ (by rw [← en]; exact px) ((mv.mono more).then_heap (tk := z.toks) (Nat.le_refl _) fun b o q e => (Heap.get?_update_other _ _ (ne q)).trans e))))))
  | succ fuel ih =>
    intro j s x c e1 e2 st px hS k
    have lt : j + 1 < n := by omega
    refine codeAny_builtin F.entry_min_loop ?_
    rw [Around.under_plainId F.plain_min_loop _]
    show wpAny _ A.in1 (seqItems? (.ref S) >>= _) _ _ _
    refine wpAny_bind (wpAny_seqItems hS (by rfl) ?_)
    show wpAny _ A.in1 (tryCatch (pyNext (.ref I)) _ >>= _) _ _ _
    refine wpAny_bind (wpAny_tryCatch (W.item (j + 1) s _ _ lt st fun y z py st2 mv => ?_))
    have hz := mv.heap S _ inw hS
    show wpAny _ A.in1 (tryCatch (holding [y, y] (richCompare .Lt y x >>= _)) _ >>= _) _ _ _
    refine wpAny_bind (wpAny_tryCatch (wpAny_holding (wpAny_bind (hcmp (j + 1) (argBest bt j) y x _ _ _ py px ?_))))
    refine wpAny_bind (wpAny_holding (wpAny_truthy_bool (wpAny_bind (wpAny_letGo (wpAny_pure ?_)))))
    cases hb : bt (j + 1) (argBest bt j) with
    | true =>
      simp only [if_true]
      refine wpAny_bind (wpAny_updateSeq hz rfl (wpAny_bind (wpAny_letGo ?_)))
      rw [nm]
      refine wpAny_pure ⟨plainId_quiet F.plain_min_loop _, ih (j + 1) _ y _ (by omega) lt (W.frame _ z _ z.toks st2 (Nat.le_refl _) fun b q o e => ?_) (by simp only [argBest, hb, if_true]; exact py) (Heap.get?_update_self _ hz rfl) fun y2 z2 p2 mv2 => ?_⟩
      · exact (Heap.get?_update_other _ _ (fun g : S = b => out (g ▸ q))).trans e
      · exact k y2 z2 p2 (Moved.trans W.gtrans ((mv.mono more).then_heap (tk := z.toks) (Nat.le_refl _) fun b o q e => (Heap.get?_update_other _ _ (ne q)).trans e) mv2)
    | false =>
      simp only [Bool.false_eq_true, if_false]
      refine wpAny_bind (wpAny_letGo ?_)
      rw [nm]
      exact wpAny_pure ⟨plainId_quiet F.plain_min_loop _, ih (j + 1) _ x c (by omega) lt st2 (by simp only [argBest, hb, Bool.false_eq_true, if_false]; exact px) hz fun y2 z2 p2 mv2 => k y2 z2 p2 (Moved.trans W.gtrans (mv.mono more) mv2)⟩
theorem dmin_from (W : WalksS prog w A.in1 I fp wr G n P St) (bt : Nat → Nat → Bool) (hcmp : CmpOf prog w A.in1 .Lt P bt) (S : Addr) (out : S ∉ fp) {d : Value} {s : Shared} {c : Nat} (st : St 0 s) (hS : s.heap.get? S = some { cls := .type "list", dict := none, data := .seq #[] c, slots := #[] })
    (k0 : n = 0 → ∀ z, Moved (S :: wr) G s z → R (.ok (.ret d)) z) (k : 0 < n → ∀ y z, P (argBest bt (n - 1)) y → Moved (S :: wr) G s z → R (.ok (.ret y)) z) :
    codeAny (model prog w) A (.builtin "min.loop" ⟨[.ref I, .none, .ref S], [(Str.ofString "default", d)]⟩) R s := by
  have inw : S ∉ wr := fun z => out (W.sub _ z)
  have ne : ∀ {b : Addr}, b ∉ S :: wr → S ≠ b := fun {b} z e => z (e ▸ List.mem_cons_self ..)
  have more : ∀ b ∈ wr, b ∈ S :: wr := fun b z => List.mem_cons_of_mem _ z
  have nm : (toString "min" ++ toString ".loop" : String) = "min.loop" := by decide
  refine codeAny_builtin F.entry_min_loop (by
    rw [Around.under_plainId F.plain_min_loop _]
    show wpAny _ A.in1 (seqItems? (.ref S) >>= _) _ _ _
    refine wpAny_bind (wpAny_seqItems hS (by rfl) ?_)
    show wpAny _ A.in1 (tryCatch (pyNext (.ref I)) _ >>= _) _ _ _
    rcases Nat.eq_zero_or_pos n with e0 | lt
    · refine wpAny_bind (wpAny_tryCatch (W.done s _ _ (e0 ▸ st) fun z mv => ?_))
      exact wpAny_bind (wpAny_rule (wpAny_pure (k0 e0 z (mv.mono more))))
    · refine wpAny_bind (wpAny_tryCatch (W.item 0 s _ _ lt st fun y z py st2 mv => ?_))
      have hz := mv.heap S _ inw hS
      show wpAny _ A.in1 (updateSeq S (fun _ => #[y, y]) >>= _) _ _ _
      refine wpAny_bind (wpAny_updateSeq hz rfl ?_)
      rw [nm]
      refine wpAny_pure ⟨plainId_quiet F.plain_min_loop _, dmin_loop W bt hcmp S out _ 0 _ y _ rfl lt (W.frame _ z _ z.toks st2 (Nat.le_refl _) fun b q o e => ?_) py (Heap.get?_update_self _ hz rfl) fun y2 z2 p2 mv2 => ?_⟩
      · exact (Heap.get?_update_other _ _ (fun g : S = b => out (g ▸ q))).trans e
      · exact k lt y2 z2 p2 (Moved.trans W.gtrans ((mv.mono more).then_heap (tk := z.toks) (Nat.le_refl _) fun b o q e => (Heap.get?_update_other _ _ (ne q)).trans e) mv2))
theorem dargs_min (a d : Value) : argsOk "min" ⟨[a], [(Str.ofString "default", d)]⟩ := by unfold argsOk; kernel_rfl
theorem call_min_dflt {E : Value → Shared → Prop} {s : Shared} {x d : Value} {Q : Value → Shared → Prop}
    (h : wpAny (model prog w) A.in1 (pyIter x) (fun it z => ∃ I fp wr G n P St bt, it = .ref I ∧ WalksS prog w A.in1 I fp wr G n P St ∧ St 0 z ∧ (∀ b ∈ fp, b < z.heap.objs.size) ∧ CmpOf prog w A.in1 .Lt P bt ∧
      (n = 0 → ∀ y, Moved wr G z y → Q d y) ∧ (0 < n → ∀ v y, P (argBest bt (n - 1)) v → Moved wr G z y → Q v y)) E s) :
    wpAny (model prog w) A (call (.builtin "min") [x] [(Str.ofString "default", d)]) Q E s := by
  have nm : (toString "min" ++ toString ".loop" : String) = "min.loop" := by decide
  refine call_tree_kw F.kind_min F.plain_min F.entry_min (dargs_min _ _) ?_
  show wpAny _ A.in1 (Builtin.Builtins.bindParams "min" ["key", "default"] 0 ⟨[], [(Str.ofString "default", d)]⟩ >>= _) _ _ _
  refine wpAny_bind (wpAny_of_eq (show Builtin.Builtins.bindParams "min" ["key", "default"] 0 ⟨[], [(Str.ofString "default", d)]⟩ = pure [none, some d] from rfl) ?_)
  refine wpAny_bind (wpAny_pure (wpAny_bind (wpAny_mono h (fun it z q => ?_) fun _ _ e => e)))
  obtain ⟨I, fp, wr, G, n, P, St, bt, rfl, W, st, lo, hcmp, q0, q1⟩ := q
  refine wpAny_bind (wpAny_newObj_type ?_)
  rw [nm]
  exact wpAny_pure ⟨plainId_quiet F.plain_min_loop _, dmin_from W bt hcmp z.heap.objs.size (fun e => Nat.lt_irrefl _ (lo _ e)) (W.frame 0 z _ z.toks st (Nat.le_refl _) fun b _ o e => Heap.get?_push_of_some _ e) (Heap.get?_push_size _ rfl)
    (fun e y mv => q0 e y (Moved.drop_new (tk := z.toks) mv (Nat.le_refl _))) fun e v y p mv => q1 e v y p (Moved.drop_new (tk := z.toks) mv (Nat.le_refl _))⟩
theorem dmax_loop (W : WalksS prog w A.in1 I fp wr G n P St) (bt : Nat → Nat → Bool) (hcmp : CmpOf prog w A.in1 .Gt P bt) (S : Addr) (out : S ∉ fp) (fuel : Nat) :
    ∀ (j : Nat) (s : Shared) (x : Value) (c : Nat), n - (j + 1) = fuel → j + 1 ≤ n → St (j + 1) s → P (argBest bt j) x → s.heap.get? S = some { cls := .type "list", dict := none, data := .seq #[x, x] c, slots := #[] } →
    (∀ y z, P (argBest bt (n - 1)) y → Moved (S :: wr) G s z → R (.ok (.ret y)) z) → codeAny (model prog w) A (.builtin "max.loop" ⟨[.ref I, .none, .ref S], kw⟩) R s := by
  have inw : S ∉ wr := fun z => out (W.sub _ z)
  have ne : ∀ {b : Addr}, b ∉ S :: wr → S ≠ b := fun {b} z e => z (e ▸ List.mem_cons_self ..)
  have more : ∀ b ∈ wr, b ∈ S :: wr := fun b z => List.mem_cons_of_mem _ z
  have nm : (toString "max" ++ toString ".loop" : String) = "max.loop" := by decide
  induction fuel with
  | zero =>
    intro j s x c e1 e2 st px hS k
    have en : j + 1 = n := by omega
    refine codeAny_builtin F.entry_max_loop ?_
    rw [Around.under_plainId F.plain_max_loop _]
    show wpAny _ A.in1 (seqItems? (.ref S) >>= _) _ _ _
    refine wpAny_bind (wpAny_seqItems hS (by rfl) ?_)
    show wpAny _ A.in1 (tryCatch (pyNext (.ref I)) _ >>= _) _ _ _
    refine wpAny_bind (wpAny_tryCatch (W.done s _ _ (en ▸ st) fun z mv => ?_))
    have hz := mv.heap S _ inw hS
    show wpAny _ A.in1 (updateSeq S (fun _ => #[]) >>= _) _ _ _
    exact wpAny_bind (wpAny_updateSeq hz rfl (wpAny_bind (wpAny_letGo (wpAny_pure (k x _ (by rw [← en]; exact px) ((mv.mono more).then_heap (tk := z.toks) (Nat.le_refl _) fun b o q e => (Heap.get?_update_other _ _ (ne q)).trans e))))))
  | succ fuel ih =>
    intro j s x c e1 e2 st px hS k
    have lt : j + 1 < n := by omega
    refine codeAny_builtin F.entry_max_loop ?_
    rw [Around.under_plainId F.plain_max_loop _]
    show wpAny _ A.in1 (seqItems? (.ref S) >>= _) _ _ _
    refine wpAny_bind (wpAny_seqItems hS (by rfl) ?_)
    show wpAny _ A.in1 (tryCatch (pyNext (.ref I)) _ >>= _) _ _ _
    refine wpAny_bind (wpAny_tryCatch (W.item (j + 1) s _ _ lt st fun y z py st2 mv => ?_))
    have hz := mv.heap S _ inw hS
    show wpAny _ A.in1 (tryCatch (holding [y, y] (richCompare .Gt y x >>= _)) _ >>= _) _ _ _
    refine wpAny_bind (wpAny_tryCatch (wpAny_holding (wpAny_bind (hcmp (j + 1) (argBest bt j) y x _ _ _ py px ?_))))
    refine wpAny_bind (wpAny_holding (wpAny_truthy_bool (wpAny_bind (wpAny_letGo (wpAny_pure ?_)))))
    cases hb : bt (j + 1) (argBest bt j) with
    | true =>
      simp only [if_true]
      refine wpAny_bind (wpAny_updateSeq hz rfl (wpAny_bind (wpAny_letGo ?_)))
      rw [nm]
      refine wpAny_pure ⟨plainId_quiet F.plain_max_loop _, ih (j + 1) _ y _ (by omega) lt (W.frame _ z _ z.toks st2 (Nat.le_refl _) fun b q o e => ?_) (by simp only [argBest, hb, if_true]; exact py) (Heap.get?_update_self _ hz rfl) fun y2 z2 p2 mv2 => ?_⟩
      · exact (Heap.get?_update_other _ _ (fun g : S = b => out (g ▸ q))).trans e
      · exact k y2 z2 p2 (Moved.trans W.gtrans ((mv.mono more).then_heap (tk := z.toks) (Nat.le_refl _) fun b o q e => (Heap.get?_update_other _ _ (ne q)).trans e) mv2)
    | false =>
      simp only [Bool.false_eq_true, if_false]
      refine wpAny_bind (wpAny_letGo ?_)
      rw [nm]
      exact wpAny_pure ⟨plainId_quiet F.plain_max_loop _, ih (j + 1) _ x c (by omega) lt st2 (by simp only [argBest, hb, Bool.false_eq_true, if_false]; exact px) hz fun y2 z2 p2 mv2 => k y2 z2 p2 (Moved.trans W.gtrans (mv.mono more) mv2)⟩
theorem dmax_from (W : WalksS prog w A.in1 I fp wr G n P St) (bt : Nat → Nat → Bool) (hcmp : CmpOf prog w A.in1 .Gt P bt) (S : Addr) (out : S ∉ fp) {d : Value} {s : Shared} {c : Nat} (st : St 0 s) (hS : s.heap.get? S = some { cls := .type "list", dict := none, data := .seq #[] c, slots := #[] })
    (k0 : n = 0 → ∀ z, Moved (S :: wr) G s z → R (.ok (.ret d)) z) (k : 0 < n → ∀ y z, P (argBest bt (n - 1)) y → Moved (S :: wr) G s z → R (.ok (.ret y)) z) :
    codeAny (model prog w) A (.builtin "max.loop" ⟨[.ref I, .none, .ref S], [(Str.ofString "default", d)]⟩) R s := by
  have inw : S ∉ wr := fun z => out (W.sub _ z)
  have ne : ∀ {b : Addr}, b ∉ S :: wr → S ≠ b := fun {b} z e => z (e ▸ List.mem_cons_self ..)
  have more : ∀ b ∈ wr, b ∈ S :: wr := fun b z => List.mem_cons_of_mem _ z
  have nm : (toString "max" ++ toString ".loop" : String) = "max.loop" := by decide
  refine codeAny_builtin F.entry_max_loop (by
    rw [Around.under_plainId F.plain_max_loop _]
    show wpAny _ A.in1 (seqItems? (.ref S) >>= _) _ _ _
    refine wpAny_bind (wpAny_seqItems hS (by rfl) ?_)
    show wpAny _ A.in1 (tryCatch (pyNext (.ref I)) _ >>= _) _ _ _
    rcases Nat.eq_zero_or_pos n with e0 | lt
    · refine wpAny_bind (wpAny_tryCatch (W.done s _ _ (e0 ▸ st) fun z mv => ?_))
      exact wpAny_bind (wpAny_rule (wpAny_pure (k0 e0 z (mv.mono more))))
    · refine wpAny_bind (wpAny_tryCatch (W.item 0 s _ _ lt st fun y z py st2 mv => ?_))
      have hz := mv.heap S _ inw hS
      show wpAny _ A.in1 (updateSeq S (fun _ => #[y, y]) >>= _) _ _ _
      refine wpAny_bind (wpAny_updateSeq hz rfl ?_)
      rw [nm]
      refine wpAny_pure ⟨plainId_quiet F.plain_max_loop _, dmax_loop W bt hcmp S out _ 0 _ y _ rfl lt (W.frame _ z _ z.toks st2 (Nat.le_refl _) fun b q o e => ?_) py (Heap.get?_update_self _ hz rfl) fun y2 z2 p2 mv2 => ?_⟩
      · exact (Heap.get?_update_other _ _ (fun g : S = b => out (g ▸ q))).trans e
      · exact k lt y2 z2 p2 (Moved.trans W.gtrans ((mv.mono more).then_heap (tk := z.toks) (Nat.le_refl _) fun b o q e => (Heap.get?_update_other _ _ (ne q)).trans e) mv2))
theorem dargs_max (a d : Value) : argsOk "max" ⟨[a], [(Str.ofString "default", d)]⟩ := by unfold argsOk; kernel_rfl
theorem call_max_dflt {E : Value → Shared → Prop} {s : Shared} {x d : Value} {Q : Value → Shared → Prop}
    (h : wpAny (model prog w) A.in1 (pyIter x) (fun it z => ∃ I fp wr G n P St bt, it = .ref I ∧ WalksS prog w A.in1 I fp wr G n P St ∧ St 0 z ∧ (∀ b ∈ fp, b < z.heap.objs.size) ∧ CmpOf prog w A.in1 .Gt P bt ∧
      (n = 0 → ∀ y, Moved wr G z y → Q d y) ∧ (0 < n → ∀ v y, P (argBest bt (n - 1)) v → Moved wr G z y → Q v y)) E s) :
    wpAny (model prog w) A (call (.builtin "max") [x] [(Str.ofString "default", d)]) Q E s := by
  have nm : (toString "max" ++ toString ".loop" : String) = "max.loop" := by decide
  refine call_tree_kw F.kind_max F.plain_max F.entry_max (dargs_max _ _) ?_
  show wpAny _ A.in1 (Builtin.Builtins.bindParams "max" ["key", "default"] 0 ⟨[], [(Str.ofString "default", d)]⟩ >>= _) _ _ _
  refine wpAny_bind (wpAny_of_eq (show Builtin.Builtins.bindParams "max" ["key", "default"] 0 ⟨[], [(Str.ofString "default", d)]⟩ = pure [none, some d] from rfl) ?_)
  refine wpAny_bind (wpAny_pure (wpAny_bind (wpAny_mono h (fun it z q => ?_) fun _ _ e => e)))
  obtain ⟨I, fp, wr, G, n, P, St, bt, rfl, W, st, lo, hcmp, q0, q1⟩ := q
  refine wpAny_bind (wpAny_newObj_type ?_)
  rw [nm]
  exact wpAny_pure ⟨plainId_quiet F.plain_max_loop _, dmax_from W bt hcmp z.heap.objs.size (fun e => Nat.lt_irrefl _ (lo _ e)) (W.frame 0 z _ z.toks st (Nat.le_refl _) fun b _ o e => Heap.get?_push_of_some _ e) (Heap.get?_push_size _ rfl)
    (fun e y mv => q0 e y (Moved.drop_new (tk := z.toks) mv (Nat.le_refl _))) fun e v y p mv => q1 e v y p (Moved.drop_new (tk := z.toks) mv (Nat.le_refl _))⟩
end
section
open PyProof.Rows
variable {prog : Program} {w : World} {A : Around} {E : Value → Shared → Prop} {s : Shared} {l : Addr} {vs : List Value} {ns : List Int} {d : Value} {Q : Value → Shared → Prop}
theorem dmin_raw (hh : A.handled = none) (hl : s.heap.IsList l vs.toArray) (hi : IntsAre vs ns) (q0 : ns = [] → ∀ h' tk, (∀ b o, s.heap.get? b = some o → h'.get? b = some o) → Q d { s with heap := h', toks := tk })
    (q : ∀ h' tk m t, (∀ b o, s.heap.get? b = some o → h'.get? b = some o) → m ∈ ns → (∀ a, a ∈ ns → m ≤ a) → Q (.int m t) { s with heap := h', toks := tk }) :
    wpAny (model prog w) A (call (.builtin "min") [.ref l] [(Str.ofString "default", d)]) Q E s := by
  obtain ⟨xs, e⟩ := hi.allInts.items
  have en : ns = xs.toList.map (·.1) := by rw [← hi.numsOf, ← nums_intItems, ← e]
  have el : ns.length = xs.size := by rw [en, List.length_map, Array.length_toList]
  have ez : (intItems xs).size = xs.size := by simp [intItems]
  rw [e] at hl
  refine call_min_dflt (iter_intList hl fun z ez2 st lo ne => ?_)
  subst ez2
  refine ⟨_, _, _, _, _, _, _, _, rfl, (Walks.list (A := A.in1) hh _ l ne (intItems xs)).toS, st, lo, CmpOf.ints_lt (numAt xs) (fun _ _ => intItems_at), fun e0 y mv => ?_, fun lt v y p mv => ?_⟩
  · have e1 : ns = [] := List.eq_nil_of_length_eq_zero (by rw [el, ← ez]; exact e0)
    have r := q0 e1 y.heap y.toks (old_kept mv.heap)
    have ey : y = { s with heap := y.heap, toks := y.toks } := by
      have g := mv.gens; have dd := mv.drawn; have oo := mv.os
      cases y; cases s; simp_all
    rw [ey]; exact r
  · obtain ⟨t, rfl⟩ := intItems_at p
    obtain ⟨h1, h2⟩ := argBest_lt (numAt xs) (xs.size - 1)
    have ey : y = { s with heap := y.heap, toks := y.toks } := by
      have g := mv.gens; have dd := mv.drawn; have oo := mv.os
      cases y; cases s; simp_all
    rw [ey]
    rw [ez] at lt
    rw [ez]
    refine q y.heap y.toks _ t (old_kept mv.heap) ?_ fun a ha => ?_
    · rw [en, numAt_eq]; exact getD_mem (by rw [← en, el]; omega)
    · rw [en] at ha
      obtain ⟨j, hj, rfl⟩ := mem_getD ha
      rw [← en, el] at hj
      rw [← numAt_eq]; exact h2 j (by omega)
end
section
open PyProof.Rows
variable {prog : Program} {w : World} {A : Around} {E : Value → Shared → Prop} {s : Shared} {l : Addr} {vs : List Value} {ns : List Int} {d : Value} {Q : Value → Shared → Prop}
theorem dmax_raw (hh : A.handled = none) (hl : s.heap.IsList l vs.toArray) (hi : IntsAre vs ns) (q0 : ns = [] → ∀ h' tk, (∀ b o, s.heap.get? b = some o → h'.get? b = some o) → Q d { s with heap := h', toks := tk })
    (q : ∀ h' tk m t, (∀ b o, s.heap.get? b = some o → h'.get? b = some o) → m ∈ ns → (∀ a, a ∈ ns → a ≤ m) → Q (.int m t) { s with heap := h', toks := tk }) :
    wpAny (model prog w) A (call (.builtin "max") [.ref l] [(Str.ofString "default", d)]) Q E s := by
  obtain ⟨xs, e⟩ := hi.allInts.items
  have en : ns = xs.toList.map (·.1) := by rw [← hi.numsOf, ← nums_intItems, ← e]
  have el : ns.length = xs.size := by rw [en, List.length_map, Array.length_toList]
  have ez : (intItems xs).size = xs.size := by simp [intItems]
  rw [e] at hl
  refine call_max_dflt (iter_intList hl fun z ez2 st lo ne => ?_)
  subst ez2
  refine ⟨_, _, _, _, _, _, _, _, rfl, (Walks.list (A := A.in1) hh _ l ne (intItems xs)).toS, st, lo, CmpOf.ints_gt (numAt xs) (fun _ _ => intItems_at), fun e0 y mv => ?_, fun lt v y p mv => ?_⟩
  · have e1 : ns = [] := List.eq_nil_of_length_eq_zero (by rw [el, ← ez]; exact e0)
    have r := q0 e1 y.heap y.toks (old_kept mv.heap)
    have ey : y = { s with heap := y.heap, toks := y.toks } := by
      have g := mv.gens; have dd := mv.drawn; have oo := mv.os
      cases y; cases s; simp_all
    rw [ey]; exact r
  · obtain ⟨t, rfl⟩ := intItems_at p
    obtain ⟨h1, h2⟩ := argBest_gt (numAt xs) (xs.size - 1)
    have ey : y = { s with heap := y.heap, toks := y.toks } := by
      have g := mv.gens; have dd := mv.drawn; have oo := mv.os
      cases y; cases s; simp_all
    rw [ey]
    rw [ez] at lt
    rw [ez]
    refine q y.heap y.toks _ t (old_kept mv.heap) ?_ fun a ha => ?_
    · rw [en, numAt_eq]; exact getD_mem (by rw [← en, el]; omega)
    · rw [en] at ha
      obtain ⟨j, hj, rfl⟩ := mem_getD ha
      rw [← en, el] at hj
      rw [← numAt_eq]; exact h2 j (by omega)
end
end PySem
set_option Elab.async false
set_option linter.all false
set_option maxRecDepth 100000
set_option maxHeartbeats 1000000
/-! Dn: defs of a Python text as plain functions of data: what is evaluated, over the layer's rules -/
namespace Dn
open PySem L2

abbrev D := PyData

/-! ### data at the heap: F are the addresses that may be written by the frame (own lists), data never leans on these -/
def SqLK (K : PySem.W.Frag) (a : Addr) (xs : List V) : Prop := ∃ (o : Obj) (its : Array Value) (n : Nat), K.lookup a = some o ∧ o.cls = .type "list" ∧ o.dict = none ∧ o.data = .seq its n ∧ its.size ≤ sizeLine ∧ Vals xs its.toList
def SqTK (K : PySem.W.Frag) (a : Addr) (xs : List V) : Prop := ∃ (o : Obj) (its : Array Value) (n : Nat), K.lookup a = some o ∧ o.cls = .type "tuple" ∧ o.data = .seq its n ∧ its.size ≤ sizeLine ∧ Vals xs its.toList
def kd : Key → D
  | .inl i => .int i
  | .inr x => .str x
mutual
inductive Sh (K : PySem.W.Frag) (F : Addr → Prop) (H : Hp) : V → D → Prop
  | non : Sh K F H .non .none
  | bl (b : Bool) : Sh K F H (.bl b) (.bool b)
  | int (i : Int) : Sh K F H (.int i) (.int i)
  | str (x : Str) : Sh K F H (.str x) (.str x)
  | lst {a : Addr} {xs : List V} {ds : List D} : (¬ F a ∧ Rd H a (.lst xs)) ∨ SqLK K a xs → ShA K F H xs ds → Sh K F H (.ref a) (.list ds)
  | tup {a : Addr} {xs : List V} {ds : List D} : (¬ F a ∧ Rd H a (.tup xs)) ∨ SqTK K a xs → ShA K F H xs ds → Sh K F H (.ref a) (.tuple ds)
  | dic {a : Addr} {kvs : List (Key × V)} {ds : List (D × D)} : ¬ F a → Rd H a (.dK kvs) → ShK K F H kvs ds → Sh K F H (.ref a) (.dict ds)
inductive ShA (K : PySem.W.Frag) (F : Addr → Prop) (H : Hp) : List V → List D → Prop
  | nil : ShA K F H [] []
  | cons {v : V} {d : D} {vs : List V} {ds : List D} : Sh K F H v d → ShA K F H vs ds → ShA K F H (v :: vs) (d :: ds)
inductive ShK (K : PySem.W.Frag) (F : Addr → Prop) (H : Hp) : List (Key × V) → List (D × D) → Prop
  | nil : ShK K F H [] []
  | cons {k : Key} {v : V} {d : D} {vs : List (Key × V)} {ds : List (D × D)} : Sh K F H v d → ShK K F H vs ds → ShK K F H ((k, v) :: vs) ((kd k, d) :: ds)
end

/-- what is tracked and not the frame's own stays, and does not become its own -/
def Tx (F : Addr → Prop) (H : Hp) (F' : Addr → Prop) (H' : Hp) : Prop := ∀ a u, ¬ F a → H a = some u → H' a = some u ∧ ¬ F' a
theorem Tx.refl (F : Addr → Prop) (H : Hp) : Tx F H F H := fun _ _ n e => ⟨e, n⟩
theorem Tx.trans {F F1 F2 : Addr → Prop} {H H1 H2 : Hp} (a : Tx F H F1 H1) (b : Tx F1 H1 F2 H2) : Tx F H F2 H2 := fun x u n e => let ⟨e1, n1⟩ := a x u n e; b x u n1 e1
theorem Tx.rd {F F' : Addr → Prop} {H H' : Hp} (t : Tx F H F' H') {a : Addr} {u : HO} (n : ¬ F a) (r : Rd H a u) : ¬ F' a ∧ Rd H' a u := by
  rcases r with r | ⟨o, r⟩
  · exact ⟨(t _ _ n r).2, .inl (t _ _ n r).1⟩
  · exact ⟨(t _ _ n r).2, .inr ⟨o, (t _ _ n r).1⟩⟩
section
variable {K : PySem.W.Frag} {F F' : Addr → Prop} {H H' : Hp}
mutual
theorem Sh.tx (t : Tx F H F' H') : ∀ {v : V} {d : D}, Sh K F H v d → Sh K F' H' v d
  | _, _, .non => .non
  | _, _, .bl b => .bl b
  | _, _, .int i => .int i
  | _, _, .str x => .str x
  | _, _, .lst h s => .lst (h.elim (fun z => .inl (t.rd z.1 z.2)) .inr) (ShA.tx t s)
  | _, _, .tup h s => .tup (h.elim (fun z => .inl (t.rd z.1 z.2)) .inr) (ShA.tx t s)
  | _, _, .dic n r s => .dic (t.rd n r).1 (t.rd n r).2 (ShK.tx t s)
theorem ShA.tx (t : Tx F H F' H') : ∀ {v : List V} {d : List D}, ShA K F H v d → ShA K F' H' v d
  | _, _, .nil => .nil
  | _, _, .cons h s => .cons (Sh.tx t h) (ShA.tx t s)
theorem ShK.tx (t : Tx F H F' H') : ∀ {v : List (Key × V)} {d : List (D × D)}, ShK K F H v d → ShK K F' H' v d
  | _, _, .nil => .nil
  | _, _, .cons h s => .cons (Sh.tx t h) (ShK.tx t s)
end
theorem Tx.same (h : Same H H') : Tx F H F H' := fun a u n e => ⟨h a u e, n⟩
theorem Tx.less (h : ∀ a, F' a → F a) : Tx F H F' H := fun a u n e => ⟨e, fun z => n (h a z)⟩
theorem Tx.both (s : Same H H') (h : ∀ a, F' a → F a ∨ H a = none) : Tx F H F' H' := fun a u n e => ⟨s a u e, fun z => (h a z).elim n fun q => by rw [e] at q; cases q⟩
theorem ShA.length : ∀ {vs : List V} {ds : List D}, ShA K F H vs ds → vs.length = ds.length
  | _, _, .nil => rfl
  | _, _, .cons _ s => by rw [List.length_cons, List.length_cons, ShA.length s]
theorem ShA.get : ∀ {vs : List V} {ds : List D} {i : Nat} {d : D}, ShA K F H vs ds → ds[i]? = some d → ∃ v, vs[i]? = some v ∧ Sh K F H v d
  | _, _, _, _, .nil, e => by simp at e
  | _, _, 0, _, .cons h _, e => by simp at e; subst e; exact ⟨_, rfl, h⟩
  | _, _, i + 1, d, .cons _ s, e => by
    obtain ⟨v, e1, h⟩ := ShA.get (i := i) (d := d) s (by simpa using e)
    exact ⟨v, by simpa using e1, h⟩
theorem ShA.get' : ∀ {vs : List V} {ds : List D} {i : Nat} {v : V}, ShA K F H vs ds → vs[i]? = some v → ∃ d, ds[i]? = some d ∧ Sh K F H v d
  | _, _, _, _, .nil, e => by simp at e
  | _, _, 0, _, .cons h _, e => by simp at e; subst e; exact ⟨_, rfl, h⟩
  | _, _, i + 1, d, .cons _ s, e => by
    obtain ⟨v, e1, h⟩ := ShA.get' (i := i) (v := d) s (by simpa using e)
    exact ⟨v, by simpa using e1, h⟩
theorem ShA.append : ∀ {vs ws : List V} {ds es : List D}, ShA K F H vs ds → ShA K F H ws es → ShA K F H (vs ++ ws) (ds ++ es)
  | _, _, _, _, .nil, s => s
  | _, _, _, _, .cons h r, s => .cons h (ShA.append r s)
theorem ShA.one {v : V} {d : D} (h : Sh K F H v d) : ShA K F H [v] [d] := .cons h .nil
theorem ShA.take : ∀ {vs : List V} {ds : List D} (n : Nat), ShA K F H vs ds → ShA K F H (vs.take n) (ds.take n)
  | _, _, 0, _ => .nil
  | _, _, n + 1, .nil => .nil
  | _, _, n + 1, .cons h s => .cons h (ShA.take n s)
theorem ShA.drop : ∀ {vs : List V} {ds : List D} (n : Nat), ShA K F H vs ds → ShA K F H (vs.drop n) (ds.drop n)
  | _, _, 0, s => s
  | _, _, n + 1, .nil => .nil
  | _, _, n + 1, .cons h s => ShA.drop n s
theorem ShA.set {v : V} {d : D} (h : Sh K F H v d) : ∀ {vs : List V} {ds : List D} (n : Nat), ShA K F H vs ds → ShA K F H (vs.set n v) (ds.set n d)
  | _, _, _, .nil => .nil
  | _, _, 0, .cons _ s => .cons h s
  | _, _, n + 1, .cons q s => .cons q (ShA.set h n s)
theorem ShA.rev : ∀ {vs : List V} {ds : List D}, ShA K F H vs ds → ShA K F H vs.reverse ds.reverse
  | _, _, .nil => .nil
  | _, _, .cons h s => by rw [List.reverse_cons, List.reverse_cons]; exact (ShA.rev s).append (.one h)
theorem Sh.sqT {a : Addr} {ds : List D} (h : Sh K F H (.ref a) (.tuple ds)) : ∃ xs, SqT K H a xs ∧ ShA K F H xs ds := by
  cases h with
  | tup h s => exact ⟨_, h.elim (fun z => .inl z.2) .inr, s⟩
end

/-! ### the frame's abstract state -/
inductive Cell where
  | lst (xs : List D)
  | dic (kvs : List (Key × D))
def Cell.toD : Cell → D
  | .lst xs => .list xs
  | .dic kvs => .dict (kvs.map fun p => (kd p.1, p.2))
/-- a slot: not assigned | data | an own list or dict, that nobody else knows | one that the caller lends -/
inductive Sl where
  | emp
  | val (d : D)
  | own (c : Cell)
  | bor (c : Cell)
abbrev Env := List Sl
inductive R where
  | val (d : D)
  | fresh (c : Cell)
def R.toD : R → D
  | .val d => d
  | .fresh c => c.toD
inductive Res (α : Type) where
  | ok (a : α) (ρ : Env)
  | exc (c : Str) (ρ : Env)
  | bad
def gS : Env → Nat → Sl
  | [], _ => .emp
  | s :: _, 0 => s
  | _ :: r, i + 1 => gS r i
def sS : Env → Nat → Sl → Env
  | [], _, _ => []
  | _ :: r, 0, s => s :: r
  | a :: r, i + 1, s => a :: sS r i s
theorem sS_len : ∀ (ρ : Env) (i : Nat) (s : Sl), (sS ρ i s).length = ρ.length
  | [], _, _ => rfl
  | _ :: _, 0, _ => rfl
  | _ :: r, i + 1, s => by show (sS r i s).length + 1 = r.length + 1; rw [sS_len r i s]
theorem gS_same : ∀ {ρ : Env} {i : Nat} {s : Sl}, i < ρ.length → gS (sS ρ i s) i = s
  | [], _, _, h => by simp at h
  | _ :: _, 0, _, _ => rfl
  | _ :: r, i + 1, s, h => gS_same (ρ := r) (i := i) (s := s) (by simpa using h)
theorem gS_ne : ∀ {ρ : Env} {i j : Nat} {s : Sl}, i ≠ j → gS (sS ρ i s) j = gS ρ j
  | [], _, _, _, _ => rfl
  | _ :: _, 0, 0, _, h => absurd rfl h
  | _ :: _, 0, _ + 1, _, _ => rfl
  | _ :: _, _ + 1, 0, _, _ => rfl
  | _ :: r, i + 1, j + 1, s, h => gS_ne (ρ := r) (i := i) (j := j) (s := s) (by omega)
theorem gS_out : ∀ {ρ : Env} {i : Nat}, ρ.length ≤ i → gS ρ i = .emp
  | [], _, _ => rfl
  | _ :: _, 0, h => by simp at h
  | _ :: r, i + 1, h => gS_out (ρ := r) (i := i) (by simpa using h)

structure Ctx where
  B : Addr → Prop
  H0 : Hp
  bv : Nat → V
abbrev Ctx.plus (C : Ctx) (as : List Addr) : Ctx := { C with B := fun a => C.B a ∨ a ∈ as }
def FF (B : Addr → Prop) (o : Nat → List Addr) (a : Addr) : Prop := B a ∨ ∃ i, a ∈ o i
def ShD (K : PySem.W.Frag) (F : Addr → Prop) (H : Hp) (vs : List (Key × V)) (ds : List (Key × D)) : Prop := Paired (fun p q => p.1 = q.1 ∧ Sh K F H p.2 q.2) vs ds
def CR (K : PySem.W.Frag) (F : Addr → Prop) (H : Hp) (as : List Addr) (v : V) : Cell → Prop
  | .lst xs => ∃ a vs, as = [a] ∧ v = .ref a ∧ H a = some (.lst vs) ∧ ShA K F H vs xs
  | .dic kvs => ∃ a vs, as = [a] ∧ v = .ref a ∧ H a = some (.dK vs) ∧ ShD K F H vs kvs
def SlR (K : PySem.W.Frag) (F : Addr → Prop) (H : Hp) (as : List Addr) (bv : V) (ov : Option (Option V)) : Sl → Prop
  | .emp => as = []
  | .val d => as = [] ∧ ∃ v, ov = some (some v) ∧ Sh K F H v d
  | .own c => ∃ v, ov = some (some v) ∧ CR K F H as v c
  | .bor c => ov = some (some bv) ∧ CR K F H as bv c
structure SRo (K : PySem.W.Frag) (C : Ctx) (o : Nat → List Addr) (ρ : Env) (σ : St) (H : Hp) : Prop where
  len : ρ.length = σ.length
  same : Same C.H0 H
  nod : ∀ i, (o i).Nodup
  inj : ∀ i j a, a ∈ o i → a ∈ o j → i = j
  nB : ∀ i a, a ∈ o i → ¬ C.B a
  fr : ∀ i a, a ∈ o i → C.H0 a = none
  tr : ∀ a, FF C.B o a → H a ≠ none
  slot : ∀ i, SlR K (FF C.B o) H (o i) (C.bv i) σ[i]? (gS ρ i)
section
variable {K : PySem.W.Frag} {F F' : Addr → Prop} {H H' : Hp} {as : List Addr} {v : V} {c : Cell}
theorem ShD.tx (t : Tx F H F' H') : ∀ {vs : List (Key × V)} {ds : List (Key × D)}, ShD K F H vs ds → ShD K F' H' vs ds
  | _, _, .nil => .nil
  | _, _, .cons h s => .cons ⟨h.1, h.2.tx t⟩ (ShD.tx t s)
theorem ShD.shK : ∀ {vs : List (Key × V)} {ds : List (Key × D)}, ShD K F H vs ds → ShK K F H vs (ds.map fun p => (kd p.1, p.2))
  | _, _, .nil => .nil
  | (k, v) :: _, (k', d) :: _, .cons h s => by
    obtain ⟨e, h⟩ := h
    have e : k = k' := e
    subst e
    exact .cons h (ShD.shK s)
/-- a cell's content goes over where its own addresses are kept -/
theorem CR.tx (t : Tx F H F' H') (k : ∀ a ∈ as, H' a = H a) (h : CR K F H as v c) : CR K F' H' as v c := by
  cases c with
  | lst xs =>
    obtain ⟨a, vs, rfl, rfl, e, s⟩ := h
    exact ⟨a, vs, rfl, rfl, (k a (by simp)).trans e, s.tx t⟩
  | dic kvs =>
    obtain ⟨a, vs, rfl, rfl, e, s⟩ := h
    exact ⟨a, vs, rfl, rfl, (k a (by simp)).trans e, s.tx t⟩
/-- the cell's content as data, once its addresses are given up -/
theorem CR.sh (h : CR K F H as v c) (t : Tx F H F' H) (n : ∀ a ∈ as, ¬ F' a) : Sh K F' H v c.toD := by
  cases c with
  | lst xs =>
    obtain ⟨a, vs, rfl, rfl, e, s⟩ := h
    exact .lst (.inl ⟨n a (by simp), .inl e⟩) (s.tx t)
  | dic kvs =>
    obtain ⟨a, vs, rfl, rfl, e, s⟩ := h
    exact .dic (n a (by simp)) (.inl e) (ShD.shK (s.tx t))
end
section
variable {K : PySem.W.Frag} {C : Ctx} {o : Nat → List Addr} {ρ : Env} {σ : St} {H H' : Hp}
theorem SlR.tx {F F' : Addr → Prop} {as : List Addr} {bv : V} {ov : Option (Option V)} {s : Sl} (t : Tx F H F' H') (k : ∀ a ∈ as, H' a = H a) (h : SlR K F H as bv ov s) : SlR K F' H' as bv ov s := by
  cases s with
  | emp => exact h
  | val d => obtain ⟨e, v, ev, h⟩ := h; exact ⟨e, v, ev, h.tx t⟩
  | own c => obtain ⟨v, ev, h⟩ := h; exact ⟨v, ev, h.tx t k⟩
  | bor c => exact ⟨h.1, h.2.tx t k⟩
theorem same_at {a : Addr} (s : Same H H') (n : H a ≠ none) : H' a = H a := by
  cases e : H a with
  | none => exact absurd e n
  | some u => exact s a u e
/-- the heap has grown -/
theorem SRo.keep (S : SRo K C o ρ σ H) (s : Same H H') : SRo K C o ρ σ H' where
  len := S.len
  same := S.same.trans s
  nod := S.nod
  inj := S.inj
  nB := S.nB
  fr := S.fr
  tr := fun a h z => by rw [same_at s (S.tr a h)] at z; exact S.tr a h z
  slot := fun i => (S.slot i).tx (.same s) fun a ha => same_at s (S.tr a (.inr ⟨i, ha⟩))
/-- fewer addresses that are forbidden -/
theorem SRo.lessB {C' : Ctx} (S : SRo K C o ρ σ H) (h : ∀ a, C'.B a → C.B a) (h0 : C'.H0 = C.H0) (hb : C'.bv = C.bv) : SRo K C' o ρ σ H where
  len := S.len
  same := by rw [h0]; exact S.same
  nod := S.nod
  inj := S.inj
  nB := fun i a ha z => S.nB i a ha (h a z)
  fr := fun i a ha => by rw [h0]; exact S.fr i a ha
  tr := fun a z => S.tr a (z.elim (fun q => .inl (h a q)) .inr)
  slot := fun i => by rw [hb]; exact (S.slot i).tx (.less fun a z => z.elim (fun q => .inl (h a q)) .inr) fun _ _ => rfl
theorem SRo.less {as : List Addr} (S : SRo K (C.plus as) o ρ σ H) : SRo K C o ρ σ H := S.lessB (fun _ => .inl) rfl rfl
def oset (o : Nat → List Addr) (i : Nat) (as : List Addr) : Nat → List Addr := fun j => if j = i then as else o j
theorem oset_same {i : Nat} {as : List Addr} : oset o i as i = as := if_pos rfl
theorem oset_ne {i j : Nat} {as : List Addr} (h : j ≠ i) : oset o i as j = o j := if_neg h
theorem oset_nil_mem {i j : Nat} {a : Addr} (h : a ∈ oset o i [] j) : j ≠ i ∧ a ∈ o j := by
  by_cases e : j = i
  · subst e; rw [oset_same] at h; cases h
  · rw [oset_ne e] at h; exact ⟨e, h⟩
/-- a slot gives its addresses up, its content is whatever slot content without addresses -/
theorem SRo.drop (S : SRo K C o ρ σ H) {i : Nat} {s : Sl} {σ' : St} (hl : σ'.length = σ.length) (hσ : ∀ j, j ≠ i → σ'[j]? = σ[j]?)
    (hs : i < ρ.length → SlR K (FF C.B (oset o i [])) H [] (C.bv i) σ'[i]? s) : SRo K C (oset o i []) (sS ρ i s) σ' H where
  len := by rw [sS_len, hl]; exact S.len
  same := S.same
  nod := fun j => by
    by_cases e : j = i
    · subst e; rw [oset_same]; exact List.nodup_nil
    · rw [oset_ne e]; exact S.nod j
  inj := fun j k a h1 h2 => S.inj j k a (oset_nil_mem h1).2 (oset_nil_mem h2).2
  nB := fun j a h => S.nB j a (oset_nil_mem h).2
  fr := fun j a h => S.fr j a (oset_nil_mem h).2
  tr := fun a z => S.tr a (z.elim .inl fun ⟨j, q⟩ => .inr ⟨j, (oset_nil_mem q).2⟩)
  slot := fun j => by
    by_cases e : j = i
    · subst e
      rw [oset_same]
      by_cases hj : j < ρ.length
      · rw [gS_same hj]; exact hs hj
      · rw [gS_out (by rw [sS_len]; omega)]; exact rfl
    · rw [oset_ne e, gS_ne (Ne.symm e), hσ j e]
      exact (S.slot j).tx (.less fun a z => z.elim .inl fun ⟨k, q⟩ => .inr ⟨k, (oset_nil_mem q).2⟩) fun _ _ => rfl
theorem FF.drop {B : Addr → Prop} {i : Nat} : ∀ a, FF B (oset o i []) a → FF B o a := fun a z => z.elim .inl fun ⟨j, q⟩ => .inr ⟨j, (oset_nil_mem q).2⟩
/-- a name is given data -/
theorem SRo.setV (S : SRo K C o ρ σ H) {i : Nat} {v : V} {d : D} (h : Sh K (FF C.B o) H v d) : SRo K C (oset o i []) (sS ρ i (.val d)) (σ.set i (some v)) H :=
  S.drop (by simp) (fun j e => by rw [List.getElem?_set_ne (Ne.symm e)]) fun hi => ⟨rfl, v, by rw [List.getElem?_set_self (by rw [← S.len]; exact hi)], h.tx (.less FF.drop)⟩
/-- a slot is forgotten -/
theorem SRo.setE (S : SRo K C o ρ σ H) {i : Nat} {ov : Option V} : SRo K C (oset o i []) (sS ρ i .emp) (σ.set i ov) H :=
  S.drop (by simp) (fun j e => by rw [List.getElem?_set_ne (Ne.symm e)]) fun _ => rfl
theorem SRo.setE0 (S : SRo K C o ρ σ H) {i : Nat} : SRo K C (oset o i []) (sS ρ i .emp) σ H :=
  S.drop rfl (fun j e => rfl) fun _ => rfl
/-- a name is given a new list or dict -/
theorem SRo.setO {as : List Addr} {v : V} {c : Cell} (S : SRo K (C.plus as) o ρ σ H) {i : Nat} (hi : i < ρ.length) (nd : as.Nodup) (nB : ∀ a ∈ as, ¬ C.B a) (h0 : ∀ a ∈ as, C.H0 a = none) (h : CR K (FF (C.plus as).B o) H as v c) :
    SRo K C (oset o i as) (sS ρ i (.own c)) (σ.set i (some v)) H := by
  have le : ∀ a, FF C.B (oset o i as) a → FF (C.plus as).B o a := fun a z => by
    rcases z with z | ⟨j, q⟩
    · exact .inl (.inl z)
    · by_cases e : j = i
      · subst e; rw [oset_same] at q; exact .inl (.inr q)
      · rw [oset_ne e] at q; exact .inr ⟨j, q⟩
  have no : ∀ j a, a ∈ o j → a ∉ as := fun j a h z => S.nB j a h (.inr z)
  refine ⟨by rw [sS_len, List.length_set]; exact S.len, S.same, fun j => ?_, fun j k a h1 h2 => ?_, fun j a h1 => ?_, fun j a h1 => ?_, fun a z => S.tr a (le a z), fun j => ?_⟩
  · by_cases e : j = i
    · subst e; rw [oset_same]; exact nd
    · rw [oset_ne e]; exact S.nod j
  · by_cases e : j = i
    · by_cases e' : k = i
      · rw [e, e']
      · subst e; rw [oset_same] at h1; rw [oset_ne e'] at h2; exact absurd h1 (no k a h2)
    · by_cases e' : k = i
      · subst e'; rw [oset_same] at h2; rw [oset_ne e] at h1; exact absurd h2 (no j a h1)
      · rw [oset_ne e] at h1; rw [oset_ne e'] at h2; exact S.inj j k a h1 h2
  · by_cases e : j = i
    · subst e; rw [oset_same] at h1; exact nB a h1
    · rw [oset_ne e] at h1; exact fun z => S.nB j a h1 (.inl z)
  · by_cases e : j = i
    · subst e; rw [oset_same] at h1; exact h0 a h1
    · rw [oset_ne e] at h1; exact S.fr j a h1
  · by_cases e : j = i
    · subst e
      rw [oset_same, gS_same hi]
      exact ⟨v, by rw [List.getElem?_set_self (by rw [← S.len]; exact hi)], h.tx (.less le) fun _ _ => rfl⟩
    · rw [oset_ne e, gS_ne (Ne.symm e), List.getElem?_set_ne (Ne.symm e)]
      exact (S.slot j).tx (.less le) fun _ _ => rfl
/-- an own list or dict is written -/
theorem SRo.wr (S : SRo K C o ρ σ H) {i : Nat} {a : Addr} {ho : HO} {s : Sl} (ho1 : o i = [a]) (hlt : i < ρ.length) (hs : ∀ H', Tx (FF C.B o) H (FF C.B o) H' → H' a = some ho → SlR K (FF C.B o) H' [a] (C.bv i) σ[i]? s) :
    SRo K C o (sS ρ i s) σ (upd H a ho) ∧ Tx (FF C.B o) H (FF C.B o) (upd H a ho) := by
  have ma : a ∈ o i := by rw [ho1]; simp
  have t : Tx (FF C.B o) H (FF C.B o) (upd H a ho) := fun b u n e => ⟨by rw [upd_ne fun z => n (by rw [z]; exact .inr ⟨i, ma⟩)]; exact e, n⟩
  refine ⟨⟨by rw [sS_len]; exact S.len, fun b u e => ?_, S.nod, S.inj, S.nB, S.fr, fun b z => ?_, fun j => ?_⟩, t⟩
  · rw [upd_ne fun z => by rw [z, S.fr i a ma] at e; cases e]
    exact S.same b u e
  · by_cases e : b = a
    · subst e; rw [upd_same]; exact fun q => nomatch q
    · rw [upd_ne e]; exact S.tr b z
  · by_cases e : j = i
    · subst e
      rw [gS_same hlt, ho1]
      exact hs _ t upd_same
    · rw [gS_ne (Ne.symm e)]
      exact (S.slot j).tx t fun b hb => upd_ne fun z => e (S.inj j i a (by rw [← z]; exact hb) ma)
end
end Dn
set_option Elab.async false
set_option linter.all false
set_option maxRecDepth 100000
set_option maxHeartbeats 1000000
/-! Dn2: the judgements, and the rules of expressions -/
namespace Dn
open PySem L2

def bindR {α β : Type} (r : Res α) (k : α → Env → Res β) : Res β := match r with
  | .ok a ρ => k a ρ
  | .exc c ρ => .exc c ρ
  | .bad => .bad
@[simp] theorem bindR_ok {α β : Type} {a : α} {ρ : Env} {k : α → Env → Res β} : bindR (.ok a ρ) k = k a ρ := id rfl
@[simp] theorem bindR_exc {α β : Type} {c : Str} {ρ : Env} {k : α → Env → Res β} : bindR (.exc c ρ) k = .exc c ρ := id rfl
@[simp] theorem bindR_bad {α β : Type} {k : α → Env → Res β} : bindR (.bad : Res α) k = .bad := id rfl
def optR {α : Type} (o : Option α) (ρ : Env) : Res α := match o with
  | some a => .ok a ρ
  | none => .bad
@[simp] theorem optR_some {α : Type} {a : α} {ρ : Env} : optR (some a) ρ = .ok a ρ := id rfl
@[simp] theorem optR_none {α : Type} {ρ : Env} : optR (none : Option α) ρ = .bad := id rfl

/-- what is wanted of an exception of the class called c -/
def XW (X : Cx) (W : WX) (c : Str) (σ : St) (H : Hp) : Prop := ∀ A, X.mg c = some (.ref A) → W (.ref A) none σ H
def PoG {α : Type} (Ok : α → Env → Prop) (Ex : Str → Env → Prop) : Res α → Prop
  | .ok a ρ => Ok a ρ
  | .exc c ρ => Ex c ρ
  | .bad => False
theorem PoG.bind {α β : Type} {Ok : β → Env → Prop} {Ex : Str → Env → Prop} {r : Res α} {k : α → Env → Res β} (h : PoG Ok Ex (bindR r k)) : PoG (fun a ρ => PoG Ok Ex (k a ρ)) Ex r := by
  cases r with
  | ok a ρ => exact h
  | exc c ρ => exact h
  | bad => exact h
theorem PoG.imp {α : Type} {Ok Ok' : α → Env → Prop} {Ex Ex' : Str → Env → Prop} {r : Res α} (h : PoG Ok Ex r) (a : ∀ x ρ, Ok x ρ → Ok' x ρ) (b : ∀ c ρ, Ex c ρ → Ex' c ρ) : PoG Ok' Ex' r := by
  cases r with
  | ok x ρ => exact a x ρ h
  | exc c ρ => exact b c ρ h
  | bad => exact h
section
variable (X : Cx) (C : Ctx) (W : WX) (o : Nat → List Addr) (σ : St) (H : Hp)
/-- behind an exception -/
def ExP (c : Str) (ρ : Env) : Prop := ∀ H' o', SRo X.K C o' ρ σ H' → Tx (FF C.B o) H (FF C.B o') H' → XW X W c σ H'
/-- behind a value that stands to its reading as Rl says -/
def OkP {α β : Type} (Rl : (Addr → Prop) → Hp → β → α → Prop) (Q : β → Hp → Prop) (d : α) (ρ : Env) : Prop :=
  ∀ v H' o', SRo X.K C o' ρ σ H' → Tx (FF C.B o) H (FF C.B o') H' → Rl (FF C.B o') H' v d → Q v H'
def OkE (Q : VK) (r : R) (ρ : Env) : Prop := match r with
  | .val d => OkP X C o σ H (Sh X.K) Q d ρ
  | .fresh c => ∀ v H' o' as, as.Nodup → (∀ a ∈ as, C.H0 a = none) → (∀ a ∈ as, ¬ C.B a) → SRo X.K (C.plus as) o' ρ σ H' → Tx (FF C.B o) H (FF (C.plus as).B o') H' → CR X.K (FF (C.plus as).B o') H' as v c → Q v H'
def tV {α β : Type} (Rl : (Addr → Prop) → Hp → β → α → Prop) (m : Env → Res α) : St → Hp → (β → Hp → Prop) → Prop := fun σ H Q => ∃ ρ o, SRo X.K C o ρ σ H ∧ PoG (OkP X C o σ H Rl Q) (ExP X C W o σ H) (m ρ)
def tE (m : Env → Res R) : TE := fun σ H Q => ∃ ρ o, SRo X.K C o ρ σ H ∧ PoG (OkE X C o σ H Q) (ExP X C W o σ H) (m ρ)
end
def RlB (F : Addr → Prop) (H : Hp) (b c : Bool) : Prop := b = c
def RlO (F : Addr → Prop) (H : Hp) (b c : Option Int) : Prop := b = c
/-- what a value may be read as, at once -/
def Pk (K : PySem.W.Frag) (F : Addr → Prop) (H : Hp) (v : V) (d : D) : Prop := match d with
  | .list ds => ∃ a xs, v = .ref a ∧ SqL K H a xs ∧ ShA K F H xs ds
  | .dict ds => ∃ a kvs, v = .ref a ∧ Rd H a (.dK kvs) ∧ ShK K F H kvs ds
  | d => Sh K F H v d
theorem Sh.pk {K : PySem.W.Frag} {F : Addr → Prop} {H : Hp} {v : V} {d : D} (h : Sh K F H v d) : Pk K F H v d := by
  cases h with
  | non => exact .non
  | bl b => exact .bl b
  | int i => exact .int i
  | str x => exact .str x
  | lst h s => exact ⟨_, _, rfl, h.elim (fun z => .inl z.2) .inr, s⟩
  | tup h s => exact .tup h s
  | dic n r s => exact ⟨_, _, rfl, r, s⟩
theorem CR.pk {K : PySem.W.Frag} {F : Addr → Prop} {H : Hp} {as : List Addr} {v : V} {c : Cell} (h : CR K F H as v c) : Pk K F H v c.toD := by
  cases c with
  | lst xs =>
    obtain ⟨a, vs, rfl, rfl, e, s⟩ := h
    exact ⟨a, vs, rfl, .of e, s⟩
  | dic kvs =>
    obtain ⟨a, vs, rfl, rfl, e, s⟩ := h
    exact ⟨a, vs, rfl, .of e, s.shK⟩
def JE (X : Cx) (C : Ctx) (W : WX) (e : Expr) (m : Env → Res R) : Prop := PE X e (tE X C W m)
/-- a value that may be kept | one that is read at once -/
def JV (X : Cx) (C : Ctx) (W : WX) (e : Expr) (m : Env → Res D) : Prop := PE X e (tV X C W (Sh X.K) m)
def JP (X : Cx) (C : Ctx) (W : WX) (e : Expr) (m : Env → Res D) : Prop := PE X e (tV X C W (Pk X.K) m)
def JA (X : Cx) (C : Ctx) (W : WX) (es : List Expr) (m : Env → Res (List D)) : Prop := PA X es (tV X C W (ShA X.K) m)
def JT (X : Cx) (C : Ctx) (W : WX) (e : Expr) (m : Env → Res Bool) : Prop := PT X e (tV X C W RlB m)
def JW (X : Cx) (C : Ctx) (W : WX) (e : Expr) (m : Env → Res Bool) : Prop := PW X e (tV X C W RlB m)
def JO (X : Cx) (C : Ctx) (W : WX) (e : Option Expr) (m : Env → Res (Option Int)) : Prop := PO X e (tV X C W RlO m)

theorem PE.imp {X : Cx} {e : Expr} {t t' : TE} (h : PE X e t) (i : ∀ σ H Q, t' σ H Q → t σ H Q) : PE X e t' := ⟨fun pins s σ H Q I q => h.run pins s σ H Q I (i σ H Q q)⟩
theorem PT.imp {X : Cx} {e : Expr} {t t' : TT} (h : PT X e t) (i : ∀ σ H Q, t' σ H Q → t σ H Q) : PT X e t' := ⟨fun pins s σ H Q I q => h.run pins s σ H Q I (i σ H Q q)⟩
theorem PW.imp {X : Cx} {e : Expr} {t t' : TT} (h : PW X e t) (i : ∀ σ H Q, t' σ H Q → t σ H Q) : PW X e t' := ⟨fun wh pins s σ H Q I q => h.run wh pins s σ H Q I (i σ H Q q)⟩
theorem PA.imp {X : Cx} {e : List Expr} {t t' : TA} (h : PA X e t) (i : ∀ σ H Q, t' σ H Q → t σ H Q) : PA X e t' := ⟨fun p pins s σ H Q I q => h.run p pins s σ H Q I (i σ H Q q)⟩
theorem PO.imp {X : Cx} {e : Option Expr} {t t' : TO} (h : PO X e t) (i : ∀ σ H Q, t' σ H Q → t σ H Q) : PO X e t' := ⟨fun pins s σ H Q I q => h.run pins s σ H Q I (i σ H Q q)⟩

section
variable {X : Cx} {C : Ctx} {W : WX} {o o1 : Nat → List Addr} {σ : St} {H H1 : Hp}
theorem ExP.shift (t : Tx (FF C.B o) H (FF C.B o1) H1) {c : Str} {ρ : Env} (h : ExP X C W o σ H c ρ) : ExP X C W o1 σ H1 c ρ := fun H' o' S t' => h H' o' S (t.trans t')
theorem OkP.shift {α β : Type} {Rl : (Addr → Prop) → Hp → β → α → Prop} {Q : β → Hp → Prop} (t : Tx (FF C.B o) H (FF C.B o1) H1) {d : α} {ρ : Env} (h : OkP X C o σ H Rl Q d ρ) : OkP X C o1 σ H1 Rl Q d ρ := fun v H' o' S t' => h v H' o' S (t.trans t')
theorem OkE.shift {Q : VK} (t : Tx (FF C.B o) H (FF C.B o1) H1) {r : R} {ρ : Env} (h : OkE X C o σ H Q r ρ) : OkE X C o1 σ H1 Q r ρ := by
  cases r with
  | val d => exact OkP.shift t h
  | fresh c => exact fun v H' o' as a b c S t' => h v H' o' as a b c S (t.trans t')
theorem SRo.fresh {as : List Addr} {v : V} {c : Cell} {ρ : Env} (S : SRo X.K (C.plus as) o1 ρ σ H1) (h : CR X.K (FF (C.plus as).B o1) H1 as v c) (nB : ∀ a ∈ as, ¬ C.B a) : Sh X.K (FF C.B o1) H1 v c.toD :=
  h.sh (.less fun a z => z.elim (fun q => .inl (.inl q)) .inr) fun a ha z => z.elim (nB a ha) fun ⟨i, q⟩ => S.nB i a q (.inr ha)
theorem Tx.dropB {as : List Addr} {F : Addr → Prop} {H0 : Hp} (t : Tx F H0 (FF (C.plus as).B o1) H1) : Tx F H0 (FF C.B o1) H1 := t.trans (.less fun a z => z.elim (fun q => .inl (.inl q)) .inr)
/-- data is taken where anything is served -/
theorem OkE.of_val {Q : VK} {r : R} {ρ : Env} (h : OkP X C o σ H (Sh X.K) Q r.toD ρ) : OkE X C o σ H Q r ρ := by
  cases r with
  | val d => exact h
  | fresh c => exact fun v H' o' as nd h0 nB S t q => h v H' o' S.less t.dropB (S.fresh q nB)
theorem OkE.of_pk {Q : VK} {r : R} {ρ : Env} (h : OkP X C o σ H (Pk X.K) Q r.toD ρ) : OkE X C o σ H Q r ρ := OkE.of_val fun v H' o' S t s => h v H' o' S t s.pk

def toV (m : Env → Res R) : Env → Res D := fun ρ => bindR (m ρ) fun r ρ1 => .ok r.toD ρ1
theorem JE.v {e : Expr} {m : Env → Res R} (h : JE X C W e m) : JV X C W e (toV m) := PE.imp h fun σ H Q ⟨ρ, o, S, q⟩ => ⟨ρ, o, S, (PoG.bind q).imp (fun r ρ1 z => OkE.of_val z) fun _ _ z => z⟩
theorem JE.p {e : Expr} {m : Env → Res R} (h : JE X C W e m) : JP X C W e (toV m) := PE.imp h fun σ H Q ⟨ρ, o, S, q⟩ => ⟨ρ, o, S, (PoG.bind q).imp (fun r ρ1 z => OkE.of_pk z) fun _ _ z => z⟩

/-- THE STEP: a value, then what follows with it -/
theorem step {α β : Type} {Rl : (Addr → Prop) → Hp → β → α → Prop} {γ : Type} {Ok : Hp → (Nat → List Addr) → γ → Env → Prop} {m : Env → Res α} {k : α → Env → Res γ} {ρ : Env} (S : SRo X.K C o ρ σ H)
    (sh : ∀ H1 o1 g ρ1, Tx (FF C.B o) H (FF C.B o1) H1 → Ok H o g ρ1 → Ok H1 o1 g ρ1)
    (h : PoG (Ok H o) (ExP X C W o σ H) (bindR (m ρ) k)) :
    tV X C W Rl m σ H (fun v H1 => ∃ ρ1 o1 d, SRo X.K C o1 ρ1 σ H1 ∧ Tx (FF C.B o) H (FF C.B o1) H1 ∧ Rl (FF C.B o1) H1 v d ∧ PoG (Ok H1 o1) (ExP X C W o1 σ H1) (k d ρ1)) :=
  ⟨ρ, o, S, (PoG.bind h).imp (fun a ρ1 z v H1 o1 S1 t r => ⟨ρ1, o1, a, S1, t, r, z.imp (fun g r => sh _ _ g r t) fun _ _ => ExP.shift t⟩) fun _ _ z => z⟩
theorem stepE {α β : Type} {Rl : (Addr → Prop) → Hp → β → α → Prop} {Q : VK} {m : Env → Res α} {k : α → Env → Res R} {ρ : Env} (S : SRo X.K C o ρ σ H) (h : PoG (OkE X C o σ H Q) (ExP X C W o σ H) (bindR (m ρ) k)) :
    tV X C W Rl m σ H (fun v H1 => ∃ ρ1 o1 d, SRo X.K C o1 ρ1 σ H1 ∧ Tx (FF C.B o) H (FF C.B o1) H1 ∧ Rl (FF C.B o1) H1 v d ∧ PoG (OkE X C o1 σ H1 Q) (ExP X C W o1 σ H1) (k d ρ1)) :=
  step (Ok := fun H o => OkE X C o σ H Q) S (fun _ _ _ _ t z => OkE.shift t z) h
theorem stepV {α β α' β' : Type} {Rl : (Addr → Prop) → Hp → β → α → Prop} {Rl' : (Addr → Prop) → Hp → β' → α' → Prop} {Q : β' → Hp → Prop} {m : Env → Res α} {k : α → Env → Res α'} {ρ : Env} (S : SRo X.K C o ρ σ H) (h : PoG (OkP X C o σ H Rl' Q) (ExP X C W o σ H) (bindR (m ρ) k)) :
    tV X C W Rl m σ H (fun v H1 => ∃ ρ1 o1 d, SRo X.K C o1 ρ1 σ H1 ∧ Tx (FF C.B o) H (FF C.B o1) H1 ∧ Rl (FF C.B o1) H1 v d ∧ PoG (OkP X C o1 σ H1 Rl' Q) (ExP X C W o1 σ H1) (k d ρ1)) :=
  step (Ok := fun H o => OkP X C o σ H Rl' Q) S (fun _ _ _ _ t z => OkP.shift t z) h

/-! ### what a primitive gives: the heap may grow -/
def NewOk (K : PySem.W.Frag) (F : Addr → Prop) (H : Hp) (Q : VK) : R → Prop
  | .val d => ∀ v H', Same H H' → Sh K F H' v d → Q v H'
  | .fresh c => ∀ v H' as, Same H H' → as.Nodup → (∀ a ∈ as, H a = none) → (∀ a ∈ as, H' a ≠ none) → CR K (fun a => F a ∨ a ∈ as) H' as v c → Q v H'
theorem FF.plus {as : List Addr} {o : Nat → List Addr} {C : Ctx} : ∀ a, FF (C.plus as).B o a ↔ FF C.B o a ∨ a ∈ as := fun a => by
  constructor
  · rintro ((z | z) | z)
    · exact .inl (.inl z)
    · exact .inr z
    · exact .inl (.inr z)
  · rintro ((z | z) | z)
    · exact .inl (.inl z)
    · exact .inr z
    · exact .inl (.inr z)
theorem newOk {ρ : Env} {r : R} {Q : VK} (S : SRo X.K C o ρ σ H) (h : OkE X C o σ H Q r ρ) : NewOk X.K (FF C.B o) H Q r := by
  cases r with
  | val d => exact fun v H' s sh => h v H' o (S.keep s) (.same s) sh
  | fresh c =>
    intro v H' as s nd h0 h1 cr
    have na : ∀ a ∈ as, ¬ FF C.B o a := fun a ha z => S.tr a z (h0 a ha)
    have n0 : ∀ a ∈ as, C.H0 a = none := fun a ha => S.same.free (h0 a ha)
    have t : Tx (FF C.B o) H (FF (C.plus as).B o) H' := .both s fun a z => ((FF.plus a).mp z).elim .inl fun q => .inr (h0 a q)
    refine h v H' o as nd n0 (fun a ha z => na a ha (.inl z)) ⟨S.len, S.same.trans s, S.nod, S.inj, fun i a ha z => z.elim (S.nB i a ha) fun q => na a q (.inr ⟨i, ha⟩), S.fr, fun a z => ?_, fun i => ?_⟩ t ?_
    · rcases (FF.plus a).mp z with z | z
      · rw [same_at s (S.tr a z)]; exact S.tr a z
      · exact h1 a z
    · exact (S.slot i).tx t fun a ha => same_at s (S.tr a (.inr ⟨i, ha⟩))
    · exact cr.tx (.less fun a z => (FF.plus a).mp z) fun _ _ => rfl

/-- binary, unary operations, calls on data -/
def rD2 (K : PySem.W.Frag) (f : D → D → Option R) : R2 := fun x y H Q => ∃ F d e r, (∀ a, F a → H a ≠ none) ∧ Sh K F H x d ∧ Sh K F H y e ∧ f d e = some r ∧ NewOk K F H Q r
def rD1 (K : PySem.W.Frag) (f : D → Option R) : V → Hp → VK → Prop := fun x H Q => ∃ F d r, (∀ a, F a → H a ≠ none) ∧ Sh K F H x d ∧ f d = some r ∧ NewOk K F H Q r
def rP1 (K : PySem.W.Frag) (f : D → Option R) : List V → Hp → VK → Prop := fun xs H Q => ∃ x F d r, xs = [x] ∧ (∀ a, F a → H a ≠ none) ∧ Pk K F H x d ∧ f d = some r ∧ NewOk K F H Q r
def rDn (K : PySem.W.Frag) (f : List D → Option R) : List V → Hp → VK → Prop := fun xs H Q => ∃ F ds r, (∀ a, F a → H a ≠ none) ∧ ShA K F H xs ds ∧ f ds = some r ∧ NewOk K F H Q r
def rDm (K : PySem.W.Frag) (f : D → List D → Option R) : V → List V → Hp → VK → Prop := fun x xs H Q => ∃ F d ds r, (∀ a, F a → H a ≠ none) ∧ Pk K F H x d ∧ ShA K F H xs ds ∧ f d ds = some r ∧ NewOk K F H Q r

def eOp2 (f : D → D → Option R) (a b : Env → Res D) : Env → Res R := fun ρ => bindR (a ρ) fun x ρ1 => bindR (b ρ1) fun y ρ2 => optR (f x y) ρ2
def eOp1 (f : D → Option R) (a : Env → Res D) : Env → Res R := fun ρ => bindR (a ρ) fun x ρ1 => optR (f x) ρ1
def eOpN (f : List D → Option R) (a : Env → Res (List D)) : Env → Res R := fun ρ => bindR (a ρ) fun x ρ1 => optR (f x) ρ1
theorem optE {ρ : Env} {r : Option R} {Q : VK} (h : PoG (OkE X C o σ H Q) (ExP X C W o σ H) (optR r ρ)) : ∃ z, r = some z ∧ OkE X C o σ H Q z ρ := by
  cases r with
  | none => exact h.elim
  | some z => exact ⟨z, rfl, h⟩
variable {a b e : Expr} {ma mb : Env → Res D} {pos : Pos} {f : D → D → Option R}
theorem op2_imp (ρ : Env) {Q : VK} (S : SRo X.K C o ρ σ H) (h : PoG (OkE X C o σ H Q) (ExP X C W o σ H) (eOp2 f ma mb ρ)) :
    tOp (rD2 X.K f) (tV X C W (Sh X.K) ma) (tV X C W (Sh X.K) mb) σ H Q := by
  obtain ⟨ρ0, o0, S0, h0⟩ := stepE (Rl := Sh X.K) S h
  refine ⟨ρ0, o0, S0, h0.imp (fun d ρ1 z v H1 o1 S1 t1 s1 => ?_) fun _ _ z => z⟩
  obtain ⟨ρ1', o1', d', S1', T1, s1', q1⟩ := z v H1 o1 S1 t1 s1
  obtain ⟨ρ2, o2, S2, h2⟩ := stepE (Rl := Sh X.K) S1' q1
  refine ⟨ρ2, o2, S2, h2.imp (fun d2 ρ3 z2 v2 H2 o3 S3 t3 s3 => ?_) fun _ _ z => z⟩
  obtain ⟨ρ4, o4, d4, S4, T4, s4, q4⟩ := z2 v2 H2 o3 S3 t3 s3
  obtain ⟨r, er, q⟩ := optE q4
  exact ⟨FF C.B o4, d', d4, r, S4.tr, s1'.tx T4, s4, er, newOk S4 q⟩
theorem je_op {op : Operator} (ho : OpR X (binaryOp op) (rD2 X.K f)) (ha : JV X C W a ma) (hb : JV X C W b mb) : JE X C W (.BinOp a op b pos) (eOp2 f ma mb) :=
  PE.imp (pe_op ho ha hb) fun σ H Q ⟨ρ, o, S, h⟩ => op2_imp ρ S h
theorem je_cmp {op : CmpOp} (ho : OpR X (compareOp op) (rD2 X.K f)) (ha : JV X C W a ma) (hb : JV X C W b mb) (hm : behindInMarks op b = false) : JE X C W (.Compare a [op] [b] pos) (eOp2 f ma mb) :=
  PE.imp (pe_cmpR ho ha hb hm) fun σ H Q ⟨ρ, o, S, h⟩ => op2_imp ρ S h
theorem je_un {op : UnaryOp} {f : D → Option R} (ho : UnR X (unaryOp op) (rD1 X.K f)) (ha : JV X C W a ma) : JE X C W (.UnaryOp op a pos) (eOp1 f ma) :=
  PE.imp (pe_un ho ha) fun σ H Q ⟨ρ, o, S, h⟩ => by
    obtain ⟨ρ0, o0, S0, h0⟩ := stepE (Rl := Sh X.K) S h
    refine ⟨ρ0, o0, S0, h0.imp (fun d ρ1 z v H1 o1 S1 t1 s1 => ?_) fun _ _ z => z⟩
    obtain ⟨ρ1', o1', d', S1', T1, s1', q1⟩ := z v H1 o1 S1 t1 s1
    obtain ⟨r, er, q⟩ := optE q1
    exact ⟨FF C.B o1', d', r, S1'.tr, s1', er, newOk S1' q⟩
/-- a subscript -/
theorem je_ix (ho : IxR X (rD2 X.K f)) (ha : JV X C W a ma) (hb : JV X C W b mb) (hs : PlainIx b) : JE X C W (.Subscript a b pos) (eOp2 f ma mb) :=
  PE.imp (pe_ix ho ha hb hs) fun σ H Q ⟨ρ, o, S, h⟩ => op2_imp ρ S h

/-! ### names, constants -/
def eVar (i : Nat) : Env → Res R := fun ρ => match gS ρ i with
  | .val d => .ok (.val d) ρ
  | .own c => .ok (.val c.toD) (sS ρ i (.val c.toD))
  | _ => .bad
/-- a name that is read at once -/
def ePk (i : Nat) : Env → Res D := fun ρ => match gS ρ i with
  | .val d => .ok d ρ
  | .own c => .ok c.toD ρ
  | .bor c => .ok c.toD ρ
  | .emp => .bad
def eC (d : D) : Env → Res R := fun ρ => .ok (.val d) ρ
theorem SRo.get {ρ : Env} (S : SRo X.K C o ρ σ H) (i : Nat) : SlR X.K (FF C.B o) H (o i) (C.bv i) σ[i]? (gS ρ i) := S.slot i
theorem je_var {i : Nat} (h : PE X e (tVar i)) : JE X C W e (eVar i) := PE.imp h fun σ H Q ⟨ρ, o, S, q⟩ => by
  have z := S.get i
  unfold eVar at q
  cases g : gS ρ i with
  | emp => rw [g] at q; exact q.elim
  | val d =>
    rw [g] at q z
    obtain ⟨_, v, ev, s⟩ := z
    exact ⟨v, ev, q v H o S (.refl _ _) s⟩
  | own c =>
    rw [g] at q z
    obtain ⟨v, ev, s⟩ := z
    have sh : Sh X.K (FF C.B (oset o i [])) H v c.toD := s.sh (.less FF.drop) fun a ha z => z.elim (S.nB i a ha) fun ⟨j, q⟩ => (oset_nil_mem q).1 (S.inj _ _ _ (oset_nil_mem q).2 ha)
    exact ⟨v, ev, q v H (oset o i []) (S.drop rfl (fun _ _ => rfl) fun _ => ⟨rfl, v, ev, sh⟩) (.less FF.drop) sh⟩
  | bor c => rw [g] at q; exact q.elim
theorem jp_var {i : Nat} (h : PE X e (tVar i)) : JP X C W e (ePk i) := PE.imp h fun σ H Q ⟨ρ, o, S, q⟩ => by
  have z := S.get i
  unfold ePk at q
  cases g : gS ρ i with
  | emp => rw [g] at q; exact q.elim
  | val d =>
    rw [g] at q z
    obtain ⟨_, v, ev, s⟩ := z
    exact ⟨v, ev, q v H o S (.refl _ _) s.pk⟩
  | own c =>
    rw [g] at q z
    obtain ⟨v, ev, s⟩ := z
    exact ⟨v, ev, q v H o S (.refl _ _) s.pk⟩
  | bor c =>
    rw [g] at q z
    exact ⟨_, z.1, q _ H o S (.refl _ _) z.2.pk⟩
theorem je_c {v : V} {d : D} (h : PE X e (tC v)) (hd : ∀ F H, Sh X.K F H v d) : JE X C W e (eC d) := PE.imp h fun σ H Q ⟨ρ, o, S, q⟩ => q v H o S (.refl _ _) (hd _ _)
theorem je_int {i j} : JE X C W (.Constant (.int i) j pos) (eC (.int i)) := je_c pe_int fun _ _ => .int i
theorem je_bl {b j} : JE X C W (.Constant (.bool b) j pos) (eC (.bool b)) := je_c pe_bl fun _ _ => .bl b
theorem je_non {j} : JE X C W (.Constant .none j pos) (eC .none) := je_c pe_non fun _ _ => .non
theorem je_str {x j} : JE X C W (.Constant (.str x) j pos) (eC (.str x)) := je_c pe_str fun _ _ => .str x
/-- a module's constant -/
theorem je_gint {x : Str} {i : Int} {t : Tok} (hm : X.mg x = some (.int i t)) (hg : Gl X x) (hd : (x == ("__debug__" : Str)) = false := by decide) : JE X C W (.Name x pos) (eC (.int i)) := je_c (pe_glob (v := .int i) hg hm ⟨t, rfl⟩ hd) fun _ _ => .int i
theorem je_gstr {x z : Str} {t : Tok} (hm : X.mg x = some (.str z t)) (hg : Gl X x) (hd : (x == ("__debug__" : Str)) = false := by decide) : JE X C W (.Name x pos) (eC (.str z)) := je_c (pe_glob (v := .str z) hg hm ⟨t, rfl⟩ hd) fun _ _ => .str z

/-! ### arguments, displays -/
def aNil : Env → Res (List D) := fun ρ => .ok [] ρ
def aCons (m : Env → Res D) (r : Env → Res (List D)) : Env → Res (List D) := fun ρ => bindR (m ρ) fun x ρ1 => bindR (r ρ1) fun xs ρ2 => .ok (x :: xs) ρ2
theorem ja_nil : JA X C W [] aNil := PA.imp pa_nil fun σ H Q ⟨ρ, o, S, q⟩ => q [] H o S (.refl _ _) .nil
theorem ja_cons {es : List Expr} {mr : Env → Res (List D)} (ha : JV X C W e ma) (hr : JA X C W es mr) (hs : starEach (e :: es) X.env = (false, eval e X.env) :: starEach es X.env := by rfl) : JA X C W (e :: es) (aCons ma mr) :=
  PA.imp (pa_cons ha hr hs) fun σ H Q ⟨ρ, o, S, h⟩ => by
    obtain ⟨ρ0, o0, S0, h0⟩ := stepV (Rl := Sh X.K) S h
    refine ⟨ρ0, o0, S0, h0.imp (fun d ρ1 z v H1 o1 S1 t1 s1 => ?_) fun _ _ z => z⟩
    obtain ⟨ρ1', o1', d', S1', T1, s1', q1⟩ := z v H1 o1 S1 t1 s1
    obtain ⟨ρ2, o2, S2, h2⟩ := stepV (Rl := ShA X.K) S1' q1
    refine ⟨ρ2, o2, S2, h2.imp (fun d2 ρ3 z2 v2 H2 o3 S3 t3 s3 => ?_) fun _ _ z => z⟩
    obtain ⟨ρ4, o4, d4, S4, T4, s4, q4⟩ := z2 v2 H2 o3 S3 t3 s3
    exact q4 (v :: v2) H2 o4 S4 (.refl _ _) (.cons (s1'.tx T4) s4)
/-- 16,777,216 -/
theorem line_of {n : Nat} (h : n ≤ 16777216) : n ≤ sizeLine := by rw [sizeLine_eq]; exact h
theorem line_lt {n : Nat} (h : n < 16777216) : n < sizeLine := by rw [sizeLine_eq]; exact h
theorem same_new {H : Hp} {p : Addr} {o : HO} (h : H p = none) : Same H (upd H p o) := fun b x e => by
  rw [upd_ne (ne_of_none e h)]
  exact e
/-- a new tuple, a new list, for NewOk -/
theorem new_tup {K : PySem.W.Frag} {F : Addr → Prop} {H : Hp} {Q : VK} {vs : List V} {ds : List D} (tr : ∀ a, F a → H a ≠ none) (s : ShA K F H vs ds) (q : NewOk K F H Q (.val (.tuple ds))) : ∀ p, H p = none → Q (.ref p) (upd H p (.tup vs)) := fun p hp =>
  q _ _ (same_new hp) (.tup (.inl ⟨fun z => tr p z hp, .inl upd_same⟩) (s.tx (.same (same_new hp))))
theorem new_lst {K : PySem.W.Frag} {F : Addr → Prop} {H : Hp} {Q : VK} {vs : List V} {ds : List D} (tr : ∀ a, F a → H a ≠ none) (s : ShA K F H vs ds) (q : NewOk K F H Q (.fresh (.lst ds))) : ∀ p, H p = none → Q (.ref p) (upd H p (.lst vs)) := fun p hp =>
  q _ _ [p] (same_new hp) (by simp) (fun a ha => by simp at ha; rw [ha]; exact hp) (fun a ha => by simp at ha; rw [ha, upd_same]; exact fun z => nomatch z)
    ⟨p, vs, rfl, rfl, upd_same, s.tx (.both (same_new hp) fun a z => z.elim .inl fun q => by simp at q; rw [q]; exact .inr hp)⟩
def fTup (ds : List D) : Option R := if ds.length ≤ 16777216 then some (.val (.tuple ds)) else none
def fLst (ds : List D) : Option R := if ds.length ≤ 16777216 then some (.fresh (.lst ds)) else none
theorem je_tup {es : List Expr} {m : Env → Res (List D)} {x1} (h : JA X C W es m) : JE X C W (.Tuple es x1 pos) (eOpN fTup m) := PE.imp (pe_tup h) fun σ H Q ⟨ρ, o, S, h⟩ => by
  obtain ⟨ρ0, o0, S0, h0⟩ := stepE (Rl := ShA X.K) S h
  refine ⟨ρ0, o0, S0, h0.imp (fun d ρ1 z v H1 o1 S1 t1 s1 => ?_) fun _ _ z => z⟩
  obtain ⟨ρ1', o1', d', S1', T1, s1', q1⟩ := z v H1 o1 S1 t1 s1
  obtain ⟨r, er, q⟩ := optE q1
  unfold fTup at er
  split at er
  · cases er
    exact ⟨by rw [s1'.length]; exact line_of (by assumption), new_tup S1'.tr s1' (newOk S1' q)⟩
  · cases er
theorem je_lst {es : List Expr} {m : Env → Res (List D)} (h : JA X C W es m) : JE X C W (.List es pos) (eOpN fLst m) := PE.imp (pe_lst h) fun σ H Q ⟨ρ, o, S, h⟩ => by
  obtain ⟨ρ0, o0, S0, h0⟩ := stepE (Rl := ShA X.K) S h
  refine ⟨ρ0, o0, S0, h0.imp (fun d ρ1 z v H1 o1 S1 t1 s1 => ?_) fun _ _ z => z⟩
  obtain ⟨ρ1', o1', d', S1', T1, s1', q1⟩ := z v H1 o1 S1 t1 s1
  obtain ⟨r, er, q⟩ := optE q1
  unfold fLst at er
  split at er
  · cases er
    exact ⟨by rw [s1'.length]; exact line_of (by assumption), new_lst S1'.tr s1' (newOk S1' q)⟩
  · cases er

/-! ### built-ins by name -/
theorem jeB_imp {fn : List D → Option R} {m : Env → Res (List D)} {ρ : Env} {Q : VK} (S : SRo X.K C o ρ σ H) (h : PoG (OkE X C o σ H Q) (ExP X C W o σ H) (eOpN fn m ρ)) : tCB (rDn X.K fn) (tV X C W (ShA X.K) m) σ H Q := by
  obtain ⟨ρ0, o0, S0, h0⟩ := stepE (Rl := ShA X.K) S h
  refine ⟨ρ0, o0, S0, h0.imp (fun d ρ1 z v H1 o1 S1 t1 s1 => ?_) fun _ _ z => z⟩
  obtain ⟨ρ1', o1', d', S1', T1, s1', q1⟩ := z v H1 o1 S1 t1 s1
  obtain ⟨r, er, q⟩ := optE q1
  exact ⟨FF C.B o1', d', r, S1'.tr, s1', er, newOk S1' q⟩
theorem jeP_imp {fn : D → Option R} {m : Env → Res D} {ρ : Env} {Q : VK} (S : SRo X.K C o ρ σ H) (h : PoG (OkE X C o σ H Q) (ExP X C W o σ H) (eOp1 fn m ρ)) : tCB (rP1 X.K fn) (tCons (tV X C W (Pk X.K) m) tNil) σ H Q := by
  obtain ⟨ρ0, o0, S0, h0⟩ := stepE (Rl := Pk X.K) S h
  refine ⟨ρ0, o0, S0, h0.imp (fun d ρ1 z v H1 o1 S1 t1 s1 => ?_) fun _ _ z => z⟩
  obtain ⟨ρ1', o1', d', S1', T1, s1', q1⟩ := z v H1 o1 S1 t1 s1
  obtain ⟨r, er, q⟩ := optE q1
  exact ⟨v, FF C.B o1', d', r, rfl, S1'.tr, s1', er, newOk S1' q⟩
variable {x : Str} {id T : String} {es : List Expr} {m : Env → Res (List D)} {p : Pos}
/-- name(e) of a built-in that reads its one argument at once -/
theorem je_b1 {f : D → Option R} (hc : CallR X (.builtin id) (rP1 X.K f)) (hm : X.mg x = none) (hv : bootBuiltins x = some (.builtin id)) (ha : JP X C W e ma) (hg : Gl X x)
    (hn : x ≠ "__name__" := by decide) (hdb : (x == ("__debug__" : Str)) = false := by decide) (hs : starEach [e] X.env = (false, eval e X.env) :: starEach [] X.env := by rfl) (he : starEach (e :: []) X.env = (false, eval e X.env) :: starEach [] X.env := by rfl) (hpl : (backTo pos (starEach [] X.env)).any (·.1) = false := by rfl) :
    JE X C W (.Call (.Name x p) [e] [] pos) (eOp1 f ma) := PE.imp (pe_callB hc hg hm hv (pa_cons ha pa_nil hs) hn hdb he hpl) fun σ H Q ⟨ρ, o, S, h⟩ => jeP_imp S h
theorem je_t1 {f : D → Option R} (hc : CallR X (.type T) (rP1 X.K f)) (hm : X.mg x = none) (hv : bootBuiltins x = some (.type T)) (ha : JP X C W e ma) (hg : Gl X x)
    (hn : x ≠ "__name__" := by decide) (hdb : (x == ("__debug__" : Str)) = false := by decide) (hs : starEach [e] X.env = (false, eval e X.env) :: starEach [] X.env := by rfl) (he : starEach (e :: []) X.env = (false, eval e X.env) :: starEach [] X.env := by rfl) (hpl : (backTo pos (starEach [] X.env)).any (·.1) = false := by rfl) :
    JE X C W (.Call (.Name x p) [e] [] pos) (eOp1 f ma) := PE.imp (pe_callTy hc hg hm hv (pa_cons ha pa_nil hs) hn hdb he hpl) fun σ H Q ⟨ρ, o, S, h⟩ => jeP_imp S h
/-- name(e, ..) of a built-in -/
theorem je_bn {f : List D → Option R} (hc : CallR X (.builtin id) (rDn X.K f)) (hm : X.mg x = none) (hv : bootBuiltins x = some (.builtin id)) (ha : JA X C W (e :: es) m) (hg : Gl X x)
    (hn : x ≠ "__name__" := by decide) (hdb : (x == ("__debug__" : Str)) = false := by decide) (he : starEach (e :: es) X.env = (false, eval e X.env) :: starEach es X.env := by rfl) (hpl : (backTo pos (starEach es X.env)).any (·.1) = false := by rfl) :
    JE X C W (.Call (.Name x p) (e :: es) [] pos) (eOpN f m) := PE.imp (pe_callB hc hg hm hv ha hn hdb he hpl) fun σ H Q ⟨ρ, o, S, h⟩ => jeB_imp S h
/-- .. of a module's (from math import gcd) -/
theorem je_bf {f : List D → Option R} (hc : CallR X (.builtin id) (rDn X.K f)) (hm : X.mg x = some (.builtin id)) (ha : JA X C W (e :: es) m) (hg : Gl X x) (hdb : (x == ("__debug__" : Str)) = false := by decide) (he : starEach (e :: es) X.env = (false, eval e X.env) :: starEach es X.env := by rfl) (hpl : (backTo pos (starEach es X.env)).any (·.1) = false := by rfl) :
    JE X C W (.Call (.Name x p) (e :: es) [] pos) (eOpN f m) := PE.imp (L2.pe_callBfun hc hg hm ha hdb he hpl) fun σ H Q ⟨ρ, o, S, h⟩ => jeB_imp S h

/-! ### and, or, not; tests -/
def eBl (b : Bool) : R := .val (.bool b)
def asB : R → Option Bool
  | .val (.bool b) => some b
  | _ => none
def tBoolD (m : Env → Res R) : Env → Res Bool := fun ρ => bindR (m ρ) fun r ρ1 => optR (asB r) ρ1
def tAndD (a b : Env → Res Bool) : Env → Res Bool := fun ρ => bindR (a ρ) fun c ρ1 => match c with | true => b ρ1 | false => .ok false ρ1
def tOrD (a b : Env → Res Bool) : Env → Res Bool := fun ρ => bindR (a ρ) fun c ρ1 => match c with | true => .ok true ρ1 | false => b ρ1
def tNotD (a : Env → Res Bool) : Env → Res Bool := fun ρ => bindR (a ρ) fun c ρ1 => .ok (!c) ρ1
def eAndD (a b : Env → Res R) : Env → Res R := fun ρ => bindR (a ρ) fun r ρ1 => match r with | .val (.bool true) => b ρ1 | .val (.bool false) => .ok (eBl false) ρ1 | _ => .bad
def eOrD (a b : Env → Res R) : Env → Res R := fun ρ => bindR (a ρ) fun r ρ1 => match r with | .val (.bool true) => .ok (eBl true) ρ1 | .val (.bool false) => b ρ1 | _ => .bad
def eNotD (a : Env → Res R) : Env → Res R := fun ρ => bindR (a ρ) fun r ρ1 => match r with | .val (.bool b) => .ok (eBl (!b)) ρ1 | _ => .bad
def eIfD (t : Env → Res Bool) (a b : Env → Res R) : Env → Res R := fun ρ => bindR (t ρ) fun c ρ1 => match c with | true => a ρ1 | false => b ρ1
theorem stepB {γ : Type} {Ok : Hp → (Nat → List Addr) → γ → Env → Prop} {m : Env → Res Bool} {k : Bool → Env → Res γ} {ρ : Env} (S : SRo X.K C o ρ σ H)
    (sh : ∀ H1 o1 g ρ1, Tx (FF C.B o) H (FF C.B o1) H1 → Ok H o g ρ1 → Ok H1 o1 g ρ1) (h : PoG (Ok H o) (ExP X C W o σ H) (bindR (m ρ) k)) :
    tV X C W RlB m σ H (fun b H1 => ∃ ρ1 o1, SRo X.K C o1 ρ1 σ H1 ∧ Tx (FF C.B o) H (FF C.B o1) H1 ∧ PoG (Ok H1 o1) (ExP X C W o1 σ H1) (k b ρ1)) := by
  obtain ⟨ρ0, o0, S0, h0⟩ := step (Rl := RlB) S sh h
  refine ⟨ρ0, o0, S0, h0.imp (fun d ρ1 z v H1 o1 S1 t1 s1 => ?_) fun _ _ z => z⟩
  obtain ⟨ρ1', o1', d', S1', T1, s1', q1⟩ := z v H1 o1 S1 t1 s1
  have e : v = d' := s1'
  subst e
  exact ⟨ρ1', o1', S1', T1, q1⟩
/-- a value first, its R at hand -/
theorem stepR {γ : Type} {Ok : Hp → (Nat → List Addr) → γ → Env → Prop} {m : Env → Res R} {k : R → Env → Res γ} {ρ : Env} (S : SRo X.K C o ρ σ H)
    (sh : ∀ H1 o1 g ρ1, Tx (FF C.B o) H (FF C.B o1) H1 → Ok H o g ρ1 → Ok H1 o1 g ρ1) (h : PoG (Ok H o) (ExP X C W o σ H) (bindR (m ρ) k)) :
    tE X C W m σ H (fun v H1 => ∃ ρ1 o1 r, SRo X.K C o1 ρ1 σ H1 ∧ Tx (FF C.B o) H (FF C.B o1) H1 ∧ Sh X.K (FF C.B o1) H1 v r.toD ∧ PoG (Ok H1 o1) (ExP X C W o1 σ H1) (k r ρ1)) :=
  ⟨ρ, o, S, (PoG.bind h).imp (fun r ρ1 z => OkE.of_val fun v H1 o1 S1 t s => ⟨ρ1, o1, r, S1, t, s, z.imp (fun g r => sh _ _ g r t) fun _ _ => ExP.shift t⟩) fun _ _ z => z⟩
theorem Sh.ofBool {K : PySem.W.Frag} {F : Addr → Prop} {H : Hp} {v : V} {b : Bool} (h : Sh K F H v (.bool b)) : v = .bl b := by cases h; rfl
theorem Sh.ofInt {K : PySem.W.Frag} {F : Addr → Prop} {H : Hp} {v : V} {b : Int} (h : Sh K F H v (.int b)) : v = .int b := by cases h; rfl
theorem Sh.ofStr {K : PySem.W.Frag} {F : Addr → Prop} {H : Hp} {v : V} {b : Str} (h : Sh K F H v (.str b)) : v = .str b := by cases h; rfl
theorem Sh.ofNone {K : PySem.W.Frag} {F : Addr → Prop} {H : Hp} {v : V} (h : Sh K F H v .none) : v = .non := by cases h; rfl
variable {na nb : Env → Res R} {ta tb tc : Env → Res Bool}
theorem asB_eq {r : R} {b : Bool} (h : asB r = some b) : r = .val (.bool b) := by
  cases r with
  | val d => cases d <;> simp [asB] at h; subst h; rfl
  | fresh c => simp [asB] at h
/-- an expression that is a bool, as a test -/
theorem tB_imp {ρ : Env} {Q : Bool → Hp → Prop} (S : SRo X.K C o ρ σ H) (h : PoG (OkP X C o σ H RlB Q) (ExP X C W o σ H) (tBoolD na ρ)) : tE X C W na σ H fun v H1 => ∃ c, v = .bl c ∧ Q c H1 := by
  obtain ⟨ρ0, o0, S0, h0⟩ := stepR (Ok := fun H o => OkP X C o σ H RlB Q) S (fun _ _ _ _ t z => OkP.shift t z) h
  refine ⟨ρ0, o0, S0, h0.imp (fun r ρ1 z => ?_) fun _ _ z => z⟩
  have z' : OkE X C o0 σ H (fun v H1 => ∃ ρ1 o1 r, SRo X.K C o1 ρ1 σ H1 ∧ Tx (FF C.B o) H (FF C.B o1) H1 ∧ Sh X.K (FF C.B o1) H1 v r.toD ∧ PoG (OkP X C o1 σ H1 RlB Q) (ExP X C W o1 σ H1) (optR (asB r) ρ1)) r ρ1 := z
  have fin : ∀ v H1, (∃ ρ1 o1 r, SRo X.K C o1 ρ1 σ H1 ∧ Tx (FF C.B o) H (FF C.B o1) H1 ∧ Sh X.K (FF C.B o1) H1 v r.toD ∧ PoG (OkP X C o1 σ H1 RlB Q) (ExP X C W o1 σ H1) (optR (asB r) ρ1)) → ∃ c, v = .bl c ∧ Q c H1 := by
    rintro v H1 ⟨ρ1, o1, r, S1, T1, s, q⟩
    cases e : asB r with
    | none => rw [e] at q; exact q.elim
    | some b =>
      rw [e] at q
      have er := asB_eq e
      subst er
      exact ⟨b, s.ofBool, q b H1 o1 S1 (.refl _ _) rfl⟩
  cases r with
  | val d => exact fun v H1 o1 S1 t s => fin v H1 (z' v H1 o1 S1 t s)
  | fresh c => exact fun v H1 o1 as a1 a2 a3 S1 t s => fin v H1 (z' v H1 o1 as a1 a2 a3 S1 t s)
theorem jt_val (h : JE X C W e na) (he : ∀ whole, isTrue e X.env whole = (do let v ← whole; standAt e.pos; holding [v] (truthy v)) := by intro _; rfl) : JT X C W e (tBoolD na) :=
  PT.imp (pt_val h he) fun σ H Q ⟨ρ, o, S, h⟩ => tB_imp S h
theorem jt_cmp {op : CmpOp} (ho : OpR X (compareOp op) (rD2 X.K f)) (ha : JV X C W a ma) (hb : JV X C W b mb) (hm : behindInMarks op b = false) : JT X C W (.Compare a [op] [b] pos) (tBoolD (eOp2 f ma mb)) :=
  PT.imp (pt_cmpR ho ha hb hm) fun σ H Q ⟨ρ, o, S, h⟩ => by
    obtain ⟨ρ0, o0, S0, h0⟩ := tB_imp S h
    exact op2_imp ρ0 S0 h0
theorem jt_not (h : JT X C W a ta) : JT X C W (.UnaryOp .Not a pos) (tNotD ta) := PT.imp (pt_not h) fun σ H Q ⟨ρ, o, S, h⟩ => by
  obtain ⟨ρ0, o0, S0, h0⟩ := stepB (Ok := fun H o => OkP X C o σ H RlB Q) S (fun _ _ _ _ t z => OkP.shift t z) h
  refine ⟨ρ0, o0, S0, h0.imp (fun d ρ1 z v H1 o1 S1 t1 s1 => ?_) fun _ _ z => z⟩
  obtain ⟨ρ1', o1', S1', T1, q1⟩ := z v H1 o1 S1 t1 s1
  exact q1 _ H1 o1' S1' (.refl _ _) rfl
variable {rest : List Expr}
theorem jw_and1 (h : JT X C W a ta) : JW X C W (.BoolOp .And [a] pos) ta := PW.imp (pw_and1 h) fun _ _ _ z => z
theorem jw_or1 (h : JT X C W a ta) : JW X C W (.BoolOp .Or [a] pos) ta := PW.imp (pw_or1 h) fun _ _ _ z => z
theorem jw_and (ha : JT X C W a ta) (hb : JW X C W (.BoolOp .And (b :: rest) pos) tb) : JW X C W (.BoolOp .And (a :: b :: rest) pos) (tAndD ta tb) := PW.imp (pw_and ha hb) fun σ H Q ⟨ρ, o, S, h⟩ => by
  obtain ⟨ρ0, o0, S0, h0⟩ := stepB (Ok := fun H o => OkP X C o σ H RlB Q) S (fun _ _ _ _ t z => OkP.shift t z) h
  refine ⟨ρ0, o0, S0, h0.imp (fun d ρ1 z v H1 o1 S1 t1 s1 => ?_) fun _ _ z => z⟩
  obtain ⟨ρ1', o1', S1', T1, q1⟩ := z v H1 o1 S1 t1 s1
  cases v with
  | true => exact ⟨ρ1', o1', S1', q1⟩
  | false => exact q1 _ H1 o1' S1' (.refl _ _) rfl
theorem jw_or (ha : JT X C W a ta) (hb : JW X C W (.BoolOp .Or (b :: rest) pos) tb) : JW X C W (.BoolOp .Or (a :: b :: rest) pos) (tOrD ta tb) := PW.imp (pw_or ha hb) fun σ H Q ⟨ρ, o, S, h⟩ => by
  obtain ⟨ρ0, o0, S0, h0⟩ := stepB (Ok := fun H o => OkP X C o σ H RlB Q) S (fun _ _ _ _ t z => OkP.shift t z) h
  refine ⟨ρ0, o0, S0, h0.imp (fun d ρ1 z v H1 o1 S1 t1 s1 => ?_) fun _ _ z => z⟩
  obtain ⟨ρ1', o1', S1', T1, q1⟩ := z v H1 o1 S1 t1 s1
  cases v with
  | false => exact ⟨ρ1', o1', S1', q1⟩
  | true => exact q1 _ H1 o1' S1' (.refl _ _) rfl
theorem JW.t (h : JW X C W e ta) : JT X C W e ta := PW.pt h
/-- as values -/
theorem je_one {op} (h : JE X C W a na) : JE X C W (.BoolOp op [a] pos) na := pe_one h
theorem bindOk {Q : VK} {r : R} {ρ : Env} (h : OkE X C o σ H Q r ρ) {P : VK} (i : ∀ v H1, Q v H1 → P v H1) : OkE X C o σ H P r ρ := by
  cases r with
  | val d => exact fun v H1 o1 S1 t s => i v H1 (h v H1 o1 S1 t s)
  | fresh c => exact fun v H1 o1 as a1 a2 a3 S1 t s => i v H1 (h v H1 o1 as a1 a2 a3 S1 t s)
theorem je_and (ha : JE X C W a na) (hb : JE X C W (.BoolOp .And (b :: rest) pos) nb) : JE X C W (.BoolOp .And (a :: b :: rest) pos) (eAndD na nb) := PE.imp (pe_and ha hb) fun σ H Q ⟨ρ, o, S, h⟩ => by
  obtain ⟨ρ0, o0, S0, h0⟩ := stepR (Ok := fun H o => OkE X C o σ H Q) S (fun _ _ _ _ t z => OkE.shift t z) h
  refine ⟨ρ0, o0, S0, h0.imp (fun r ρ1 z => bindOk z fun v H1 ⟨ρ1, o1, r, S1, T1, s, q⟩ => ?_) fun _ _ z => z⟩
  cases r with
  | fresh c => exact q.elim
  | val d =>
    cases d with
    | bool b =>
      refine ⟨b, s.ofBool, ?_⟩
      cases b with
      | true => exact ⟨ρ1, o1, S1, q⟩
      | false => exact q _ H1 o1 S1 (.refl _ _) (.bl false)
    | _ => exact q.elim
theorem je_or (ha : JE X C W a na) (hb : JE X C W (.BoolOp .Or (b :: rest) pos) nb) : JE X C W (.BoolOp .Or (a :: b :: rest) pos) (eOrD na nb) := PE.imp (pe_or ha hb) fun σ H Q ⟨ρ, o, S, h⟩ => by
  obtain ⟨ρ0, o0, S0, h0⟩ := stepR (Ok := fun H o => OkE X C o σ H Q) S (fun _ _ _ _ t z => OkE.shift t z) h
  refine ⟨ρ0, o0, S0, h0.imp (fun r ρ1 z => bindOk z fun v H1 ⟨ρ1, o1, r, S1, T1, s, q⟩ => ?_) fun _ _ z => z⟩
  cases r with
  | fresh c => exact q.elim
  | val d =>
    cases d with
    | bool b =>
      refine ⟨b, s.ofBool, ?_⟩
      cases b with
      | false => exact ⟨ρ1, o1, S1, q⟩
      | true => exact q _ H1 o1 S1 (.refl _ _) (.bl true)
    | _ => exact q.elim
theorem je_not (ha : JE X C W a na) : JE X C W (.UnaryOp .Not a pos) (eNotD na) := PE.imp (pe_not ha) fun σ H Q ⟨ρ, o, S, h⟩ => by
  obtain ⟨ρ0, o0, S0, h0⟩ := stepR (Ok := fun H o => OkE X C o σ H Q) S (fun _ _ _ _ t z => OkE.shift t z) h
  refine ⟨ρ0, o0, S0, h0.imp (fun r ρ1 z => bindOk z fun v H1 ⟨ρ1, o1, r, S1, T1, s, q⟩ => ?_) fun _ _ z => z⟩
  cases r with
  | fresh c => exact q.elim
  | val d =>
    cases d with
    | bool b => exact ⟨b, s.ofBool, q _ H1 o1 S1 (.refl _ _) (.bl _)⟩
    | _ => exact q.elim
theorem je_if {c : Expr} (hc : JT X C W c tc) (ha : JE X C W a na) (hb : JE X C W b nb) : JE X C W (.IfExp c a b pos) (eIfD tc na nb) := PE.imp (pe_ifExp hc ha hb) fun σ H Q ⟨ρ, o, S, h⟩ => by
  obtain ⟨ρ0, o0, S0, h0⟩ := stepB (Ok := fun H o => OkE X C o σ H Q) S (fun _ _ _ _ t z => OkE.shift t z) h
  refine ⟨ρ0, o0, S0, h0.imp (fun d ρ1 z v H1 o1 S1 t1 s1 => ?_) fun _ _ z => z⟩
  obtain ⟨ρ1', o1', S1', T1, q1⟩ := z v H1 o1 S1 t1 s1
  cases v with
  | true => exact ⟨ρ1', o1', S1', q1⟩
  | false => exact ⟨ρ1', o1', S1', q1⟩
/-- a comparison of three -/
def eChain (f g : D → D → Option R) (a b c : Env → Res D) : Env → Res R := fun ρ => bindR (a ρ) fun x ρ1 => bindR (b ρ1) fun y ρ2 => bindR (optR (f x y) ρ2) fun r ρ3 => match asB r with
  | some true => bindR (c ρ3) fun z ρ4 => optR (g y z) ρ4
  | some false => .ok (eBl false) ρ3
  | none => .bad
end
end Dn
set_option Elab.async false
set_option linter.all false
set_option maxRecDepth 100000
set_option maxHeartbeats 1000000
/-! Dn3: statements, loops, comprehensions -/
namespace Dn
open PySem L2

inductive SR where
  | nx (ρ : Env)
  | ret (r : R) (ρ : Env)
  | brk (ρ : Env)
  | cnt (ρ : Env)
  | exc (c : Str) (ρ : Env)
  | bad
def bindS (r : SR) (k : Env → SR) : SR := match r with
  | .nx ρ => k ρ
  | r => r
def bindRS {α : Type} (r : Res α) (k : α → Env → SR) : SR := match r with
  | .ok a ρ => k a ρ
  | .exc c ρ => .exc c ρ
  | .bad => .bad
@[simp] theorem bindS_nx {ρ : Env} {k : Env → SR} : bindS (.nx ρ) k = k ρ := id rfl
@[simp] theorem bindS_ret {r : R} {ρ : Env} {k : Env → SR} : bindS (.ret r ρ) k = .ret r ρ := id rfl
@[simp] theorem bindS_brk {ρ : Env} {k : Env → SR} : bindS (.brk ρ) k = .brk ρ := id rfl
@[simp] theorem bindS_cnt {ρ : Env} {k : Env → SR} : bindS (.cnt ρ) k = .cnt ρ := id rfl
@[simp] theorem bindS_exc {c : Str} {ρ : Env} {k : Env → SR} : bindS (.exc c ρ) k = .exc c ρ := id rfl
@[simp] theorem bindS_bad {k : Env → SR} : bindS .bad k = .bad := id rfl
@[simp] theorem bindRS_ok {α : Type} {a : α} {ρ : Env} {k : α → Env → SR} : bindRS (.ok a ρ) k = k a ρ := id rfl
@[simp] theorem bindRS_exc {α : Type} {c : Str} {ρ : Env} {k : α → Env → SR} : bindRS (.exc c ρ) k = .exc c ρ := id rfl
@[simp] theorem bindRS_bad {α : Type} {k : α → Env → SR} : bindRS (.bad : Res α) k = .bad := id rfl

section
variable (X : Cx) (C : Ctx) (W : WX) (o : Nat → List Addr) (H : Hp)
def NxP (Q : St → Hp → Prop) (ρ : Env) : Prop := ∀ σ' H' o', SRo X.K C o' ρ σ' H' → Tx (FF C.B o) H (FF C.B o') H' → Q σ' H'
def RtP (Q : VK) (r : R) (ρ : Env) : Prop := ∀ σ', OkE X C o σ' H Q r ρ
def PoS (D : Ends) : SR → Prop
  | .nx ρ => NxP X C o H D.nx ρ
  | .ret r ρ => RtP X C o H D.rt r ρ
  | .brk ρ => NxP X C o H D.bk ρ
  | .cnt ρ => NxP X C o H D.ct ρ
  | .exc c ρ => ∀ σ', ExP X C W o σ' H c ρ
  | .bad => False
def tS (s : Env → SR) : TS := fun D σ H => ∃ ρ o, SRo X.K C o ρ σ H ∧ PoS X C W o H D (s ρ)
end
def JS (X : Cx) (C : Ctx) (W : WX) (st : Stmt) (s : Env → SR) : Prop := PS X st (tS X C W s)
def JSs (X : Cx) (C : Ctx) (W : WX) (st : List Stmt) (s : Env → SR) : Prop := PSs X st (tS X C W s)
theorem PS.imp {X : Cx} {st : Stmt} {t t' : TS} (h : PS X st t) (i : ∀ D σ H, t' D σ H → t D σ H) : PS X st t' := ⟨fun pins s σ H D I q => h.run pins s σ H D I (i D σ H q)⟩
theorem PSs.imp {X : Cx} {st : List Stmt} {t t' : TS} (h : PSs X st t) (i : ∀ D σ H, t' D σ H → t D σ H) : PSs X st t' := ⟨fun pins s σ H D I q => h.run pins s σ H D I (i D σ H q)⟩

section
variable {X : Cx} {C : Ctx} {W : WX} {o o1 : Nat → List Addr} {σ : St} {H H1 : Hp}
theorem PoS.shift {D : Ends} (t : Tx (FF C.B o) H (FF C.B o1) H1) {r : SR} (h : PoS X C W o H D r) : PoS X C W o1 H1 D r := by
  cases r with
  | nx ρ => exact fun σ' H' o' S t' => h σ' H' o' S (t.trans t')
  | ret r ρ => exact fun σ' => OkE.shift t (h σ')
  | brk ρ => exact fun σ' H' o' S t' => h σ' H' o' S (t.trans t')
  | cnt ρ => exact fun σ' H' o' S t' => h σ' H' o' S (t.trans t')
  | exc c ρ => exact fun σ' => ExP.shift t (h σ')
  | bad => exact h
theorem PoS.imp {D D' : Ends} {r : SR} (h : PoS X C W o H D r) (i1 : ∀ σ H, D.nx σ H → D'.nx σ H) (i2 : ∀ v H, D.rt v H → D'.rt v H) (i3 : ∀ σ H, D.bk σ H → D'.bk σ H) (i4 : ∀ σ H, D.ct σ H → D'.ct σ H) : PoS X C W o H D' r := by
  cases r with
  | nx ρ => exact fun σ' H' o' S t' => i1 _ _ (h σ' H' o' S t')
  | ret r ρ => exact fun σ' => bindOk (h σ') i2
  | brk ρ => exact fun σ' H' o' S t' => i3 _ _ (h σ' H' o' S t')
  | cnt ρ => exact fun σ' H' o' S t' => i4 _ _ (h σ' H' o' S t')
  | exc c ρ => exact h
  | bad => exact h
/-- the way to the next statement exchanged -/
theorem PoS.bind {D : Ends} {r : SR} {k : Env → SR} (h : PoS X C W o H D (bindS r k)) : PoS X C W o H { D with nx := tS X C W k D } r := by
  cases r with
  | nx ρ => exact fun σ' H' o' S t' => ⟨ρ, o', S, PoS.shift t' h⟩
  | ret r ρ => exact h
  | brk ρ => exact h
  | cnt ρ => exact h
  | exc c ρ => exact h
  | bad => exact h
/-- a value first -/
theorem stepS {α β : Type} {Rl : (Addr → Prop) → Hp → β → α → Prop} {D : Ends} {m : Env → Res α} {k : α → Env → SR} {ρ : Env} (S : SRo X.K C o ρ σ H) (h : PoS X C W o H D (bindRS (m ρ) k)) :
    tV X C W Rl m σ H (fun v H1 => ∃ ρ1 o1 d, SRo X.K C o1 ρ1 σ H1 ∧ Tx (FF C.B o) H (FF C.B o1) H1 ∧ Rl (FF C.B o1) H1 v d ∧ PoS X C W o1 H1 D (k d ρ1)) := by
  refine ⟨ρ, o, S, ?_⟩
  cases e : m ρ with
  | ok a ρ1 =>
    rw [e] at h
    exact fun v H1 o1 S1 t r => ⟨ρ1, o1, a, S1, t, r, PoS.shift t h⟩
  | exc c ρ1 =>
    rw [e] at h
    exact fun H' o' S' t => h σ H' o' S' t
  | bad =>
    rw [e] at h
    exact h
theorem stepSE {D : Ends} {m : Env → Res R} {k : R → Env → SR} {ρ : Env} {Q : VK} (S : SRo X.K C o ρ σ H) (h : PoS X C W o H D (bindRS (m ρ) k)) (q : ∀ r ρ1, PoS X C W o H D (k r ρ1) → OkE X C o σ H Q r ρ1) : tE X C W m σ H Q := by
  refine ⟨ρ, o, S, ?_⟩
  cases e : m ρ with
  | ok a ρ1 =>
    rw [e] at h
    exact q _ _ h
  | exc c ρ1 =>
    rw [e] at h
    exact fun H' o' S' t => h σ H' o' S' t
  | bad =>
    rw [e] at h
    exact h

def sNil : Env → SR := fun ρ => .nx ρ
def sSeq (s t : Env → SR) : Env → SR := fun ρ => bindS (s ρ) t
def sIf (t : Env → Res Bool) (a b : Env → SR) : Env → SR := fun ρ => bindRS (t ρ) fun c ρ1 => match c with | true => a ρ1 | false => b ρ1
def sRet (m : Env → Res R) : Env → SR := fun ρ => bindRS (m ρ) fun r ρ1 => .ret r ρ1
def sRetN : Env → SR := fun ρ => .ret (.val .none) ρ
def sDrop (m : Env → Res R) : Env → SR := fun ρ => bindRS (m ρ) fun _ ρ1 => .nx ρ1
def R.sl : R → Sl
  | .val d => .val d
  | .fresh c => .own c
def putR (i : Nat) (r : R) (ρ : Env) : SR := match gS ρ i with
  | .bor _ => .bad
  | _ => .nx (sS ρ i r.sl)
def sAsg (i : Nat) (m : Env → Res R) : Env → SR := fun ρ => bindRS (m ρ) fun r ρ1 => putR i r ρ1
variable {st : Stmt} {sts : List Stmt} {s t : Env → SR} {e : Expr} {m : Env → Res R} {pos : Pos}
theorem js_nil : JSs X C W [] sNil := PSs.imp pss_nil fun D σ H ⟨ρ, o, S, h⟩ => h σ H o S (.refl _ _)
theorem js_cons (h1 : JS X C W st s) (h2 : JSs X C W sts t) : JSs X C W (st :: sts) (sSeq s t) := PSs.imp (pss_cons h1 h2) fun D σ H ⟨ρ, o, S, h⟩ => ⟨ρ, o, S, PoS.bind h⟩
theorem js_one (h1 : JS X C W st s) : JSs X C W [st] s := PSs.imp (pss_one h1) fun D σ H z => z
theorem js_pass : JS X C W (.Pass pos) sNil := PS.imp ps_pass fun D σ H ⟨ρ, o, S, h⟩ => h σ H o S (.refl _ _)
theorem js_break : JS X C W (.Break pos) (fun ρ => .brk ρ) := PS.imp ps_break fun D σ H ⟨ρ, o, S, h⟩ => h σ H o S (.refl _ _)
theorem js_continue : JS X C W (.Continue pos) (fun ρ => .cnt ρ) := PS.imp ps_continue fun D σ H ⟨ρ, o, S, h⟩ => h σ H o S (.refl _ _)
theorem js_if {c : Expr} {a b : List Stmt} {tc : Env → Res Bool} (hc : JT X C W c tc) (ha : JSs X C W a s) (hb : JSs X C W b t) : JS X C W (.If c a b pos) (sIf tc s t) := PS.imp (ps_if hc ha hb) fun D σ H ⟨ρ, o, S, h⟩ => by
  obtain ⟨ρ0, o0, S0, h0⟩ := stepS (Rl := RlB) S h
  refine ⟨ρ0, o0, S0, h0.imp (fun d ρ1 z v H1 o1 S1 t1 s1 => ?_) fun _ _ z => z⟩
  obtain ⟨ρ1', o1', d', S1', T1, s1', q1⟩ := z v H1 o1 S1 t1 s1
  have e : v = d' := s1'
  subst e
  cases v with
  | true => exact ⟨ρ1', o1', S1', q1⟩
  | false => exact ⟨ρ1', o1', S1', q1⟩
theorem js_ret (h : JE X C W e m) : JS X C W (.Return (some e) pos) (sRet m) := PS.imp (ps_ret h) fun D σ H ⟨ρ, o, S, h⟩ => stepSE S h fun r ρ1 z => z σ
theorem js_retN : JS X C W (.Return none pos) sRetN := PS.imp ps_retN fun D σ H ⟨ρ, o, S, h⟩ => h σ _ H o S (.refl _ _) .non
theorem js_expr (h : JE X C W e m) (hs : swapsWith e none pos.line X.env = pure false := by rfl) : JS X C W (.Expr e pos) (sDrop m) := PS.imp (ps_expr h hs) fun D σ H ⟨ρ, o, S, h⟩ =>
  stepSE S h fun r ρ1 z => OkE.of_val fun v H1 o1 S1 t s => z σ H1 o1 S1 t
theorem js_doc {x j pos'} : JS X C W (.Expr (.Constant (.str x) j pos) pos') sNil := PS.imp ps_doc fun D σ H ⟨ρ, o, S, h⟩ => h σ H o S (.refl _ _)
/-- a name is given what stands at r -/
theorem OkE.put {D : St → Hp → Prop} {i : Nat} {r : R} {ρ : Env} (h : NxP X C o H D (sS ρ i r.sl)) : OkE X C o σ H (fun v H1 => D (σ.set i (some v)) H1) r ρ := by
  cases r with
  | val d => exact fun v H1 o1 S1 t s => h _ H1 _ (S1.setV s) (t.trans (.less FF.drop))
  | fresh c =>
    intro v H1 o1 as nd h0 nB S1 t cr
    by_cases hi : i < ρ.length
    · refine h _ H1 _ (S1.setO hi nd nB h0 cr) (t.trans (.less fun a z => ?_))
      rcases z with z | ⟨j, q⟩
      · exact .inl (.inl z)
      · by_cases e : j = i
        · subst e; rw [oset_same] at q; exact .inl (.inr q)
        · rw [oset_ne e] at q; exact .inr ⟨j, q⟩
    · have e1 : sS ρ i (R.fresh c).sl = ρ := by
        have : ∀ (ρ : Env) (i : Nat) (s : Sl), ρ.length ≤ i → sS ρ i s = ρ := by
          intro ρ
          induction ρ with
          | nil => intro i s _; rfl
          | cons a r ih =>
            intro i s hl
            cases i with
            | zero => simp at hl
            | succ i => show a :: sS r i s = a :: r; rw [ih i s (by simpa using hl)]
        exact this ρ i _ (by omega)
      have e2 : σ.set i (some v) = σ := List.set_eq_of_length_le (by rw [← S1.len]; omega)
      rw [e1] at h
      rw [e2]
      exact h _ H1 _ S1.less t.dropB
theorem putR_ok {D : Ends} {i : Nat} {r : R} {ρ : Env} (h : PoS X C W o H D (putR i r ρ)) : NxP X C o H D.nx (sS ρ i r.sl) := by
  unfold putR at h
  split at h
  · exact h.elim
  · exact h
theorem js_set {i : Nat} {x : Str} {pos' : Pos} (hN : X.N.Nodup) (hi : X.N[i]? = some x) (hx : Loc X.env.scope x) (he : JE X C W e m) (hs : swapsWith e (some (.Name x pos')) pos.line X.env = pure false := by rfl) (hf : X.fn x = true ∨ X.env.scope.names.lookup x = some .local := by first | exact .inl rfl | exact .inr rfl | assumption) :
    JS X C W (.Assign [.Name x pos'] e pos) (sAsg i m) := PS.imp (ps_set hN hi hx he hs hf) fun D σ H ⟨ρ, o, S, h⟩ => stepSE S h fun r ρ1 z => OkE.put (putR_ok z)

/-! ### targets -/
/-- only these slots differ -/
def Dif (ts : List Nat) (σ σ' : St) : Prop := σ'.length = σ.length ∧ ∀ j, j ∉ ts → σ'[j]? = σ[j]?
def NxG (X : Cx) (C : Ctx) (o : Nat → List Addr) (σ : St) (H : Hp) (ts : List Nat) (Q : St → Hp → Prop) (ρ : Env) : Prop := ∀ σ' H' o', Dif ts σ σ' → SRo X.K C o' ρ σ' H' → Tx (FF C.B o) H (FF C.B o') H' → Q σ' H'
def tG (X : Cx) (C : Ctx) (W : WX) (ts : List Nat) (g : D → Env → Option Env) : TG := fun v σ H Q => ∃ ρ o d ρ', SRo X.K C o ρ σ H ∧ Sh X.K (FF C.B o) H v d ∧ g d ρ = some ρ' ∧ NxG X C o σ H ts Q ρ'
def tGs (X : Cx) (C : Ctx) (W : WX) (ts : List Nat) (g : List D → Env → Option Env) : TGs := fun v σ H Q => ∃ ρ o d ρ', SRo X.K C o ρ σ H ∧ ShA X.K (FF C.B o) H v d ∧ g d ρ = some ρ' ∧ NxG X C o σ H ts Q ρ'
def JG (X : Cx) (C : Ctx) (W : WX) (t : Expr) (ts : List Nat) (g : D → Env → Option Env) : Prop := PG X t (tG X C W ts g)
def JGs (X : Cx) (C : Ctx) (W : WX) (t : List Expr) (ts : List Nat) (g : List D → Env → Option Env) : Prop := PGs X t (tGs X C W ts g)
theorem PG.imp {X : Cx} {e : Expr} {t t' : TG} (h : PG X e t) (i : ∀ v σ H Q, t' v σ H Q → t v σ H Q) : PG X e t' := ⟨fun pins s σ H v u Q I r q => h.run pins s σ H v u Q I r (i v σ H Q q)⟩
theorem PGs.imp {X : Cx} {e : List Expr} {t t' : TGs} (h : PGs X e t) (i : ∀ v σ H Q, t' v σ H Q → t v σ H Q) : PGs X e t' := ⟨fun pins s σ H v u Q I r q => h.run pins s σ H v u Q I r (i v σ H Q q)⟩
def gNm (i : Nat) : D → Env → Option Env := fun d ρ => match gS ρ i with
  | .bor _ => none
  | _ => some (sS ρ i (.val d))
def gsNil : List D → Env → Option Env := fun ds ρ => match ds with
  | [] => some ρ
  | _ :: _ => none
def gsCons (g : D → Env → Option Env) (h : List D → Env → Option Env) : List D → Env → Option Env := fun ds ρ => match ds with
  | [] => none
  | d :: ds => match g d ρ with
    | some ρ1 => h ds ρ1
    | none => none
def gTp (n : Nat) (g : List D → Env → Option Env) : D → Env → Option Env := fun d ρ => match d with
  | .tuple ds => if ds.length = n then g ds ρ else none
  | _ => none
theorem Dif.refl (ts : List Nat) (σ : St) : Dif ts σ σ := ⟨rfl, fun _ _ => rfl⟩
theorem Dif.trans {a b : List Nat} {σ σ1 σ2 : St} (h1 : Dif a σ σ1) (h2 : Dif b σ1 σ2) : Dif (a ++ b) σ σ2 := ⟨h2.1.trans h1.1, fun j hj => (h2.2 j fun z => hj (List.mem_append_right _ z)).trans (h1.2 j fun z => hj (List.mem_append_left _ z))⟩
theorem jg_name {i : Nat} {x : Str} (hN : X.N.Nodup) (hi : X.N[i]? = some x) (hx : Loc X.env.scope x) (hf : X.fn x = true ∨ X.env.scope.names.lookup x = some .local := by first | exact .inl rfl | exact .inr rfl | assumption) : JG X C W (.Name x pos) [i] (gNm i) :=
  PG.imp (pg_name hN hi hx hf) fun v σ H Q ⟨ρ, o, d, ρ', S, s, e, q⟩ => by
    unfold gNm at e
    split at e
    · cases e
    · cases e
      exact q _ H _ ⟨by simp, fun j hj => by rw [List.getElem?_set_ne (fun z => hj (by simp [z]))]⟩ (S.setV s) (.less FF.drop)
theorem jgs_nil : JGs X C W [] [] gsNil := PGs.imp pgs_nil fun v σ H Q ⟨ρ, o, d, ρ', S, s, e, q⟩ => by
  cases s with
  | nil => cases e; exact ⟨rfl, q σ H o (.refl _ _) S (.refl _ _)⟩
  | cons _ _ => cases e
theorem jgs_cons {es : List Expr} {ts us : List Nat} {g : D → Env → Option Env} {h : List D → Env → Option Env} (h1 : JG X C W e ts g) (h2 : JGs X C W es us h) (hk : (assignEach (e :: es) X.env).map (·.2) = assign e X.env :: (assignEach es X.env).map (·.2) := by rfl) : JGs X C W (e :: es) (ts ++ us) (gsCons g h) :=
  PGs.imp (pgs_cons h1 h2 hk) fun v σ H Q ⟨ρ, o, d, ρ', S, s, e, q⟩ => by
    cases s with
    | nil => cases e
    | @cons v0 d0 vs ds h0 s0 =>
      unfold gsCons at e
      dsimp only at e
      cases e1 : g d0 ρ with
      | none => rw [e1] at e; cases e
      | some ρ1 =>
        rw [e1] at e
        exact ⟨_, _, rfl, ρ, o, d0, ρ1, S, h0, e1, fun σ1 H1 o1 f1 S1 t1 => ⟨ρ1, o1, ds, ρ', S1, s0.tx t1, e, fun σ2 H2 o2 f2 S2 t2 => q σ2 H2 o2 (f1.trans f2) S2 (t1.trans t2)⟩⟩
theorem jg_tup {es : List Expr} {k n : Nat} {ts : List Nat} {g : List D → Env → Option Env} (hc : X.calm = true) (h : JGs X C W es ts g) (hn : (assignEach es X.env).length = n := by rfl) (hst : (assignEach es X.env).findIdx? (·.1) = none := by rfl) : JG X C W (.Tuple es k pos) ts (gTp n g) :=
  PG.imp (pg_tup hc h hn hst) fun v σ H Q ⟨ρ, o, d, ρ', S, s, e, q⟩ => by
    unfold gTp at e
    cases d with
    | tuple ds =>
      dsimp only at e
      split at e
      · rename_i hl
        cases s with
        | tup h0 s0 => exact ⟨_, _, rfl, h0.elim (fun z => .inl z.2) .inr, by rw [s0.length]; exact hl, ρ, o, ds, ρ', S, s0, e, q⟩
      · cases e
    | _ => cases e
def sAsgG (g : D → Env → Option Env) (m : Env → Res D) : Env → SR := fun ρ => bindRS (m ρ) fun d ρ1 => match g d ρ1 with
  | some ρ2 => .nx ρ2
  | none => .bad
theorem js_asg {tg : Expr} {ts : List Nat} {g : D → Env → Option Env} {m : Env → Res D} (he : JV X C W e m) (hg : JG X C W tg ts g) (hs : swapsWithSole [tg] e pos.line X.env = pure false := by rfl) (hw : swappedStores [tg] e X.env = pure none := by rfl) (h1 : (assignEach [tg] X.env).map (·.2) = [assign tg X.env] := by rfl) : JS X C W (.Assign [tg] e pos) (sAsgG g m) :=
  PS.imp (ps_asg he hg hs hw h1) fun D σ H ⟨ρ, o, S, h⟩ => by
    obtain ⟨ρ0, o0, S0, h0⟩ := stepS (Rl := Sh X.K) S h
    refine ⟨ρ0, o0, S0, h0.imp (fun d ρ1 z v H1 o1 S1 t1 s1 => ?_) fun _ _ z => z⟩
    obtain ⟨ρ1', o1', d', S1', T1, s1', q1⟩ := z v H1 o1 S1 t1 s1
    cases e1 : g d' ρ1' with
    | none => simp only [e1] at q1; exact q1.elim
    | some ρ2 =>
      simp only [e1] at q1
      exact ⟨ρ1', o1', d', ρ2, S1', s1', e1, fun σ' H' o' _ => q1 σ' H' o'⟩
/-- a, b = e1, e2 -/
def sPar (i j : Nat) (m : Env → Res (List D)) : Env → SR := fun ρ => bindRS (m ρ) fun ds ρ1 => match ds with
  | [x, y] => bindS (putR i (.val x) ρ1) (putR j (.val y))
  | _ => .bad
theorem js_par {i j : Nat} {x y : Str} {a b : Expr} {m : Env → Res (List D)} {px py pt : Pos} {kt k2 pt2} (hc : X.calm = true) (hN : X.N.Nodup) (hi : X.N[i]? = some x) (hj : X.N[j]? = some y) (hij : i ≠ j)
    (hp : PS X (.Assign [.Tuple [.Name x px, .Name y py] kt pt] (.Tuple [a, b] k2 pt2) pos) (tPar i j (tV X C W (ShA X.K) m))) : JS X C W (.Assign [.Tuple [.Name x px, .Name y py] kt pt] (.Tuple [a, b] k2 pt2) pos) (sPar i j m) :=
  PS.imp hp fun D σ H ⟨ρ, o, S, h⟩ => by
    obtain ⟨ρ0, o0, S0, h0⟩ := stepS (Rl := ShA X.K) S h
    refine ⟨ρ0, o0, S0, h0.imp (fun d ρ1 z v H1 o1 S1 t1 s1 => ?_) fun _ _ z => z⟩
    obtain ⟨ρ1', o1', d', S1', T1, s1', q1⟩ := z v H1 o1 S1 t1 s1
    cases s1' with
    | nil => exact q1.elim
    | cons ha s2 =>
      cases s2 with
      | nil => exact q1.elim
      | cons hb s3 =>
        cases s3 with
        | cons _ _ => exact q1.elim
        | nil =>
          have q2 := putR_ok (PoS.bind q1)
          have S2 := S1'.setV (i := i) ha
          have t2 : Tx (FF C.B o1') H1 (FF C.B (oset o1' i [])) H1 := .less FF.drop
          obtain ⟨ρ3, o3, S3, q3⟩ : tS X C W (putR j (.val _)) D _ H1 := q2 _ H1 _ S2 t2
          have q4 := putR_ok (PoS.shift (o1 := oset o1' i []) (H1 := H1) (.refl _ _) (PoS.bind (r := .nx (sS ρ1' i (R.val _).sl)) (k := putR j (.val _)) (D := D) (by
            have : PoS X C W (oset o1' i []) H1 D (bindS (putR i (.val _) ρ1') (putR j (.val _))) := PoS.shift t2 q1
            unfold putR at this
            split at this
            · exact this.elim
            · exact this) |> fun (z : NxP X C (oset o1' i []) H1 (tS X C W (putR j (.val _)) D) _) => (by
              have : PoS X C W (oset o1' i []) H1 D (bindS (putR i (.val _) ρ1') (putR j (.val _))) := PoS.shift t2 q1
              unfold putR at this
              split at this
              · exact this.elim
              · exact this)))
          exact ⟨_, _, rfl, q4 _ H1 _ (S2.setV (hb.tx t2)) (.less FF.drop)⟩

/-! ### loops -/
/-- an iterator gives these data, wherever what is not the frame's own has stayed -/
def ItOk (K : PySem.W.Frag) (F0 : Addr → Prop) (H0 : Hp) (J : It) (ds : List D) : Prop := ∀ F H, Tx F0 H0 F H → (∀ a, F a → H a ≠ none) → J.stop ds.length H ∧
  ∀ i d, ds[i]? = some d → J.go i H ∧ ∀ x H', J.yld i H x H' → Same H H' ∧ Sh K F H' x d
def tI (X : Cx) (C : Ctx) (W : WX) (m : Env → Res (List D)) : TI := fun σ H Q => ∃ ρ o, SRo X.K C o ρ σ H ∧
  PoG (fun ds ρ' => ∀ J H' o', SRo X.K C o' ρ' σ H' → Tx (FF C.B o) H (FF C.B o') H' → ItOk X.K (FF C.B o') H' J ds → Q J H') (ExP X C W o σ H) (m ρ)
def JI (X : Cx) (C : Ctx) (W : WX) (tg iter : Expr) (m : Env → Res (List D)) : Prop := PI X tg iter (tI X C W m)
theorem PI.imp {X : Cx} {tg e : Expr} {t t' : TI} (h : PI X tg e t) (i : ∀ σ H Q, t' σ H Q → t σ H Q) : PI X tg e t' := ⟨fun pins s σ H Q I q => h.run pins s σ H Q I (i σ H Q q)⟩
theorem PI.or {X : Cx} {tg e : Expr} {t t' : TI} (h : PI X tg e t) (h' : PI X tg e t') : PI X tg e (fun σ H Q => t σ H Q ∨ t' σ H Q) := ⟨fun pins s σ H Q I q => q.elim (h.run pins s σ H Q I) (h'.run pins s σ H Q I)⟩
def forL (g : D → Env → Option Env) (b : Env → SR) : List D → Env → SR
  | [], ρ => .nx ρ
  | d :: ds, ρ => match g d ρ with
    | none => .bad
    | some ρ1 => match b ρ1 with
      | .nx ρ2 => forL g b ds ρ2
      | .cnt ρ2 => forL g b ds ρ2
      | .brk ρ2 => .nx ρ2
      | .ret r ρ2 => .ret r ρ2
      | .exc c ρ2 => .exc c ρ2
      | .bad => .bad
def sFor (g : D → Env → Option Env) (m : Env → Res (List D)) (b : Env → SR) : Env → SR := fun ρ => bindRS (m ρ) fun ds ρ1 => forL g b ds ρ1
theorem js_for {iter tg : Expr} {ts : List Nat} {body : List Stmt} {g : D → Env → Option Env} {mi : Env → Res (List D)} (hp : PassesOwn (model X.prog X.w) X.A X.env X.xe) (hc : X.calm = true) (hi : JI X C W tg iter mi) (hg : JG X C W tg ts g) (hb : JSs X C W body s)
    (hs : ∀ x, foldedSetIterable iter X.env x = pure x := by intro _; rfl) : JS X C W (.For tg iter body [] pos) (sFor g mi s) := PS.imp (ps_for hp hc hi hg hb hs) fun D σ H ⟨ρ, o, S, h⟩ => by
  refine ⟨ρ, o, S, ?_⟩
  have h : PoS X C W o H D (bindRS (mi ρ) fun ds ρ1 => forL g s ds ρ1) := h
  cases e : mi ρ with
  | bad => rw [e] at h; exact h
  | exc c ρ1 => rw [e] at h; exact fun H' o' S' t => h σ H' o' S' t
  | ok ds ρ1 =>
    rw [e] at h
    intro J H1 o1 S1 t1 it
    refine ⟨fun i n σ2 H2 => ∃ ρ2 o2, SRo X.K C o2 ρ2 σ2 H2 ∧ Tx (FF C.B o1) H1 (FF C.B o2) H2 ∧ i + n = ds.length ∧ PoS X C W o2 H2 D (forL g s (ds.drop i) ρ2), ⟨ds.length, ρ1, o1, S1, .refl _ _, by omega, PoS.shift t1 h⟩, ?_⟩
    rintro i n σ2 H2 ⟨ρ2, o2, S2, t2, en, h2⟩
    obtain ⟨stop, turn⟩ := it (FF C.B o2) H2 t2 S2.tr
    by_cases hlt : i < ds.length
    · refine .inr ?_
      have ei : ds[i]? = some ds[i] := List.getElem?_eq_getElem hlt
      obtain ⟨go, yl⟩ := turn i ds[i] ei
      rw [List.drop_eq_getElem_cons hlt] at h2
      unfold forL at h2
      refine ⟨go, fun σ3 H3 => ∃ ρ3 o3, SRo X.K C o3 ρ3 σ3 H3 ∧ Tx (FF C.B o1) H1 (FF C.B o3) H3 ∧ PoS X C W o3 H3 D (forL g s (ds.drop (i + 1)) ρ3), fun σ3 H3 ⟨ρ3, o3, S3, t3, h3⟩ => ⟨n - 1, by omega, ρ3, o3, S3, t3, by omega, h3⟩, fun x H3 hy => ?_⟩
      obtain ⟨sm, sx⟩ := yl x H3 hy
      cases e1 : g ds[i] ρ2 with
      | none => rw [e1] at h2; exact h2.elim
      | some ρ4 =>
        rw [e1] at h2
        dsimp only at h2
        refine ⟨ρ2, o2, ds[i], ρ4, S2.keep sm, sx, e1, fun σ5 H5 o5 _ S5 t5 => ⟨ρ4, o5, S5, ?_⟩⟩
        have t6 : Tx (FF C.B o2) H2 (FF C.B o5) H5 := (Tx.same sm).trans t5
        have again : ∀ {ρ7 : Env}, PoS X C W o2 H2 D (forL g s (ds.drop (i + 1)) ρ7) → NxP X C o5 H5 (fun σ3 H3 => ∃ ρ3 o3, SRo X.K C o3 ρ3 σ3 H3 ∧ Tx (FF C.B o1) H1 (FF C.B o3) H3 ∧ PoS X C W o3 H3 D (forL g s (ds.drop (i + 1)) ρ3)) ρ7 :=
          fun {ρ7} q σ7 H7 o7 S7 t7 => ⟨ρ7, o7, S7, t2.trans (t6.trans t7), PoS.shift (t6.trans t7) q⟩
        cases e2 : s ρ4 with
        | nx ρ7 => rw [e2] at h2; exact again h2
        | cnt ρ7 => rw [e2] at h2; exact again h2
        | brk ρ7 => rw [e2] at h2; exact fun σ7 H7 o7 S7 t7 => h2 σ7 H7 o7 S7 (t6.trans t7)
        | ret r ρ7 => rw [e2] at h2; exact fun σ7 => OkE.shift t6 (h2 σ7)
        | exc c ρ7 => rw [e2] at h2; exact fun σ7 => ExP.shift t6 (h2 σ7)
        | bad => rw [e2] at h2; exact h2
    · have e0 : i = ds.length := by omega
      subst e0
      rw [List.drop_length] at h2
      exact .inl ⟨stop, h2 σ2 H2 o2 S2 (.refl _ _)⟩
/-- while -/
def whileL (t : Env → Res Bool) (b : Env → SR) : Nat → Env → SR
  | 0, _ => .bad
  | n + 1, ρ => bindRS (t ρ) fun c ρ1 => match c with
    | false => .nx ρ1
    | true => match b ρ1 with
      | .nx ρ2 => whileL t b n ρ2
      | .cnt ρ2 => whileL t b n ρ2
      | .brk ρ2 => .nx ρ2
      | .ret r ρ2 => .ret r ρ2
      | .exc c ρ2 => .exc c ρ2
      | .bad => .bad
theorem fuel_ex : ∃ n : Nat, n = 1000000000000000000 := ⟨_, rfl⟩
/-- not to be unfolded by anybody -/
noncomputable def fuel : Nat := Classical.choose fuel_ex
theorem fuel_eq : fuel = 1000000000000000000 := Classical.choose_spec fuel_ex
noncomputable def sWhile (t : Env → Res Bool) (b : Env → SR) : Env → SR := fun ρ => whileL t b fuel ρ
theorem js_while {c : Expr} {body : List Stmt} {tc : Env → Res Bool} (hp : PassesOwn (model X.prog X.w) X.A X.env X.xe) (hc : JT X C W c tc) (hb : JSs X C W body s) : JS X C W (.While c body [] pos) (sWhile tc s) := PS.imp (ps_while hp hc hb) fun D σ H ⟨ρ, o, S, h⟩ => by
  refine ⟨fun n σ2 H2 => ∃ ρ2 o2, SRo X.K C o2 ρ2 σ2 H2 ∧ PoS X C W o2 H2 D (whileL tc s n ρ2), ⟨fuel, ρ, o, S, h⟩, ?_⟩
  rintro n σ2 H2 ⟨ρ2, o2, S2, h2⟩
  cases n with
  | zero => exact h2.elim
  | succ n =>
    obtain ⟨ρ0, o0, S0, h0⟩ := stepS (Rl := RlB) S2 h2
    refine ⟨ρ0, o0, S0, h0.imp (fun d ρ1 z v H1 o1 S1 t1 s1 => ?_) fun _ _ z => z⟩
    obtain ⟨ρ1', o1', d', S1', T1, s1', q1⟩ := z v H1 o1 S1 t1 s1
    have e : v = d' := s1'
    subst e
    cases v with
    | false => exact q1 σ2 H1 o1' S1' (.refl _ _)
    | true =>
      dsimp only at q1
      refine ⟨fun σ3 H3 => ∃ ρ3 o3, SRo X.K C o3 ρ3 σ3 H3 ∧ PoS X C W o3 H3 D (whileL tc s n ρ3), fun σ3 H3 z => ⟨n, by omega, z⟩, ρ1', o1', S1', ?_⟩
      cases e2 : s ρ1' with
      | nx ρ7 => rw [e2] at q1; exact fun σ7 H7 o7 S7 t7 => ⟨ρ7, o7, S7, PoS.shift t7 q1⟩
      | cnt ρ7 => rw [e2] at q1; exact fun σ7 H7 o7 S7 t7 => ⟨ρ7, o7, S7, PoS.shift t7 q1⟩
      | brk ρ7 => rw [e2] at q1; exact q1
      | ret r ρ7 => rw [e2] at q1; exact q1
      | exc c ρ7 => rw [e2] at q1; exact q1
      | bad => rw [e2] at q1; exact q1
end
end Dn
set_option Elab.async false
set_option linter.all false
set_option maxRecDepth 100000
set_option maxHeartbeats 1000000
/-! Dn4: comprehensions, calls of defs, a def's promise, exceptions -/
namespace Dn
open PySem L2

/-! ### comprehensions -/
def wipeE (ρ : Env) : List Nat → Env
  | [] => ρ
  | v :: vs => sS (wipeE ρ vs) v .emp
def restE (ρ ρ0 : Env) : List Nat → Env
  | [] => ρ
  | v :: vs => sS (restE ρ ρ0 vs) v (gS ρ0 v)
def pureAt (ρ : Env) : List Nat → Bool
  | [] => true
  | v :: vs => (match gS ρ v with | .emp => true | .val _ => true | _ => false) && pureAt ρ vs
theorem wipeE_len (ρ : Env) : ∀ vs, (wipeE ρ vs).length = ρ.length
  | [] => rfl
  | v :: vs => by unfold wipeE; rw [sS_len, wipeE_len ρ vs]
theorem restE_len (ρ ρ0 : Env) : ∀ vs, (restE ρ ρ0 vs).length = ρ.length
  | [] => rfl
  | v :: vs => by unfold restE; rw [sS_len, restE_len ρ ρ0 vs]
theorem wipeE_at {ρ : Env} {j : Nat} : ∀ {vs : List Nat}, j ∈ vs → gS (wipeE ρ vs) j = .emp
  | [], h => by cases h
  | v :: vs, h => by
    unfold wipeE
    by_cases e : v = j
    · subst e
      by_cases hl : v < (wipeE ρ vs).length
      · exact gS_same hl
      · exact gS_out (by rw [sS_len]; omega)
    · rw [gS_ne e]
      exact wipeE_at ((List.mem_cons.mp h).resolve_left fun z => e z.symm)
theorem pureAt_of {ρ : Env} {j : Nat} : ∀ {vs : List Nat}, pureAt ρ vs = true → j ∈ vs → gS ρ j = .emp ∨ ∃ d, gS ρ j = .val d
  | [], _, h => by cases h
  | v :: vs, hp, h => by
    unfold pureAt at hp
    rw [Bool.and_eq_true] at hp
    rcases List.mem_cons.mp h with e | h
    · subst e
      have := hp.1
      cases g : gS ρ j with
      | emp => exact .inl rfl
      | val d => exact .inr ⟨d, rfl⟩
      | own c => rw [g] at this; cases this
      | bor c => rw [g] at this; cases this
    · exact pureAt_of hp.2 h
section
variable {K : PySem.W.Frag} {C : Ctx} {o : Nat → List Addr} {ρ : Env} {σ : St} {H : Hp}
theorem wipe_in {σ : St} {j : Nat} : ∀ {vs : List Nat}, j ∈ vs → j < σ.length → (wipe σ vs)[j]? = some none
  | [], h, _ => by cases h
  | v :: vs, h, hl => by
    unfold wipe
    by_cases e : v = j
    · subst e; rw [List.getElem?_set_self (by rw [wipe_length]; exact hl)]
    · rw [List.getElem?_set_ne e]
      exact wipe_in ((List.mem_cons.mp h).resolve_left fun z => e z.symm) hl
theorem wipe_dif {vs : List Nat} {σ σ2 : St} (h : Dif vs (wipe σ vs) σ2) : wipe σ2 vs = wipe σ vs := by
  apply List.ext_getElem?
  intro j
  have hl : σ2.length = σ.length := by rw [h.1, wipe_length]
  by_cases hj : j ∈ vs
  · by_cases hlt : j < σ.length
    · rw [wipe_in hj (by omega), wipe_in hj hlt]
    · rw [List.getElem?_eq_none (by rw [wipe_length]; omega), List.getElem?_eq_none (by rw [wipe_length]; omega)]
  · rw [wipe_out hj, h.2 j hj]
theorem SRo.wiped (S : SRo K C o ρ σ H) : ∀ vs : List Nat, ∃ o', SRo K C o' (wipeE ρ vs) (wipe σ vs) H ∧ ∀ a, FF C.B o' a → FF C.B o a
  | [] => ⟨o, S, fun _ z => z⟩
  | v :: vs => by
    obtain ⟨o1, S1, l⟩ := S.wiped vs
    exact ⟨_, S1.setE (i := v) (ov := none), fun a z => l a (FF.drop a z)⟩
/-- the block's own names are given back -/
theorem SRo.rest {ρ0 : Env} : ∀ {vs : List Nat}, SRo K C o ρ (wipe σ vs) H → (∀ j ∈ vs, gS ρ j = .emp) → (∀ j ∈ vs, SlR K (FF C.B o) H [] (C.bv j) σ[j]? (gS ρ0 j)) → SRo K C o (restE ρ ρ0 vs) σ H := by
  intro vs S he hs
  have key : ∀ us : List Nat, (∀ j ∈ us, j ∈ vs) → ∀ i, gS (restE ρ ρ0 us) i = if i ∈ us ∧ i < ρ.length then gS ρ0 i else gS ρ i := by
    intro us
    induction us with
    | nil => intro _ i; rw [if_neg (by simp)]; rfl
    | cons u us ih =>
      intro hu i
      have ih' := ih (fun j hj => hu j (List.mem_cons_of_mem _ hj)) i
      unfold restE
      by_cases e : u = i
      · subst e
        by_cases hl : u < ρ.length
        · rw [gS_same (by rw [restE_len]; exact hl), if_pos ⟨by simp, hl⟩]
        · rw [gS_out (by rw [sS_len, restE_len]; omega), if_neg (fun z => hl z.2), gS_out (by omega)]
      · rw [gS_ne e, ih']
        by_cases hi : i ∈ us ∧ i < ρ.length
        · rw [if_pos hi, if_pos ⟨List.mem_cons_of_mem _ hi.1, hi.2⟩]
        · rw [if_neg hi, if_neg (fun z => hi ⟨(List.mem_cons.mp z.1).resolve_left fun q => e q.symm, z.2⟩)]
  refine ⟨by rw [restE_len, S.len, wipe_length], S.same, S.nod, S.inj, S.nB, S.fr, S.tr, fun i => ?_⟩
  rw [key vs (fun _ h => h) i]
  by_cases hi : i ∈ vs ∧ i < ρ.length
  · rw [if_pos hi]
    have z := S.slot i
    rw [he i hi.1] at z
    have z : o i = [] := z
    rw [z]
    exact hs i hi.1
  · rw [if_neg hi]
    by_cases hv : i ∈ vs
    · have z := S.slot i
      rw [he i hv] at z ⊢
      exact z
    · have z := S.slot i
      rw [wipe_out hv] at z
      exact z
end

def W0 : WX := fun _ _ _ _ => False
def noX {α : Type} (r : Res α) : Res α := match r with
  | .ok a ρ => .ok a ρ
  | _ => .bad
@[simp] theorem noX_ok {α : Type} {a : α} {ρ : Env} : noX (.ok a ρ) = .ok a ρ := id rfl
@[simp] theorem noX_exc {α : Type} {c : Str} {ρ : Env} : noX (.exc c ρ : Res α) = .bad := id rfl
@[simp] theorem noX_bad {α : Type} : noX (.bad : Res α) = .bad := id rfl
def lcL (vs : List Nat) (g : D → Env → Option Env) (t : Env → Res Bool) (e : Env → Res R) : List D → Env → List D → Res (List D)
  | [], ρ, acc => .ok acc ρ
  | d :: ds, ρ, acc => match g d ρ with
    | none => .bad
    | some ρ1 => bindR (noX (t ρ1)) fun b ρ2 => match b with
      | false => lcL vs g t e ds (wipeE ρ2 vs) acc
      | true => bindR (noX (e ρ2)) fun r ρ3 => if acc.length < 16777216 then lcL vs g t e ds (wipeE ρ3 vs) (acc ++ [r.toD]) else .bad
def eLc (vs : List Nat) (mi : Env → Res (List D)) (g : D → Env → Option Env) (t : Env → Res Bool) (e : Env → Res R) : Env → Res R := fun ρ => bindR (mi ρ) fun ds ρ1 =>
  if pureAt ρ1 vs = true then bindR (lcL vs g t e ds (wipeE ρ1 vs) []) fun xs ρ2 => .ok (.fresh (.lst xs)) (restE ρ2 ρ1 vs) else .bad

def exG (X : Cx) (ts : List Nat) (g : D → Env → Option Env) : TG := fun v σ H Q => ∃ C, tG X C W0 ts g v σ H Q
def exT (X : Cx) (t : Env → Res Bool) : TT := fun σ H Q => ∃ C, tV X C W0 RlB t σ H Q
def exE (X : Cx) (e : Env → Res R) : TE := fun σ H Q => ∃ C, tE X C W0 e σ H Q
def JTs (X : Cx) (C : Ctx) (W : WX) (ifs : List Expr) (t : Env → Res Bool) : Prop := PTs X ifs (tV X C W RlB t)
def tTrue : Env → Res Bool := fun ρ => .ok true ρ
theorem jts_nil {X : Cx} {C : Ctx} {W : WX} : JTs X C W [] tTrue := ⟨fun pins s σ H Q I ⟨ρ, o, S, q⟩ => pts_nil.run pins s σ H Q I (q true H o S (.refl _ _) rfl)⟩
theorem jts_one {X : Cx} {C : Ctx} {W : WX} {c : Expr} {t : Env → Res Bool} (h : JT X C W c t) : JTs X C W [c] t := pts_one h

theorem ix_app {α : Type} {l : List α} {i : Nat} (h : i < l.length) : l.drop i = l[i] :: l.drop (i + 1) := List.drop_eq_getElem_cons h
section
variable {X : Cx} {C : Ctx} {W : WX} {o o1 : Nat → List Addr} {σ : St} {H H1 : Hp}
/-- within the comprehension: the new list at D is forbidden ground -/
abbrev Ctx.mk1 (C : Ctx) (D : Addr) (acc : List V) : Ctx := { B := fun a => C.B a ∨ a ∈ [D], H0 := upd C.H0 D (.lst acc), bv := C.bv }
theorem lc_imp {vs : List Nat} {mi : Env → Res (List D)} {g : D → Env → Option Env} {t : Env → Res Bool} {e : Env → Res R} {ρ : Env} {Q : VK} (S : SRo X.K C o ρ σ H) (h : PoG (OkE X C o σ H Q) (ExP X C W o σ H) (eLc vs mi g t e ρ)) :
    tLc (tI X C W mi) (exG X vs g) (exT X t) (exE X e) vs σ H Q := by
  refine ⟨ρ, o, S, ?_⟩
  have h : PoG (OkE X C o σ H Q) (ExP X C W o σ H) (bindR (mi ρ) fun ds ρ1 => if pureAt ρ1 vs = true then bindR (lcL vs g t e ds (wipeE ρ1 vs) []) fun xs ρ2 => .ok (.fresh (.lst xs)) (restE ρ2 ρ1 vs) else .bad) := h
  cases em : mi ρ with
  | bad => rw [em] at h; exact h
  | exc c ρ1 => rw [em] at h; exact h
  | ok ds ρ1 =>
    rw [em, bindR_ok] at h
    intro J H1 o1 S1 t1 it Dl hD
    by_cases hp : pureAt ρ1 vs = true
    case neg => rw [if_neg hp] at h; exact h.elim
    rw [if_pos hp] at h
    obtain ⟨ow, Sw, lw⟩ := S1.wiped vs
    have nD : ∀ a, FF C.B o1 a → a ≠ Dl := fun a z q => S1.tr a z (q ▸ hD)
    have nD0 : C.H0 Dl = none := S1.same.free hD
    have sm1 : Same H1 (upd H1 Dl (.lst [])) := same_new hD
    -- the start
    have mk : ∀ {o2 : Nat → List Addr} {ρ2 : Env} {σ2 : St} {H2 : Hp} {accv accv' : List V} {H2' : Hp}, SRo X.K (C.mk1 Dl accv) o2 ρ2 σ2 H2 → H2' = upd H2 Dl (.lst accv') → H2 Dl = some (.lst accv) → SRo X.K (C.mk1 Dl accv') o2 ρ2 σ2 H2' ∧ Tx (FF (C.mk1 Dl accv).B o2) H2 (FF (C.mk1 Dl accv').B o2) H2' := by
      intro o2 ρ2 σ2 H2 accv accv' H2' S2 e2 hl
      have tt : Tx (FF (C.mk1 Dl accv).B o2) H2 (FF (C.mk1 Dl accv').B o2) H2' := fun a u n q => by
        have na : a ≠ Dl := fun z => n (.inl (.inr (by simp [z])))
        exact ⟨by rw [e2, upd_ne na]; exact q, n⟩
      refine ⟨⟨S2.len, fun b u q => ?_, S2.nod, S2.inj, S2.nB, fun i a ha => ?_, fun a z => ?_, fun i => ?_⟩, tt⟩
      · by_cases eb : b = Dl
        · rw [eb] at q ⊢
          have q : upd C.H0 Dl (.lst accv') Dl = some u := q
          rw [upd_same] at q
          rw [e2, upd_same]; exact q
        · have q : upd C.H0 Dl (.lst accv') b = some u := q
          rw [upd_ne eb] at q
          rw [e2, upd_ne eb]
          exact S2.same b u (by show upd C.H0 Dl (.lst accv) b = some u; rw [upd_ne eb]; exact q)
      · have ea : a ≠ Dl := fun z => S2.nB i a ha (.inr (by simp [z]))
        show upd C.H0 Dl (.lst accv') a = none
        rw [upd_ne ea]
        have := S2.fr i a ha
        have : upd C.H0 Dl (.lst accv) a = none := this
        rw [upd_ne ea] at this
        exact this
      · by_cases ea : a = Dl
        · rw [e2, ea, upd_same]; exact fun q => nomatch q
        · rw [e2, upd_ne ea]; exact S2.tr a z
      · exact (S2.slot i).tx tt fun a ha => by
          have ea : a ≠ Dl := fun z => S2.nB i a ha (.inr (by simp [z]))
          rw [e2, upd_ne ea]
    have S0 : SRo X.K (C.mk1 Dl []) ow (wipeE ρ1 vs) (wipe σ vs) (upd H1 Dl (.lst [])) := by
      have t0 : Tx (FF C.B ow) H1 (FF (C.mk1 Dl []).B ow) (upd H1 Dl (.lst [])) := .both sm1 fun a z => by
        rcases z with (z | z) | z
        · exact .inl (.inl z)
        · simp at z; rw [z]; exact .inr hD
        · exact .inl (.inr z)
      refine ⟨Sw.len, fun b u q => ?_, Sw.nod, Sw.inj, fun i a ha z => ?_, fun i a ha => ?_, fun a z => ?_, fun i => ?_⟩
      · by_cases eb : b = Dl
        · rw [eb] at q ⊢
          exact q ▸ (by show upd H1 Dl (.lst []) Dl = upd C.H0 Dl (.lst []) Dl; rw [upd_same, upd_same])
        · have q : upd C.H0 Dl (.lst []) b = some u := q
          rw [upd_ne eb] at q
          rw [upd_ne eb]; exact Sw.same b u q
      · rcases z with z | z
        · exact Sw.nB i a ha z
        · simp at z; exact nD a (lw a (.inr ⟨i, ha⟩)) z
      · have ea : a ≠ Dl := fun z => nD a (lw a (.inr ⟨i, ha⟩)) z
        show upd C.H0 Dl (.lst []) a = none
        rw [upd_ne ea]; exact Sw.fr i a ha
      · by_cases ea : a = Dl
        · rw [ea, upd_same]; exact fun q => nomatch q
        · rw [upd_ne ea]
          refine Sw.tr a ?_
          rcases z with (z | z) | z
          · exact .inl z
          · simp at z; exact absurd z ea
          · exact .inr z
      · exact (Sw.slot i).tx t0 fun a ha => upd_ne fun z => nD a (lw a (.inr ⟨i, ha⟩)) z
    have T0 : Tx (FF C.B o1) H1 (FF (C.mk1 Dl []).B ow) (upd H1 Dl (.lst [])) := .both sm1 fun a z => by
      rcases z with (z | z) | z
      · exact .inl (.inl z)
      · simp at z; rw [z]; exact .inr hD
      · exact .inl (lw a (.inr z))
    refine ⟨fun i n H2 => ∃ ρ2 o2 acc accv, SRo X.K (C.mk1 Dl accv) o2 ρ2 (wipe σ vs) H2 ∧ (∀ j ∈ vs, gS ρ2 j = .emp) ∧ ShA X.K (FF (C.mk1 Dl accv).B o2) H2 accv acc ∧ H2 Dl = some (.lst accv) ∧ Tx (FF C.B o1) H1 (FF (C.mk1 Dl accv).B o2) H2 ∧ i + n = ds.length ∧
      PoG (OkE X C o σ H Q) (ExP X C W o σ H) (bindR (lcL vs g t e (ds.drop i) ρ2 acc) fun xs ρ3 => .ok (.fresh (.lst xs)) (restE ρ3 ρ1 vs)), ⟨ds.length, wipeE ρ1 vs, ow, [], [], S0, fun j hj => wipeE_at hj, .nil, upd_same, T0, by omega, h⟩, ?_⟩
    rintro i n H2 ⟨ρ2, o2, acc, accv, S2, we, sa, eD, T2, en, h2⟩
    obtain ⟨stop, turn⟩ := it (FF (C.mk1 Dl accv).B o2) H2 T2 S2.tr
    by_cases hlt : i < ds.length
    · refine .inr ?_
      have ei : ds[i]? = some ds[i] := List.getElem?_eq_getElem hlt
      obtain ⟨go, yl⟩ := turn i ds[i] ei
      rw [List.drop_eq_getElem_cons hlt] at h2
      unfold lcL at h2
      refine ⟨go, fun H3 => ∃ ρ2 o2 acc accv, SRo X.K (C.mk1 Dl accv) o2 ρ2 (wipe σ vs) H3 ∧ (∀ j ∈ vs, gS ρ2 j = .emp) ∧ ShA X.K (FF (C.mk1 Dl accv).B o2) H3 accv acc ∧ H3 Dl = some (.lst accv) ∧ Tx (FF C.B o1) H1 (FF (C.mk1 Dl accv).B o2) H3 ∧
        PoG (OkE X C o σ H Q) (ExP X C W o σ H) (bindR (lcL vs g t e (ds.drop (i + 1)) ρ2 acc) fun xs ρ3 => .ok (.fresh (.lst xs)) (restE ρ3 ρ1 vs)),
        fun H3 ⟨a1, a2, a3, a4, a5, a6, a7, a8, a9, a10⟩ => ⟨n - 1, by omega, a1, a2, a3, a4, a5, a6, a7, a8, a9, by omega, a10⟩, fun x H3 hy => ?_⟩
      obtain ⟨sm, sx⟩ := yl x H3 hy
      cases e1 : g ds[i] ρ2 with
      | none => rw [e1] at h2; exact h2.elim
      | some ρ4 =>
        rw [e1] at h2
        dsimp only at h2
        refine ⟨C.mk1 Dl accv, ρ2, o2, ds[i], ρ4, S2.keep sm, sx, e1, fun σ5 H5 o5 dif S5 t5 => ⟨wipe_dif dif, C.mk1 Dl accv, ρ4, o5, S5, ?_⟩⟩
        have t6 : Tx (FF (C.mk1 Dl accv).B o2) H2 (FF (C.mk1 Dl accv).B o5) H5 := (Tx.same sm).trans t5
        cases e2 : t ρ4 with
        | bad => rw [e2] at h2; exact h2.elim
        | exc c ρ7 => rw [e2] at h2; exact h2.elim
        | ok b ρ7 =>
          rw [e2, noX_ok, bindR_ok] at h2
          intro v7 H7 o7 S7 t7 rl
          have rl : v7 = b := rl
          subst rl
          have keepD : ∀ {oo : Nat → List Addr} {rr : Env} {ss : St} {Hh : Hp}, SRo X.K (C.mk1 Dl accv) oo rr ss Hh → Hh Dl = some (.lst accv) := fun SS => SS.same Dl _ (by show upd C.H0 Dl (.lst accv) Dl = some (.lst accv); rw [upd_same])
          cases v7 with
          | false =>
            dsimp only at h2
            rw [if_neg Bool.false_ne_true]
            obtain ⟨o8, S8, l8⟩ := S7.wiped vs
            rw [wipe_dif dif] at S8
            have T8 : Tx (FF (C.mk1 Dl accv).B o2) H2 (FF (C.mk1 Dl accv).B o8) H7 := (t6.trans t7).trans (.less l8)
            exact ⟨_, o8, acc, accv, S8, fun j hj => wipeE_at hj, sa.tx T8, keepD S8, T2.trans T8, h2⟩
          | true =>
            dsimp only at h2
            rw [if_pos rfl]
            refine ⟨C.mk1 Dl accv, ρ7, o7, S7, ?_⟩
            cases e3 : e ρ7 with
            | bad => rw [e3] at h2; exact h2.elim
            | exc c ρ9 => rw [e3] at h2; exact h2.elim
            | ok r ρ9 =>
              rw [e3, noX_ok, bindR_ok] at h2
              refine OkE.of_val fun v9 H9 o9 S9 t9 s9 => ?_
              split at h2
              · rename_i hlen
                have T9 : Tx (FF (C.mk1 Dl accv).B o2) H2 (FF (C.mk1 Dl accv).B o9) H9 := (t6.trans t7).trans t9
                have hD9 := keepD S9
                obtain ⟨S10, T10⟩ := mk S9 (rfl : upd H9 Dl (.lst (accv ++ [v9])) = _) hD9
                obtain ⟨o11, S11, l11⟩ := S10.wiped vs
                rw [wipe_dif dif] at S11
                have T11 : Tx (FF (C.mk1 Dl accv).B o9) H9 (FF (C.mk1 Dl (accv ++ [v9])).B o11) (upd H9 Dl (.lst (accv ++ [v9]))) := T10.trans (.less l11)
                refine ⟨accv, hD9, by rw [sa.length]; exact line_lt hlen, _, o11, acc ++ [r.toD], accv ++ [v9], S11, fun j hj => wipeE_at hj, ((sa.tx T9).tx T11).append (.one (s9.tx T11)), upd_same, (T2.trans T9).trans T11, h2⟩
              · exact h2.elim
    · have e0 : i = ds.length := by omega
      subst e0
      rw [List.drop_length] at h2
      refine .inl ⟨stop, ?_⟩
      have h3 : OkE X C o σ H Q (.fresh (.lst acc)) (restE ρ2 ρ1 vs) := h2
      have S3 : SRo X.K (C.plus [Dl]) o2 ρ2 (wipe σ vs) H2 := ⟨S2.len, fun b u q => S2.same b u (by
        show upd C.H0 Dl (.lst accv) b = some u
        rw [upd_ne fun z => by rw [z, nD0] at q; cases q]; exact q), S2.nod, S2.inj, S2.nB, fun i a ha => by
          have ea : a ≠ Dl := fun z => S2.nB i a ha (.inr (by simp [z]))
          have q : upd C.H0 Dl (.lst accv) a = none := S2.fr i a ha
          rw [upd_ne ea] at q; exact q, S2.tr, S2.slot⟩
      refine h3 (.ref Dl) H2 o2 [Dl] (by simp) (fun a ha => by simp at ha; rw [ha]; exact nD0) (fun a ha z => by simp at ha; rw [ha] at z; exact nD Dl (.inl z) rfl) (S3.rest we fun j hj => ?_) (t1.trans T2) ⟨Dl, accv, rfl, rfl, eD, sa⟩
      have z := S1.slot j
      rcases pureAt_of hp hj with q | ⟨d, q⟩
      · rw [q]; rfl
      · rw [q] at z ⊢
        obtain ⟨z1, v, z2, z3⟩ := z
        exact ⟨rfl, v, z2, z3.tx T2⟩
variable {elt tg iter : Expr} {ifs : List Expr} {scope : Scope} {own : List (Str × Nat)} {pos : Pos} {mi : Env → Res (List D)} {g : D → Env → Option Env} {t : Env → Res Bool} {e : Env → Res R}
theorem je_lc (hc : X.calm = true) (hN : X.N.Nodup) (hi : JI X C W tg iter mi) (ok : BlkOk X.N X.env.scope scope own)
    (hg : ∀ (s : Shared) (H : Hp) (C0 : Addr) (cl : List (Str × Addr)) (fp : List Addr) (C' : Ctx), JG (X.blk s H scope (compEnvC scope cl C0 X.env) fp) C' W0 tg (own.map (·.2)) g)
    (ht : ∀ (s : Shared) (H : Hp) (C0 : Addr) (cl : List (Str × Addr)) (fp : List Addr) (C' : Ctx), JTs (X.blk s H scope (compEnvC scope cl C0 X.env) fp) C' W0 ifs t)
    (he : ∀ (s : Shared) (H : Hp) (C0 : Addr) (cl : List (Str × Addr)) (fp : List Addr) (C' : Ctx), JE (X.blk s H scope (compEnvC scope cl C0 X.env) fp) C' W0 elt e) (hs : ∀ x, foldedSetIterable iter X.env x = pure x := by intro _; rfl) :
    JE X C W (.ListComp elt [⟨tg, iter, ifs, 0⟩] scope pos) (eLc (own.map (·.2)) mi g t e) :=
  PE.imp (pe_lc (g := exG X (List.map (fun (x : Str × Nat) => x.2) own) g) (tt := exT X t) (te := exE X e) hc hN hi ok (fun s H C0 cl fp => ⟨fun pins s1 σ H1 v u Q I r ⟨C', q⟩ => (hg s H C0 cl fp C').run pins s1 σ H1 v u Q I r q⟩)
    (fun s H C0 cl fp => ⟨fun pins s1 σ H1 Q I ⟨C', q⟩ => (ht s H C0 cl fp C').run pins s1 σ H1 Q I q⟩) (fun s H C0 cl fp => ⟨fun pins s1 σ H1 Q I ⟨C', q⟩ => (he s H C0 cl fp C').run pins s1 σ H1 Q I q⟩) hs)
    fun σ H Q ⟨ρ, o, S, h⟩ => lc_imp S h
theorem js_setLc {i : Nat} {y : Str} {py spos : Pos} (hc : X.calm = true) (hN : X.N.Nodup) (hy : X.N[i]? = some y) (hyl : X.env.scope.names.lookup y = some .local)
    (hsw : swapsWith (.ListComp elt [⟨tg, iter, ifs, 0⟩] scope pos) (some (.Name y py)) spos.line X.env = pure true) (hi : JI X C W tg iter mi) (ok : BlkOk X.N X.env.scope scope own)
    (hg : ∀ (s : Shared) (H : Hp) (C0 : Addr) (cl : List (Str × Addr)) (fp : List Addr) (C' : Ctx), JG (X.blk s H scope (compEnvC scope cl C0 X.env) fp) C' W0 tg (own.map (·.2)) g)
    (ht : ∀ (s : Shared) (H : Hp) (C0 : Addr) (cl : List (Str × Addr)) (fp : List Addr) (C' : Ctx), JTs (X.blk s H scope (compEnvC scope cl C0 X.env) fp) C' W0 ifs t)
    (he : ∀ (s : Shared) (H : Hp) (C0 : Addr) (cl : List (Str × Addr)) (fp : List Addr) (C' : Ctx), JE (X.blk s H scope (compEnvC scope cl C0 X.env) fp) C' W0 elt e) (hs : ∀ x, foldedSetIterable iter X.env x = pure x := by intro _; rfl) :
    JS X C W (.Assign [.Name y py] (.ListComp elt [⟨tg, iter, ifs, 0⟩] scope pos) spos) (sAsg i (eLc (own.map (·.2)) mi g t e)) :=
  PS.imp (ps_setLc (g := exG X (List.map (fun (x : Str × Nat) => x.2) own) g) (tt := exT X t) (te := exE X e) hc hN hy hyl hsw hi ok (fun s H C0 cl fp => ⟨fun pins s1 σ H1 v u Q I r ⟨C', q⟩ => (hg s H C0 cl fp C').run pins s1 σ H1 v u Q I r q⟩)
    (fun s H C0 cl fp => ⟨fun pins s1 σ H1 Q I ⟨C', q⟩ => (ht s H C0 cl fp C').run pins s1 σ H1 Q I q⟩) (fun s H C0 cl fp => ⟨fun pins s1 σ H1 Q I ⟨C', q⟩ => (he s H C0 cl fp C').run pins s1 σ H1 Q I q⟩) hs)
    fun D σ H ⟨ρ, o, S, h⟩ => by
      obtain ⟨ρ0, o0, S0, h0⟩ := stepSE S h fun r ρ1 z => OkE.put (putR_ok z)
      exact lc_imp S0 h0
end
end Dn
set_option Elab.async false
set_option linter.all false
set_option maxRecDepth 100000
set_option maxHeartbeats 1000000
/-! Dn5: calls of defs, a def's promise, raise -/
namespace Dn
open PySem L2
open PyProof.Rows (envOfC)

/-! ### a def as a function of its arguments' slots -/
/-- what the caller sees of the arguments' slots behind the call: what it lent, with its new content -/
def backA : Env → Env → Option Env
  | [], _ => some []
  | .bor _ :: as, .bor c :: r => (backA as r).map (.bor c :: ·)
  | .val d :: as, _ :: r => (backA as r).map (.val d :: ·)
  | _, _ => none
def mkF (n m : Nat) (b : Env → SR) : Env → Res R := fun args => if args.length = n then
    match b (args ++ List.replicate (m - n) .emp) with
    | .ret r ρ => match backA args ρ with | some a => .ok r a | none => .bad
    | .nx ρ => match backA args ρ with | some a => .ok (.val .none) a | none => .bad
    | .exc c ρ => match backA args ρ with | some a => .exc c a | none => .bad
    | _ => .bad
  else .bad
section
variable (K : PySem.W.Frag) (mg : Str → Option Value) (C : Ctx) (o : Nat → List Addr) (σ : St) (H : Hp)
def OkK (Q : VK) (r : R) (ρ : Env) : Prop := match r with
  | .val d => ∀ v H' o', SRo K C o' ρ σ H' → Tx (FF C.B o) H (FF C.B o') H' → Sh K (FF C.B o') H' v d → Q v H'
  | .fresh c => ∀ v H' o' as, as.Nodup → (∀ a ∈ as, C.H0 a = none) → (∀ a ∈ as, ¬ C.B a) → SRo K (C.plus as) o' ρ σ H' → Tx (FF C.B o) H (FF (C.plus as).B o') H' → CR K (FF (C.plus as).B o') H' as v c → Q v H'
def ExK (E : XK) (c : Str) (ρ : Env) : Prop := ∀ H' o', SRo K C o' ρ σ H' → Tx (FF C.B o) H (FF C.B o') H' → ∀ A, mg c = some (.ref A) → E (.ref A) none H'
end
/-- a def's promise -/
def spG (K : PySem.W.Frag) (mg : Str → Option Value) (n : Nat) (f : Env → Res R) : Sp := fun vs H Q E => vs.length = n ∧ ∃ C o ρ, (∀ i v, vs[i]? = some v → C.bv i = v) ∧ SRo K C o ρ (vs.map some) H ∧
  PoG (OkK K C o (vs.map some) H Q) (ExK K mg C o (vs.map some) H E) (f ρ)

theorem gS_app : ∀ (ρ : Env) (n i : Nat), gS (ρ ++ List.replicate n .emp) i = gS ρ i
  | [], n, i => by
    show gS (List.replicate n .emp) i = .emp
    induction n generalizing i with
    | zero => rfl
    | succ n ih => cases i with
      | zero => rfl
      | succ i => exact ih i
  | s :: r, n, 0 => rfl
  | s :: r, n, i + 1 => gS_app r n i
section
variable {K : PySem.W.Frag} {mg : Str → Option Value} {C C' : Ctx} {o o' : Nat → List Addr} {ρ ρ' : Env} {σ σ' : St} {H H' : Hp}
theorem SRo.start (S : SRo K C o ρ σ H) (n : Nat) : SRo K C o (ρ ++ List.replicate n .emp) (σ ++ List.replicate n none) H where
  len := by rw [List.length_append, List.length_append, List.length_replicate, List.length_replicate, S.len]
  same := S.same
  nod := S.nod
  inj := S.inj
  nB := S.nB
  fr := S.fr
  tr := S.tr
  slot := fun i => by
    rw [gS_app]
    by_cases hi : i < σ.length
    · rw [List.getElem?_append_left hi]; exact S.slot i
    · have z := S.slot i
      rw [gS_out (by rw [S.len]; omega)] at z ⊢
      exact z
theorem backA_at : ∀ {as r b : Env}, backA as r = some b → b.length = as.length ∧ ∀ i, (gS as i = .emp ∧ gS b i = .emp) ∨ (∃ d, gS as i = .val d ∧ gS b i = .val d) ∨ ∃ c c', gS as i = .bor c ∧ gS b i = .bor c' ∧ gS r i = .bor c'
  | [], r, b, h => by
    cases h
    exact ⟨rfl, fun i => .inl ⟨rfl, rfl⟩⟩
  | .emp :: as, r, b, h => by simp [backA] at h
  | .own c :: as, r, b, h => by simp [backA] at h
  | .val d :: as, [], b, h => by simp [backA] at h
  | .bor c :: as, [], b, h => by simp [backA] at h
  | .val d :: as, s :: r, b, h => by
    simp only [backA, Option.map_eq_some_iff] at h
    obtain ⟨b', h', rfl⟩ := h
    obtain ⟨l, q⟩ := backA_at h'
    refine ⟨by simp [l], fun i => ?_⟩
    cases i with
    | zero => exact .inr (.inl ⟨d, rfl, rfl⟩)
    | succ i => exact q i
  | .bor c :: as, .emp :: r, b, h => by simp [backA] at h
  | .bor c :: as, .val _ :: r, b, h => by simp [backA] at h
  | .bor c :: as, .own _ :: r, b, h => by simp [backA] at h
  | .bor c :: as, .bor c' :: r, b, h => by
    simp only [backA, Option.map_eq_some_iff] at h
    obtain ⟨b', h', rfl⟩ := h
    obtain ⟨l, q⟩ := backA_at h'
    refine ⟨by simp [l], fun i => ?_⟩
    cases i with
    | zero => exact .inr (.inr ⟨c, c', rfl, rfl, rfl⟩)
    | succ i => exact q i
/-- at a def's end: the arguments' slots alone -/
theorem SRo.back {vs : List V} {as b : Env} (S : SRo K C o as (vs.map some) H) (hbv : ∀ i v, vs[i]? = some v → C.bv i = v) (S' : SRo K C' o' ρ' σ' H') (e : C'.bv = C.bv) (t : Tx (FF C.B o) H (FF C'.B o') H') (h : backA as ρ' = some b) :
    ∃ o2, SRo K C' o2 b (vs.map some) H' ∧ ∀ a, FF C'.B o2 a → FF C'.B o' a := by
  obtain ⟨hl, hb⟩ := backA_at h
  refine ⟨fun i => match gS b i with | .bor _ => o' i | _ => [], ?_, ?_⟩
  · have sub : ∀ i a, a ∈ (match gS b i with | .bor _ => o' i | _ => []) → a ∈ o' i := fun i a ha => by
      split at ha
      · exact ha
      · cases ha
    have le : ∀ a, FF C'.B (fun i => match gS b i with | .bor _ => o' i | _ => []) a → FF C'.B o' a := fun a z => z.elim .inl fun ⟨i, q⟩ => .inr ⟨i, sub i a q⟩
    refine ⟨by rw [hl]; exact S.len, S'.same, fun i => ?_, fun i j a h1 h2 => S'.inj i j a (sub i a h1) (sub j a h2), fun i a h1 => S'.nB i a (sub i a h1), fun i a h1 => S'.fr i a (sub i a h1), fun a z => S'.tr a (le a z), fun i => ?_⟩
    · show (match gS b i with | .bor _ => o' i | _ => []).Nodup
      split
      · exact S'.nod i
      · exact List.nodup_nil
    · show SlR K _ H' (match gS b i with | .bor _ => o' i | _ => []) _ _ _
      rcases hb i with ⟨h1, h2⟩ | ⟨d, h1, h2⟩ | ⟨c, c', h1, h2, h3⟩
      · rw [h2]; rfl
      · have z := S.slot i
        rw [h1] at z
        rw [h2]
        obtain ⟨_, v, ev, sh⟩ := z
        exact ⟨rfl, v, ev, (sh.tx t).tx (.less le)⟩
      · have z := S'.slot i
        have z0 := S.slot i
        rw [h1] at z0
        rw [h3] at z
        rw [h2]
        refine ⟨?_, z.2.tx (.less le) fun _ _ => rfl⟩
        rw [e]
        exact z0.1
  · intro a z
    exact z.elim .inl fun ⟨i, q⟩ => .inr ⟨i, by
      dsimp only at q
      split at q
      · exact q
      · cases q⟩
end
section
variable {P : Program} {w : World} {K : PySem.W.Frag} {mg : Str → Option Value} {base : Heap}
/-- THE RULE for a def -/
theorem fn_ok {x qual : Str} {st : Stmt} {f : Addr} {fd : FuncData} {N ps : List Str} {k : Nat} {body : Env → SR} (F : Fun K x qual st f fd) (S : FnScope N ps (defScope st))
    (hb : ∀ (cdv : Value) (A : Around) (outer : List PySem.Env) (s : Shared) (H : Hp) (E : XK) (C : Ctx), Room k (A.deeper (envOfC qual (defScope st) s.heap.objs.size f cdv)) →
      JSs (cxOf (L2.CX P w) P w K mg base N qual (defScope st) f cdv A outer s H E) C (fun cls d _ H => E cls d H) (defBody st) body) :
    FnOk P w K mg base (L2.CX P w) (k + 1) f fd ps (spG K mg ps.length (mkF ps.length N.length body)) := by
  refine F.okX S (fun vs H Q E h => h.1) (fun cdv A outer s H vs Q E hr h => ?_)
  obtain ⟨hl, C, o, ρ, hbv, S0, h⟩ := h
  refine ⟨_, hb cdv A outer s H E C hr, ρ ++ List.replicate (N.length - vs.length) Sl.emp, o, S0.start (N.length - vs.length), ?_⟩
  unfold mkF at h
  have hρ : ρ.length = vs.length := by rw [S0.len, List.length_map]
  rw [if_pos (by rw [hρ, hl])] at h
  rw [← hl] at h
  cases e : body (ρ ++ List.replicate (N.length - vs.length) .emp) with
  | bad => rw [e] at h; exact h
  | brk ρ' => rw [e] at h; exact h.elim
  | cnt ρ' => rw [e] at h; exact h.elim
  | nx ρ' =>
    rw [e] at h
    dsimp only at h
    cases eb : backA ρ ρ' with
    | none => rw [eb] at h; exact h.elim
    | some a =>
      rw [eb] at h
      intro σ' H' o' S' t
      obtain ⟨o2, S2, l2⟩ := S0.back hbv S' rfl t eb
      exact h .non H' o2 S2 (t.trans (.less l2)) .non
  | exc c ρ' =>
    rw [e] at h
    dsimp only at h
    cases eb : backA ρ ρ' with
    | none => rw [eb] at h; exact h.elim
    | some a =>
      rw [eb] at h
      intro σ' H' o' S' t
      obtain ⟨o2, S2, l2⟩ := S0.back hbv S' rfl t eb
      exact h H' o2 S2 (t.trans (.less l2))
  | ret r ρ' =>
    rw [e] at h
    dsimp only at h
    cases eb : backA ρ ρ' with
    | none => rw [eb] at h; exact h.elim
    | some a =>
      rw [eb] at h
      intro σ'
      cases r with
      | val d =>
        intro v H' o' S' t s
        obtain ⟨o2, S2, l2⟩ := S0.back hbv S' rfl t eb
        exact h v H' o2 S2 (t.trans (.less l2)) (s.tx (.less l2))
      | fresh c =>
        intro v H' o' as nd h0 nB S' t cr
        obtain ⟨o2, S2, l2⟩ := S0.back hbv S' rfl t eb
        exact h v H' o2 as nd h0 nB S2 (t.trans (.less l2)) (cr.tx (.less l2) fun _ _ => rfl)
end

/-! ### calls: arguments by value -/
section
variable {X : Cx} {C : Ctx} {W : WX} {o o1 : Nat → List Addr} {σ : St} {H H1 : Hp} {e : Expr} {es : List Expr} {pos p : Pos} {x : Str}
def vals (ds : List D) : Env := ds.map .val
theorem gS_vals : ∀ (ds : List D) (i : Nat), gS (vals ds) i = match ds[i]? with | some d => .val d | none => .emp
  | [], i => rfl
  | d :: ds, 0 => rfl
  | d :: ds, i + 1 => by
    show gS (vals ds) i = _
    rw [gS_vals ds i, List.getElem?_cons_succ]
theorem SRo.vals {K : PySem.W.Frag} {F : Addr → Prop} {vs : List V} {ds : List D} {H : Hp} (tr : ∀ a, F a → H a ≠ none) (s : ShA K F H vs ds) (bv : Nat → V) : SRo K ⟨F, H, bv⟩ (fun _ => []) (Dn.vals ds) (vs.map some) H where
  len := by rw [Dn.vals, List.length_map, List.length_map, s.length]
  same := .refl H
  nod := fun _ => List.nodup_nil
  inj := fun _ _ _ h => by cases h
  nB := fun _ _ h => by cases h
  fr := fun _ _ h => by cases h
  tr := fun a z => tr a (z.elim id fun ⟨_, q⟩ => by cases q)
  slot := fun i => by
    rw [gS_vals]
    cases e : ds[i]? with
    | none => rfl
    | some d =>
      obtain ⟨v, ev, sh⟩ := s.get e
      exact ⟨rfl, v, by rw [List.getElem?_map, ev]; rfl, sh.tx (.less fun a z => z.elim id fun ⟨_, q⟩ => by cases q)⟩
theorem OkK.of_new {K : PySem.W.Frag} {F : Addr → Prop} {bv : Nat → V} {H : Hp} {σ : St} {Q : VK} {r : R} {ρ : Env} (h : NewOk K F H Q r) : OkK K ⟨F, H, bv⟩ (fun _ => []) σ H Q r ρ := by
  cases r with
  | val d => exact fun v H' o' S' t s => h v H' S'.same (s.tx (.less fun a z => .inl z))
  | fresh c =>
    intro v H' o' as nd h0 nB S' t cr
    exact h v H' as S'.same nd h0 (fun a ha => S'.tr a (.inl (.inr ha))) (cr.tx (.less fun a z => .inl z) fun _ _ => rfl)
def eCall (n : Nat) (f : Env → Res R) (m : Env → Res (List D)) : Env → Res R := fun ρ => bindR (m ρ) fun ds ρ1 => if ds.length = n then
    match f (vals ds) with
    | .ok r _ => .ok r ρ1
    | .exc c _ => .exc c ρ1
    | .bad => .bad
  else .bad
theorem je_call {k n : Nat} {f : Addr} {fd : FuncData} {ps : List Str} {den : Env → Res R} {m : Env → Res (List D)} (F : FnOk X.prog X.w X.K X.mg X.base (L2.CX X.prog X.w) k f fd ps (spG X.K X.mg n den)) (hr : Room k X.A) (hm : X.mg x = some (.ref f)) (hk : PySem.W.keepIn X.K (.ref f) = true) (hb : Binds X.K fd ps []) (tk : Takes X W)
    (ha : JA X C W (e :: es) m) (hg : Gl X x) (hdb : (x == ("__debug__" : Str)) = false := by decide) (he : starEach (e :: es) X.env = (false, eval e X.env) :: starEach es X.env := by rfl) (hpl : (backTo pos (starEach es X.env)).any (·.1) = false := by rfl) :
    JE X C W (.Call (.Name x p) (e :: es) [] pos) (eCall n den m) := PE.imp (pe_callS F hr hg hm hk hb (fun σ => passAt tk σ) ha hdb he hpl) fun σ H Q ⟨ρ, o, S, h⟩ => by
  obtain ⟨ρ0, o0, S0, h0⟩ := stepE (Rl := ShA X.K) S h
  refine ⟨ρ0, o0, S0, h0.imp (fun d ρ1 z v H1 o1 S1 t1 s1 => ?_) fun _ _ z => z⟩
  obtain ⟨ρ1', o1', d', S1', T1, s1', q1⟩ := z v H1 o1 S1 t1 s1
  split at q1
  · rename_i hl
    refine ⟨by rw [s1'.length]; exact hl, ⟨FF C.B o1', H1, fun i => v.getD i .non⟩, fun _ => [], vals d', fun i w e => by show v.getD i .non = w; rw [List.getD_eq_getElem?_getD, e]; rfl, SRo.vals S1'.tr s1' _, ?_⟩
    cases ef : den (vals d') with
    | bad => rw [ef] at q1; exact q1.elim
    | exc c ρ' =>
      rw [ef] at q1
      intro H' o' S' t A hA
      exact q1 H' o1' (S1'.keep S'.same) (.same S'.same) A hA
    | ok r ρ' =>
      rw [ef] at q1
      exact OkK.of_new (newOk S1' q1)
  · exact q1.elim

/-! ### raise -/
def sRaise (c : Str) : Env → SR := fun ρ => .exc c ρ
theorem js_raise {msg : Str} {j : Nat} {p2 pos2 : Pos} {A : Addr} {bmB : List Value} {B newId initId : String} (hc : X.calm = true) (tk : Takes X W) (Fb : ExcBaseFacts B newId initId bmB) (q : PySem.W.excIn X.K A bmB newId = true) (gC : X.mg x = some (.ref A)) (kC : PySem.W.keepIn X.K (.ref A) = true) (r : Raises X (.ref A)) (hg : Gl X x)
    (hdb : (x == ("__debug__" : Str)) = false := by decide) : JS X C W (.Raise (some (.Call (.Name x p) [.Constant (.str msg) j p2] [] pos)) none pos2) (sRaise x) :=
  PS.imp (ps_raise hc tk (pmk_own Fb q gC kC r hg hdb)) fun D σ H ⟨ρ, o, S, h⟩ => h σ H o S (.refl _ _) A gC
end
end Dn
set_option Elab.async false
set_option linter.all false
set_option maxRecDepth 100000
set_option maxHeartbeats 2000000
/-! Dn6: primitive operations on data -/
namespace Dn
open PySem L2

section
variable {X : Cx} {pins : List (Addr × Obj)} {σ : St} {H : Hp} {s : Shared}
/-- list + list, any two that are read -/
theorem op_catR : OpR X (binaryOp .Add) (fun x y H Q => ∃ l b xs zs, x = .ref l ∧ y = .ref b ∧ SqL X.K H l xs ∧ SqL X.K H b zs ∧ xs.length + zs.length ≤ sizeLine ∧ ∀ p, H p = none → Q (.ref p) (upd H p (.lst (xs ++ zs)))) := by
  intro pins s σ H x y v u Q I rx ry h
  obtain ⟨l, b, xs, zs, rfl, rfl, hH, hB, hz, q⟩ := h
  cases rx
  cases ry
  obtain ⟨its, r, pl, _⟩ := I.list hH
  obtain ⟨its2, r2, pl2, _⟩ := I.list hB
  have hl := r.length
  have hl2 := r2.length
  obtain ⟨⟨cls, dd, data, sl⟩, ho, hc, n, hd⟩ := pl.isList
  obtain ⟨⟨cls2, dd2, data2, sl2⟩, ho2, hc2, n2, hd2⟩ := pl2.isList
  simp only at hc hd hc2 hd2
  subst hc hd hc2 hd2
  have e : its.toArray ++ its2.toArray = (its ++ its2).toArray := by simp
  refine PySem.concat_meets ⟨_, ho, rfl⟩ ⟨_, ho2, rfl⟩ PySem.noFill_list_add PySem.seq_list_add PySem.F.slot_list_add PySem.F.entry_list_add (PySem.F.args_list_add_2 _ _) (PyProof.Rows.list_addW l b its.toArray its2.toArray n n2 dd dd2 sl sl2 (by rw [List.size_toArray, List.size_toArray]; omega)) ⟨ho, ho2, ?_⟩
  rw [e]
  exact ⟨.ref _, _, I.lnew (t' := s.toks) (r.append r2) (by rw [List.length_append]; omega), rfl, q _ I.fresh⟩
end
theorem Sh.L {K : PySem.W.Frag} {F : Addr → Prop} {H : Hp} {v : V} {ds : List D} (h : Sh K F H v (.list ds)) : ∃ a xs, v = .ref a ∧ SqL K H a xs ∧ ShA K F H xs ds := by
  cases h with
  | lst h s => exact ⟨_, _, rfl, h.elim (fun z => .inl z.2) .inr, s⟩
theorem Sh.T {K : PySem.W.Frag} {F : Addr → Prop} {H : Hp} {v : V} {ds : List D} (h : Sh K F H v (.tuple ds)) : ∃ a xs, v = .ref a ∧ SqT K H a xs ∧ ShA K F H xs ds := by
  cases h with
  | tup h s => exact ⟨_, _, rfl, h.elim (fun z => .inl z.2) .inr, s⟩
theorem Sh.cases {K : PySem.W.Frag} {F : Addr → Prop} {H : Hp} {v : V} {d : D} (h : Sh K F H v d) : (d = .none ∧ v = .non) ∨ (∃ b, d = .bool b ∧ v = .bl b) ∨ (∃ i, d = .int i ∧ v = .int i) ∨ (∃ x, d = .str x ∧ v = .str x) ∨ (∃ ds a, d = .list ds ∧ v = .ref a) ∨ (∃ ds a, d = .tuple ds ∧ v = .ref a) ∨ ∃ ds a, d = .dict ds ∧ v = .ref a := by
  cases h with
  | non => exact .inl ⟨rfl, rfl⟩
  | bl b => exact .inr (.inl ⟨b, rfl, rfl⟩)
  | int i => exact .inr (.inr (.inl ⟨i, rfl, rfl⟩))
  | str x => exact .inr (.inr (.inr (.inl ⟨x, rfl, rfl⟩)))
  | lst h s => exact .inr (.inr (.inr (.inr (.inl ⟨_, _, rfl, rfl⟩))))
  | tup h s => exact .inr (.inr (.inr (.inr (.inr (.inl ⟨_, _, rfl, rfl⟩)))))
  | dic n r s => exact .inr (.inr (.inr (.inr (.inr (.inr ⟨_, _, rfl, rfl⟩)))))

/-! ### numbers -/
abbrev I' (i : Int) : R := .val (.int i)
abbrev B' (b : Bool) : R := .val (.bool b)
def fAdd : D → D → Option R
  | .int i, .int j => some (.val (.int (i + j)))
  | .str x, .str y => if x.length + y.length ≤ 16777216 then some (.val (.str (x ++ y))) else none
  | .list xs, .list ys => if xs.length + ys.length ≤ 16777216 then some (.fresh (.lst (xs ++ ys))) else none
  | .tuple xs, .tuple ys => if xs.length + ys.length ≤ 16777216 then some (.val (.tuple (xs ++ ys))) else none
  | _, _ => none
def fSub : D → D → Option R
  | .int i, .int j => some (.val (.int (i - j)))
  | _, _ => none
def mulOk (i j : Int) : Bool := decide (i.natAbs.log2 + j.natAbs.log2 < 1000000) || decide (-(2 ^ 64) < i ∧ i < 2 ^ 64) || decide (-(2 ^ 64) < j ∧ j < 2 ^ 64)
def fMul : D → D → Option R
  | .int i, .int j => if mulOk i j = true then some (.val (.int (i * j))) else none
  | _, _ => none
def divOk (j : Int) : Bool := decide (j ≠ 0 ∧ j.natAbs < 1073741824) || decide (0 < j ∧ j.natAbs.log2 < 9000)
def zdiv (i j : Int) : Int := i.fdiv j
def zmod (i j : Int) : Int := i.fmod j
def fFdiv : D → D → Option R
  | .int i, .int j => if divOk j = true then some (.val (.int (zdiv i j))) else none
  | _, _ => none
def fMod : D → D → Option R
  | .int i, .int j => if j ≠ 0 then some (.val (.int (zmod i j))) else none
  | _, _ => none
def fPow : D → D → Option R
  | .int i, .int j => if 0 ≤ j ∧ j ≤ 1000000 ∧ i.natAbs < 2 ^ 64 then some (.val (.int (i ^ j.toNat))) else none
  | _, _ => none
def fNeg : D → Option R
  | .int i => some (.val (.int (-i)))
  | _ => none
theorem zdiv_pos {i j : Int} (h : 0 < j) : zdiv i j = i / j := Int.fdiv_eq_ediv_of_nonneg i (Int.le_of_lt h)
theorem zmod_pos {i j : Int} (h : 0 < j) : zmod i j = i % j := Int.fmod_eq_emod_of_nonneg i (Int.le_of_lt h)
section
variable {X : Cx}
theorem od_add : OpR X (binaryOp .Add) (rD2 X.K fAdd) := by
  intro pins s σ H x y v u Q I rx ry h
  obtain ⟨F, d, e, r, tr, sx, sy, er, q⟩ := h
  unfold fAdd at er
  split at er
  · cases er
    rw [sx.ofInt] at rx
    rw [sy.ofInt] at ry
    exact op_add pins s σ H _ _ v u Q I rx ry ⟨_, _, rfl, rfl, q _ _ (.refl H) (.int _)⟩
  · split at er
    · rename_i hl
      cases er
      rw [sx.ofStr] at rx
      rw [sy.ofStr] at ry
      exact op_add_str pins s σ H _ _ v u Q I rx ry ⟨_, _, rfl, rfl, line_of hl, q _ _ (.refl H) (.str _)⟩
    · cases er
  · split at er
    · rename_i hl
      cases er
      obtain ⟨a, xs, rfl, ra, sa⟩ := sx.L
      obtain ⟨b, ys, rfl, rb, sb⟩ := sy.L
      exact op_catR pins s σ H _ _ v u Q I rx ry ⟨a, b, xs, ys, rfl, rfl, ra, rb, by rw [sa.length, sb.length]; exact line_of hl, new_lst tr (sa.append sb) q⟩
    · cases er
  · split at er
    · rename_i hl
      cases er
      obtain ⟨a, xs, rfl, ra, sa⟩ := sx.T
      obtain ⟨b, ys, rfl, rb, sb⟩ := sy.T
      refine op_catA pins s σ H _ _ v u Q I rx ry ⟨a, b, xs, ys, rfl, rfl, ra, rb, by rw [sa.length, sb.length]; exact line_of hl, fun e => ?_, fun _ e => ?_, fun _ _ => new_tup tr (sa.append sb) q⟩
      · subst e
        cases sa
        exact q _ _ (.refl H) sy
      · subst e
        cases sb
        refine q _ _ (.refl H) ?_
        rw [List.append_nil]
        exact sx
    · cases er
  · cases er
theorem od_sub : OpR X (binaryOp .Sub) (rD2 X.K fSub) := by
  intro pins s σ H x y v u Q I rx ry h
  obtain ⟨F, d, e, r, tr, sx, sy, er, q⟩ := h
  unfold fSub at er
  split at er
  · cases er
    rw [sx.ofInt] at rx
    rw [sy.ofInt] at ry
    exact op_sub pins s σ H _ _ v u Q I rx ry ⟨_, _, rfl, rfl, q _ _ (.refl H) (.int _)⟩
  · cases er
theorem od_mul : OpR X (binaryOp .Mult) (rD2 X.K fMul) := by
  intro pins s σ H x y v u Q I rx ry h
  obtain ⟨F, d, e, r, tr, sx, sy, er, q⟩ := h
  unfold fMul at er
  split at er
  · split at er
    · rename_i hm
      cases er
      rw [sx.ofInt] at rx
      rw [sy.ofInt] at ry
      unfold mulOk at hm
      simp only [Bool.or_eq_true, decide_eq_true_eq] at hm
      rcases hm with (hm | hm) | hm
      · exact op_mulW pins s σ H _ _ v u Q I rx ry ⟨_, _, rfl, rfl, hm, q _ _ (.refl H) (.int _)⟩
      · exact op_mul pins s σ H _ _ v u Q I rx ry ⟨_, _, rfl, rfl, .inl hm, q _ _ (.refl H) (.int _)⟩
      · exact op_mul pins s σ H _ _ v u Q I rx ry ⟨_, _, rfl, rfl, .inr hm, q _ _ (.refl H) (.int _)⟩
    · cases er
  · cases er
theorem od_fdiv : OpR X (binaryOp .FloorDiv) (rD2 X.K fFdiv) := by
  intro pins s σ H x y v u Q I rx ry h
  obtain ⟨F, d, e, r, tr, sx, sy, er, q⟩ := h
  unfold fFdiv at er
  split at er
  · split at er
    · rename_i hm
      cases er
      rw [sx.ofInt] at rx
      rw [sy.ofInt] at ry
      unfold divOk at hm
      simp only [Bool.or_eq_true, decide_eq_true_eq] at hm
      rcases hm with hm | hm
      · exact op_fdivN pins s σ H _ _ v u Q I rx ry ⟨_, _, rfl, rfl, hm, q _ _ (.refl H) (.int _)⟩
      · refine op_fdivW pins s σ H _ _ v u Q I rx ry ⟨_, _, rfl, rfl, hm, ?_⟩
        rw [zdiv_pos hm.1] at q
        exact q _ _ (.refl H) (.int _)
    · cases er
  · cases er
theorem od_mod : OpR X (binaryOp .Mod) (rD2 X.K fMod) := by
  intro pins s σ H x y v u Q I rx ry h
  obtain ⟨F, d, e, r, tr, sx, sy, er, q⟩ := h
  unfold fMod at er
  split at er
  · split at er
    · rename_i hm
      cases er
      rw [sx.ofInt] at rx
      rw [sy.ofInt] at ry
      exact op_modN pins s σ H _ _ v u Q I rx ry ⟨_, _, rfl, rfl, hm, q _ _ (.refl H) (.int _)⟩
    · cases er
  · cases er
theorem od_pow : OpR X (binaryOp .Pow) (rD2 X.K fPow) := by
  intro pins s σ H x y v u Q I rx ry h
  obtain ⟨F, d, e, r, tr, sx, sy, er, q⟩ := h
  unfold fPow at er
  split at er
  · split at er
    · rename_i hm
      cases er
      rw [sx.ofInt] at rx
      rw [sy.ofInt] at ry
      exact op_pow pins s σ H _ _ v u Q I rx ry ⟨_, _, rfl, rfl, hm, q _ _ (.refl H) (.int _)⟩
    · cases er
  · cases er
theorem ud_neg : UnR X (unaryOp .USub) (rD1 X.K fNeg) := by
  intro pins s σ H x v Q I rx h
  obtain ⟨F, d, r, tr, sx, er, q⟩ := h
  unfold fNeg at er
  split at er
  · cases er
    rw [sx.ofInt] at rx
    exact un_neg pins s σ H _ v Q I rx ⟨_, rfl, q _ _ (.refl H) (.int _)⟩
  · cases er
end

/-! ### comparisons -/
def vOf : D → V
  | .none => .non
  | .bool b => .bl b
  | .int i => .int i
  | .str x => .str x
  | _ => .ty ""
def eqOk (x y : D) : Bool := scal (vOf x) (vOf y) || (SeqAt.shaped x && SeqAt.shaped y)
def fEq (x y : D) : Option R := if eqOk x y = true then some (.val (.bool (PyData.eqv x y))) else none
def fNe (x y : D) : Option R := if eqOk x y = true then some (.val (.bool (!PyData.eqv x y))) else none
def cmpI (p : Int → Int → Bool) : D → D → Option R
  | .int i, .int j => some (.val (.bool (p i j)))
  | _, _ => none
def fLt : D → D → Option R := cmpI fun i j => decide (i < j)
def fLe : D → D → Option R := cmpI fun i j => decide (i ≤ j)
def fGt : D → D → Option R := cmpI fun i j => decide (j < i)
def fGe : D → D → Option R := cmpI fun i j => decide (j ≤ i)
def isNon : D → Bool
  | .none => true
  | _ => false
def fIs (x y : D) : Option R := if isNon y = true then some (.val (.bool (isNon x))) else none
def fIsNot (x y : D) : Option R := if isNon y = true then some (.val (.bool (!isNon x))) else none
mutual
theorem Sh.noD {K : PySem.W.Frag} {F : Addr → Prop} {H : Hp} : ∀ (d : D) (v : V), Sh K F H v d → PyData.canLay0 d = true → Dp K H v d
  | .none, _, .non, _ => .non
  | .bool b, _, .bl _, _ => .bl b
  | .int i, _, .int _, _ => .int i
  | .str x, _, .str _, _ => .str x
  | .list ds, _, .lst r s, h => .lst (r.elim (fun z => .inl z.2) .inr) (ShA.noD ds _ s (by simpa [PyData.canLay0] using h))
  | .tuple ds, _, .tup r s, h => .tup (r.elim (fun z => .inl z.2) .inr) (ShA.noD ds _ s (by simpa [PyData.canLay0] using h))
  | .dict ds, _, .dic _ _ _, h => by simp [PyData.canLay0] at h
theorem ShA.noD {K : PySem.W.Frag} {F : Addr → Prop} {H : Hp} : ∀ (ds : List D) (vs : List V), ShA K F H vs ds → PyData.canLayAll0 ds = true → DpAll K H vs ds
  | [], _, .nil, _ => .nil
  | d :: ds, _, .cons h s, q => .cons (Sh.noD d _ h (by simp [PyData.canLayAll0] at q; exact q.1)) (ShA.noD ds _ s (by simp [PyData.canLayAll0] at q; exact q.2))
end

theorem vOf_sh {K : PySem.W.Frag} {F : Addr → Prop} {H : Hp} {v w : V} {d e : D} (h : Sh K F H v d) (h' : Sh K F H w e) (q : scal (vOf d) (vOf e) = true) : v = vOf d ∧ w = vOf e := by
  constructor
  · cases h <;> first | rfl | (simp [vOf, scal] at q)
  · cases h' <;> first | rfl | (cases d <;> simp [vOf, scal] at q)
theorem eqv_sc {d e : D} (q : scal (vOf d) (vOf e) = true) : decide (vOf d = vOf e) = PyData.eqv d e := by
  cases d <;> cases e <;> simp [vOf, scal, PyData.eqv] at q ⊢
  all_goals (rw [Bool.eq_iff_iff]; simp)
section
variable {X : Cx}
theorem od_eq (hu : X.A.units + 64 < cLine) : OpR X (compareOp .Eq) (rD2 X.K fEq) := by
  intro pins s σ H x y v u Q I rx ry h
  obtain ⟨F, d, e, r, tr, sx, sy, er, q⟩ := h
  unfold fEq at er
  split at er
  · rename_i hm
    cases er
    unfold eqOk at hm
    rw [Bool.or_eq_true] at hm
    rcases hm with hm | hm
    · obtain ⟨e1, e2⟩ := vOf_sh sx sy hm
      subst e1
      subst e2
      exact op_eq pins s σ H _ _ v u Q I rx ry ⟨hm, by rw [eqv_sc hm]; exact q _ _ (.refl H) (.bl _)⟩
    · rw [Bool.and_eq_true] at hm
      exact op_eqD hu pins s σ H _ _ v u Q I rx ry ⟨d, e, Sh.noD _ _ sx (SeqAt.canLay_of_shaped hm.1), Sh.noD _ _ sy (SeqAt.canLay_of_shaped hm.2), hm.1, hm.2, q _ _ (.refl H) (.bl _)⟩
  · cases er
theorem od_ne (hu : X.A.units + 64 < cLine) : OpR X (compareOp .NotEq) (rD2 X.K fNe) := by
  intro pins s σ H x y v u Q I rx ry h
  obtain ⟨F, d, e, r, tr, sx, sy, er, q⟩ := h
  unfold fNe at er
  split at er
  · rename_i hm
    cases er
    unfold eqOk at hm
    rw [Bool.or_eq_true] at hm
    rcases hm with hm | hm
    · obtain ⟨e1, e2⟩ := vOf_sh sx sy hm
      subst e1
      subst e2
      exact op_ne pins s σ H _ _ v u Q I rx ry ⟨hm, by rw [eqv_sc hm]; exact q _ _ (.refl H) (.bl _)⟩
    · rw [Bool.and_eq_true] at hm
      exact op_neD hu pins s σ H _ _ v u Q I rx ry ⟨d, e, Sh.noD _ _ sx (SeqAt.canLay_of_shaped hm.1), Sh.noD _ _ sy (SeqAt.canLay_of_shaped hm.2), hm.1, hm.2, q _ _ (.refl H) (.bl _)⟩
  · cases er
theorem od_cmpI {op : CmpOp} {p : Int → Int → Bool} (ho : OpR X (compareOp op) (rI0 fun i j => .bl (p i j))) : OpR X (compareOp op) (rD2 X.K (cmpI p)) := by
  intro pins s σ H x y v u Q I rx ry h
  obtain ⟨F, d, e, r, tr, sx, sy, er, q⟩ := h
  unfold cmpI at er
  split at er
  · cases er
    rw [sx.ofInt] at rx
    rw [sy.ofInt] at ry
    exact ho pins s σ H _ _ v u Q I rx ry ⟨_, _, rfl, rfl, q _ _ (.refl H) (.bl _)⟩
  · cases er
theorem od_lt : OpR X (compareOp .Lt) (rD2 X.K fLt) := od_cmpI op_lt
theorem od_le : OpR X (compareOp .LtE) (rD2 X.K fLe) := od_cmpI op_le
theorem od_gt : OpR X (compareOp .Gt) (rD2 X.K fGt) := od_cmpI op_gt
theorem od_ge : OpR X (compareOp .GtE) (rD2 X.K fGe) := od_cmpI op_ge
theorem isNon_sh {K : PySem.W.Frag} {F : Addr → Prop} {H : Hp} {v : V} {d : D} (h : Sh K F H v d) : isNon d = decide (v = .non) := by
  cases h <;> simp [isNon]
theorem od_is : OpR X (compareOp .Is) (rD2 X.K fIs) := by
  intro pins s σ H x y v u Q I rx ry h
  obtain ⟨F, d, e, r, tr, sx, sy, er, q⟩ := h
  unfold fIs at er
  split at er
  · rename_i hm
    cases er
    have e1 := isNon_sh sy
    rw [hm] at e1
    exact op_isN pins s σ H _ _ v u Q I rx ry ⟨of_decide_eq_true e1.symm, by rw [← isNon_sh sx]; exact q _ _ (.refl H) (.bl _)⟩
  · cases er
theorem od_isnot : OpR X (compareOp .IsNot) (rD2 X.K fIsNot) := by
  intro pins s σ H x y v u Q I rx ry h
  obtain ⟨F, d, e, r, tr, sx, sy, er, q⟩ := h
  unfold fIsNot at er
  split at er
  · rename_i hm
    cases er
    have e1 := isNon_sh sy
    rw [hm] at e1
    exact op_notN pins s σ H _ _ v u Q I rx ry ⟨of_decide_eq_true e1.symm, by rw [← isNon_sh sx]; exact q _ _ (.refl H) (.bl _)⟩
  · cases er
end

/-! ### in -/
def flatD : D → Bool
  | .none => true
  | .bool _ => true
  | .int _ => true
  | .str _ => true
  | _ => false
/-- x in a text | a list or tuple of flat things -/
def inD (x : D) (ds : List D) : Bool := ds.any fun y => PyData.eqv y x
def fInB : D → D → Option Bool
  | .str i, .str j => some (!(Builtin.Str.occurrences j i 0 j.length 1).isEmpty)
  | x, .list ds => if flatD x = true ∧ ds.all flatD = true then some (inD x ds) else none
  | x, .tuple ds => if flatD x = true ∧ ds.all flatD = true then some (inD x ds) else none
  | _, _ => none
def fIn (x y : D) : Option R := (fInB x y).map fun b => .val (.bool b)
def fNotIn (x y : D) : Option R := (fInB x y).map fun b => .val (.bool (!b))
section
variable {K : PySem.W.Frag} {F : Addr → Prop} {H : Hp}
theorem flat_sh {v : V} {d : D} (h : Sh K F H v d) : flatV v = flatD d := by cases h <;> rfl
theorem flat_shA : ∀ {vs : List V} {ds : List D}, ShA K F H vs ds → vs.all flatV = ds.all flatD
  | _, _, .nil => rfl
  | _, _, .cons h s => by rw [List.all_cons, List.all_cons, flat_sh h, flat_shA s]
theorem eqV_sh {v w : V} {d e : D} (h : Sh K F H v d) (h' : Sh K F H w e) (f : flatD d = true) (f' : flatD e = true) : eqV v w = PyData.eqv d e := by
  cases h <;> cases h' <;> first | rfl | (simp [flatD] at f) | (simp [flatD] at f')
theorem inV_sh {v : V} {d : D} (h : Sh K F H v d) (f : flatD d = true) : ∀ {vs : List V} {ds : List D}, ShA K F H vs ds → ds.all flatD = true → inV v vs = inD d ds
  | _, _, .nil, _ => rfl
  | _, _, .cons h' s, q => by
    rw [List.all_cons, Bool.and_eq_true] at q
    have ih := inV_sh h f s q.2
    unfold inV inD at ih ⊢
    rw [List.any_cons, List.any_cons, ih, eqV_sh h' h q.1 f]
end
section
variable {X : Cx}
theorem od_in : OpR X (compareOp .In) (rD2 X.K fIn) := by
  intro pins s σ H x y v u Q I rx ry h
  obtain ⟨F, d, e, r, tr, sx, sy, er, q⟩ := h
  unfold fIn at er
  rw [Option.map_eq_some_iff] at er
  obtain ⟨b, eb, rfl⟩ := er
  unfold fInB at eb
  split at eb
  · cases eb
    rw [sx.ofStr] at rx
    rw [sy.ofStr] at ry
    exact op_in_str pins s σ H _ _ v u Q I rx ry ⟨_, _, rfl, rfl, q _ _ (.refl H) (.bl _)⟩
  · split at eb
    · rename_i hf
      cases eb
      obtain ⟨a, xs, rfl, ra, sa⟩ := sy.L
      refine op_in_seq pins s σ H _ _ v u Q I rx ry ⟨a, xs, rfl, .inl ra, by rw [flat_sh sx]; exact hf.1, by rw [flat_shA sa]; exact hf.2, ?_⟩
      rw [if_neg Bool.false_ne_true, inV_sh sx hf.1 sa hf.2]
      exact q _ _ (.refl H) (.bl _)
    · cases eb
  · split at eb
    · rename_i hf
      cases eb
      obtain ⟨a, xs, rfl, ra, sa⟩ := sy.T
      refine op_in_seq pins s σ H _ _ v u Q I rx ry ⟨a, xs, rfl, .inr ra, by rw [flat_sh sx]; exact hf.1, by rw [flat_shA sa]; exact hf.2, ?_⟩
      rw [if_neg Bool.false_ne_true, inV_sh sx hf.1 sa hf.2]
      exact q _ _ (.refl H) (.bl _)
    · cases eb
  · cases eb
theorem od_notin : OpR X (compareOp .NotIn) (rD2 X.K fNotIn) := by
  intro pins s σ H x y v u Q I rx ry h
  obtain ⟨F, d, e, r, tr, sx, sy, er, q⟩ := h
  unfold fNotIn at er
  rw [Option.map_eq_some_iff] at er
  obtain ⟨b, eb, rfl⟩ := er
  unfold fInB at eb
  split at eb
  · cases eb
    rw [sx.ofStr] at rx
    rw [sy.ofStr] at ry
    exact op_notin_str pins s σ H _ _ v u Q I rx ry ⟨_, _, rfl, rfl, q _ _ (.refl H) (.bl _)⟩
  · split at eb
    · rename_i hf
      cases eb
      obtain ⟨a, xs, rfl, ra, sa⟩ := sy.L
      refine op_notIn_seq pins s σ H _ _ v u Q I rx ry ⟨a, xs, rfl, .inl ra, by rw [flat_sh sx]; exact hf.1, by rw [flat_shA sa]; exact hf.2, ?_⟩
      rw [if_pos rfl, inV_sh sx hf.1 sa hf.2]
      exact q _ _ (.refl H) (.bl _)
    · cases eb
  · split at eb
    · rename_i hf
      cases eb
      obtain ⟨a, xs, rfl, ra, sa⟩ := sy.T
      refine op_notIn_seq pins s σ H _ _ v u Q I rx ry ⟨a, xs, rfl, .inr ra, by rw [flat_sh sx]; exact hf.1, by rw [flat_shA sa]; exact hf.2, ?_⟩
      rw [if_pos rfl, inV_sh sx hf.1 sa hf.2]
      exact q _ _ (.refl H) (.bl _)
    · cases eb
  · cases eb
end

/-! ### subscripts, slices -/
def fIx : D → D → Option R
  | .list ds, .int i => (atI ds i).map .val
  | .tuple ds, .int i => (atI ds i).map .val
  | .str z, .int i => if z.length ≤ 16777216 then (atI z.cps.toList i).map fun c => .val (.str ⟨#[c]⟩) else none
  | _, _ => none
theorem atI_sh {K : PySem.W.Frag} {F : Addr → Prop} {H : Hp} {vs : List V} {ds : List D} {i : Int} {d : D} (s : ShA K F H vs ds) (h : atI ds i = some d) : ∃ v, atI vs i = some v ∧ Sh K F H v d := by
  unfold atI at h ⊢
  rw [s.length]
  cases e : ixN ds.length i with
  | none => rw [e] at h; cases h
  | some j =>
    rw [e] at h
    exact s.get h
def rDP2 (K : PySem.W.Frag) (f : D → D → Option R) : R2 := fun x y H Q => ∃ F d e r, (∀ a, F a → H a ≠ none) ∧ Pk K F H x d ∧ Sh K F H y e ∧ f d e = some r ∧ NewOk K F H Q r
section
variable {X : Cx}
theorem ix_p : IxR X (rDP2 X.K fIx) := by
  intro value slice pins s σ H x y v u Q I rx ry h hs
  obtain ⟨F, d, e, r, tr, sx, sy, er, q⟩ := h
  unfold fIx at er
  split at er
  · rw [Option.map_eq_some_iff] at er
    obtain ⟨b, eb, rfl⟩ := er
    obtain ⟨a, xs, rfl, ra, sa⟩ := sx
    obtain ⟨w, ew, sw⟩ := atI_sh sa eb
    exact ix_list value slice pins s σ H _ _ v u Q I rx ry ⟨a, xs, _, w, rfl, sy.ofInt, ra, ew, q _ _ (.refl H) sw⟩ hs
  · rw [Option.map_eq_some_iff] at er
    obtain ⟨b, eb, rfl⟩ := er
    obtain ⟨a, xs, rfl, ra, sa⟩ := Sh.T sx
    obtain ⟨w, ew, sw⟩ := atI_sh sa eb
    exact ix_tup value slice pins s σ H _ _ v u Q I rx ry ⟨a, xs, _, w, rfl, sy.ofInt, ra, ew, q _ _ (.refl H) sw⟩ hs
  · split at er
    · rename_i hl
      rw [Option.map_eq_some_iff] at er
      obtain ⟨b, eb, rfl⟩ := er
      exact ix_str value slice pins s σ H _ _ v u Q I rx ry ⟨_, _, b, Sh.ofStr sx, sy.ofInt, line_of hl, eb, q _ _ (.refl H) (.str _)⟩ hs
    · cases er
  · cases er
theorem ix_d : IxR X (rD2 X.K fIx) := fun value slice pins s σ H x y v u Q I rx ry ⟨F, d, e, r, tr, sx, sy, er, q⟩ hs => ix_p value slice pins s σ H x y v u Q I rx ry ⟨F, d, e, r, tr, sx.pk, sy, er, q⟩ hs
end
/-- x[i], x a name: read at once -/
def eIxV (i : Nat) (mb : Env → Res D) : Env → Res R := fun ρ => bindR (ePk i ρ) fun _ _ => bindR (mb ρ) fun y ρ1 => bindR (ePk i ρ1) fun x ρ2 => optR (fIx x y) ρ2
def cutD (ds : List D) (lo hi : Option Int) : List D := (ds.drop (HT.sIx ds.length 0 lo)).take (HT.sIx ds.length ds.length hi - HT.sIx ds.length 0 lo)
def fSl (x : D) (lo hi : Option Int) : Option R := match x with
  | .list ds => some (.fresh (.lst (cutD ds lo hi)))
  | .tuple ds => some (.val (.tuple (cutD ds lo hi)))
  | .str z => if z.length ≤ 16777216 then some (.val (.str (cutS z lo hi))) else none
  | _ => none
def rSlD (K : PySem.W.Frag) : V → Option Int → Option Int → Hp → VK → Prop := fun x lo hi H Q => ∃ F d r, (∀ a, F a → H a ≠ none) ∧ Pk K F H x d ∧ fSl d lo hi = some r ∧ NewOk K F H Q r
theorem cut_sh {K : PySem.W.Frag} {F : Addr → Prop} {H : Hp} {vs : List V} {ds : List D} {lo hi : Option Int} (s : ShA K F H vs ds) : ShA K F H (cutV vs lo hi) (cutD ds lo hi) := by
  unfold cutV cutD
  rw [s.length]
  exact (s.drop _).take _
section
variable {X : Cx}
theorem sl_d : L2.SlR X (rSlD X.K) := by
  intro pins s σ H x v vl vu lo hi sl Q I rx hs pl pu h
  obtain ⟨F, d, r, tr, sx, er, q⟩ := h
  unfold fSl at er
  split at er
  · cases er
    obtain ⟨a, xs, rfl, ra, sa⟩ := sx
    exact sl_list pins s σ H _ v vl vu lo hi sl Q I rx hs pl pu ⟨a, xs, rfl, ra, new_lst tr (cut_sh sa) q⟩
  · rename_i ds
    cases er
    obtain ⟨a, xs, rfl, ra, sa⟩ := Sh.T sx
    refine sl_tupA pins s σ H _ v vl vu lo hi sl Q I rx hs pl pu ⟨a, xs, rfl, ra, fun hw => ?_, fun _ => new_tup tr (cut_sh sa) q⟩
    have e : cutD ds lo hi = ds := by
      unfold cutD
      rw [← sa.length, hw.1, hw.2, List.drop_zero, Nat.sub_zero, sa.length, List.take_length]
    refine q _ _ (.refl H) ?_
    rw [e]
    exact sx
  · split at er
    · rename_i hl
      cases er
      exact sl_str pins s σ H _ v vl vu lo hi sl Q I rx hs pl pu ⟨_, Sh.ofStr sx, line_of hl, q _ _ (.refl H) (.str _)⟩
    · cases er
  · cases er
variable {C : Ctx} {W : WX} {e b : Expr} {ma mb : Env → Res D} {pos p2 : Pos}
def oNone : Env → Res (Option Int) := fun ρ => .ok none ρ
def asI : D → Option (Option Int)
  | .int i => some (some i)
  | _ => none
def oSome (m : Env → Res D) : Env → Res (Option Int) := fun ρ => bindR (m ρ) fun d ρ1 => optR (asI d) ρ1
theorem jo_none : JO X C W none oNone := PO.imp po_none fun σ H Q ⟨ρ, o, S, q⟩ => q none H o S (.refl _ _) rfl
theorem jo_some (h : JV X C W e ma) : JO X C W (some e) (oSome ma) := PO.imp (po_some h) fun σ H Q ⟨ρ, o, S, h⟩ => by
  obtain ⟨ρ0, o0, S0, h0⟩ := stepV (Rl := Sh X.K) S h
  refine ⟨ρ0, o0, S0, h0.imp (fun d ρ1 z v H1 o1 S1 t1 s1 => ?_) fun _ _ z => z⟩
  obtain ⟨ρ1', o1', d', S1', T1, s1', q1⟩ := z v H1 o1 S1 t1 s1
  cases d' with
  | int i => exact ⟨i, s1'.ofInt, q1 (some i) H1 o1' S1' (.refl _ _) rfl⟩
  | _ => exact q1.elim
/-- a slice: the whole is read behind its bounds; x a name | any value -/
def eSlV (i : Nat) (ml mh : Env → Res (Option Int)) : Env → Res R := fun ρ => bindR (ePk i ρ) fun _ _ => bindR (ml ρ) fun lo ρ1 => bindR (mh ρ1) fun hi ρ2 => bindR (ePk i ρ2) fun x ρ3 => optR (fSl x lo hi) ρ3
def eSl (m : Env → Res D) (ml mh : Env → Res (Option Int)) : Env → Res R := fun ρ => bindR (m ρ) fun x ρ0 => bindR (ml ρ0) fun lo ρ1 => bindR (mh ρ1) fun hi ρ2 => optR (fSl x lo hi) ρ2
/-- what a slot holds, for one who knows its value -/
theorem pk_at {i : Nat} {ρ : Env} {o : Nat → List Addr} {σ : St} {H : Hp} {v : V} {γ : Type} {Ok : γ → Env → Prop} {Ex : Str → Env → Prop} {k : D → Env → Res γ} (S : SRo X.K C o ρ σ H) (hv : σ[i]? = some (some v)) (h : PoG Ok Ex (bindR (ePk i ρ) k)) : ∃ d, Pk X.K (FF C.B o) H v d ∧ PoG Ok Ex (k d ρ) := by
  have z := S.slot i
  unfold ePk at h
  cases g : gS ρ i with
  | emp => rw [g] at h; exact h.elim
  | val d =>
    rw [g] at h z
    obtain ⟨_, w, ew, s⟩ := z
    rw [ew] at hv; cases hv
    exact ⟨d, s.pk, h⟩
  | own c =>
    rw [g] at h z
    obtain ⟨w, ew, s⟩ := z
    rw [ew] at hv; cases hv
    exact ⟨c.toD, s.pk, h⟩
  | bor c =>
    rw [g] at h z
    rw [z.1] at hv; cases hv
    exact ⟨c.toD, z.2.pk, h⟩
theorem val_at {i : Nat} {ρ : Env} {o : Nat → List Addr} {σ : St} {H : Hp} {γ : Type} {Ok : γ → Env → Prop} {Ex : Str → Env → Prop} {rr : Res γ} (S : SRo X.K C o ρ σ H) (h : PoG Ok Ex (bindR (ePk i ρ) fun _ _ => rr)) : ∃ v, σ[i]? = some (some v) ∧ PoG Ok Ex rr := by
  have z := S.slot i
  unfold ePk at h
  cases g : gS ρ i with
  | emp => rw [g] at h; exact h.elim
  | val d => rw [g] at h z; exact ⟨_, z.2.choose_spec.1, h⟩
  | own c => rw [g] at h z; exact ⟨_, z.choose_spec.1, h⟩
  | bor c => rw [g] at h z; exact ⟨_, z.1, h⟩
theorem je_ixV {i : Nat} (ha : PE X e (tVar i)) (hb : JV X C W b mb) (hs : PlainIx b) : JE X C W (.Subscript e b pos) (eIxV i mb) :=
  PE.imp (pe_ix ix_p ha hb hs) fun σ H Q ⟨ρ, o, S, h⟩ => by
    unfold eIxV at h
    obtain ⟨v, hv, h⟩ := val_at S h
    refine ⟨v, hv, ?_⟩
    obtain ⟨ρ0, o0, S0, h0⟩ := stepE (Rl := Sh X.K) S h
    refine ⟨ρ0, o0, S0, h0.imp (fun d ρ1 z v1 H1 o1 S1 t1 s1 => ?_) fun _ _ z => z⟩
    obtain ⟨ρ1', o1', d', S1', T1, s1', q1⟩ := z v1 H1 o1 S1 t1 s1
    obtain ⟨dx, pk, q2⟩ := pk_at S1' hv q1
    obtain ⟨r, er, q⟩ := optE q2
    exact ⟨FF C.B o1', dx, d', r, S1'.tr, pk, s1', er, newOk S1' q⟩
theorem je_slV {i : Nat} {lo hi : Option Expr} {ml mh : Env → Res (Option Int)} (ha : PE X e (tVar i)) (hl : JO X C W lo ml) (hh : JO X C W hi mh) : JE X C W (.Subscript e (.Slice lo hi none p2) pos) (eSlV i ml mh) :=
  PE.imp (pe_slice sl_d ha hl hh) fun σ H Q ⟨ρ, o, S, h⟩ => by
    unfold eSlV at h
    obtain ⟨v, hv, h⟩ := val_at S h
    refine ⟨v, hv, ?_⟩
    obtain ⟨ρ0, o0, S0, h0⟩ := stepE (Rl := RlO) S h
    refine ⟨ρ0, o0, S0, h0.imp (fun d ρ1 z v1 H1 o1 S1 t1 s1 => ?_) fun _ _ z => z⟩
    obtain ⟨ρ1', o1', d', S1', T1, s1', q1⟩ := z v1 H1 o1 S1 t1 s1
    obtain ⟨ρ2, o2, S2, h2⟩ := stepE (Rl := RlO) S1' q1
    refine ⟨ρ2, o2, S2, h2.imp (fun d ρ1 z v2 H1 o1 S1 t1 s2 => ?_) fun _ _ z => z⟩
    obtain ⟨ρ3', o3', d3', S3', T3, s3', q3⟩ := z v2 H1 o1 S1 t1 s2
    have e1 : v1 = d' := s1'
    have e2 : v2 = d3' := s3'
    subst e1
    subst e2
    obtain ⟨dx, pk, q2⟩ := pk_at S3' hv q3
    obtain ⟨r, er, q⟩ := optE q2
    exact ⟨FF C.B o3', dx, r, S3'.tr, pk, er, newOk S3' q⟩
theorem je_sl {lo hi : Option Expr} {ml mh : Env → Res (Option Int)} (ha : JV X C W e ma) (hl : JO X C W lo ml) (hh : JO X C W hi mh) : JE X C W (.Subscript e (.Slice lo hi none p2) pos) (eSl ma ml mh) :=
  PE.imp (pe_slice sl_d ha hl hh) fun σ H Q ⟨ρ, o, S, h⟩ => by
    obtain ⟨ρ00, o00, S00, h00⟩ := stepE (Rl := Sh X.K) S h
    refine ⟨ρ00, o00, S00, h00.imp (fun d ρ1 z v H1 o1 S1 t1 s1 => ?_) fun _ _ z => z⟩
    obtain ⟨ρ0', o0', d0', S0', T0, s0', q0⟩ := z v H1 o1 S1 t1 s1
    obtain ⟨ρ0, o0, S0, h0⟩ := stepE (Rl := RlO) S0' q0
    refine ⟨ρ0, o0, S0, h0.imp (fun d ρ1 z v1 H1 o1 S1 t1 s1 => ?_) fun _ _ z => z⟩
    obtain ⟨ρ1', o1', d', S1', T1, s1', q1⟩ := z v1 H1 o1 S1 t1 s1
    obtain ⟨ρ2, o2, S2, h2⟩ := stepE (Rl := RlO) S1' q1
    refine ⟨ρ2, o2, S2, h2.imp (fun d ρ1 z v2 H1 o1 S1 t1 s2 => ?_) fun _ _ z => z⟩
    obtain ⟨ρ3', o3', d3', S3', T3, s3', q3⟩ := z v2 H1 o1 S1 t1 s2
    have e1 : v1 = d' := s1'
    have e2 : v2 = d3' := s3'
    subst e1
    subst e2
    obtain ⟨r, er, q⟩ := optE q3
    exact ⟨FF C.B o3', d0', r, S3'.tr, ((s0'.tx T1).tx T3).pk, er, newOk S3' q⟩
theorem chain_imp {f g : D → D → Option R} {mc : Env → Res D} {o : Nat → List Addr} {σ : St} {H : Hp} {ρ : Env} {Q : VK} (S : SRo X.K C o ρ σ H) (h : PoG (OkE X C o σ H Q) (ExP X C W o σ H) (eChain f g ma mb mc ρ)) :
    tChain (rD2 X.K f) (rD2 X.K g) (tV X C W (Sh X.K) ma) (tV X C W (Sh X.K) mb) (tV X C W (Sh X.K) mc) σ H Q := by
  obtain ⟨ρ0, o0, S0, h0⟩ := stepE (Rl := Sh X.K) S h
  refine ⟨ρ0, o0, S0, h0.imp (fun d ρ1 z v H1 o1 S1 t1 s1 => ?_) fun _ _ z => z⟩
  obtain ⟨ρ1', o1', d', S1', T1, s1', q1⟩ := z v H1 o1 S1 t1 s1
  obtain ⟨ρ2, o2, S2, h2⟩ := stepE (Rl := Sh X.K) S1' q1
  refine ⟨ρ2, o2, S2, h2.imp (fun d2 ρ3 z2 v2 H2 o3 S3 t3 s3 => ?_) fun _ _ z => z⟩
  obtain ⟨ρ4, o4, d4, S4, T4, s4, q4⟩ := z2 v2 H2 o3 S3 t3 s3
  cases ef : f d' d4 with
  | none => rw [ef] at q4; exact q4.elim
  | some r =>
    rw [ef, optR_some, bindR_ok] at q4
    cases eb : asB r with
    | none => simp only [eb] at q4; exact q4.elim
    | some k =>
      have er := asB_eq eb
      subst er
      refine ⟨FF C.B o4, d', d4, _, S4.tr, s1'.tx T4, s4, ef, fun v' H' sm sh => ⟨k, sh.ofBool, ?_⟩⟩
      cases k with
      | false =>
        simp only [eb] at q4
        rw [if_neg Bool.false_ne_true]
        exact q4 _ H' o4 (S4.keep sm) (.same sm) (.bl false)
      | true =>
        simp only [eb] at q4
        rw [if_pos rfl]
        have S5 := S4.keep sm
        have q5 : PoG (OkE X C o4 σ H' Q) (ExP X C W o4 σ H') (bindR (mc ρ4) fun z ρ5 => optR (g d4 z) ρ5) := q4.imp (fun _ _ => OkE.shift (.same sm)) fun _ _ => ExP.shift (.same sm)
        obtain ⟨ρ6, o6, S6, h6⟩ := stepE (Rl := Sh X.K) S5 q5
        refine ⟨ρ6, o6, S6, h6.imp (fun d6 ρ7 z7 v7 H7 o7 S7 t7 s7 => ?_) fun _ _ z => z⟩
        obtain ⟨ρ8, o8, d8, S8, T8, s8, q8⟩ := z7 v7 H7 o7 S7 t7 s7
        obtain ⟨r, er, q⟩ := optE q8
        exact ⟨FF C.B o8, d4, d8, r, S8.tr, (s4.tx (.same sm)).tx T8, s8, er, newOk S8 q⟩
/-- a comparison of three -/
theorem je_chain {op op' : CmpOp} {f g : D → D → Option R} {c : Expr} {mc : Env → Res D} (ho : OpR X (compareOp op) (rD2 X.K f)) (ho' : OpR X (compareOp op') (rD2 X.K g)) (ha : JV X C W e ma) (hb : JV X C W b mb) (hc : JV X C W c mc)
    (hm : lastMarks [op, op'] [b, c] = false := by with_unfolding_all rfl) : JE X C W (.Compare e [op, op'] [b, c] pos) (eChain f g ma mb mc) :=
  PE.imp (pe_chain ho ho' ha hb hc hm) fun σ H Q ⟨ρ, o, S, h⟩ => chain_imp S h
theorem jt_chain {op op' : CmpOp} {f g : D → D → Option R} {c : Expr} {mc : Env → Res D} (ho : OpR X (compareOp op) (rD2 X.K f)) (ho' : OpR X (compareOp op') (rD2 X.K g)) (ha : JV X C W e ma) (hb : JV X C W b mb) (hc : JV X C W c mc)
    (hm : lastMarks [op, op'] [b, c] = false := by with_unfolding_all rfl) : JT X C W (.Compare e [op, op'] [b, c] pos) (tBoolD (eChain f g ma mb mc)) :=
  PT.imp (pt_chain ho ho' ha hb hc hm) fun σ H Q ⟨ρ, o, S, h⟩ => by
    obtain ⟨ρ0, o0, S0, h0⟩ := tB_imp S h
    exact chain_imp S0 h0
end
end Dn
set_option Elab.async false
set_option linter.all false
set_option maxRecDepth 100000
set_option maxHeartbeats 2000000
/-! Dn7: built-ins of one argument, isinstance, what loops walk, methods of own lists and dicts -/
namespace Dn
open PySem L2

theorem bt_len : bootBuiltins "len" = some (.builtin "len") := by decide +kernel
theorem bt_abs : bootBuiltins "abs" = some (.builtin "abs") := by decide +kernel
theorem bt_isi : bootBuiltins "isinstance" = some (.builtin "isinstance") := by decide +kernel
theorem bt_int : bootBuiltins "int" = some (.type "int") := by decide +kernel
theorem bt_str : bootBuiltins "str" = some (.type "str") := by decide +kernel
theorem bt_bool : bootBuiltins "bool" = some (.type "bool") := by decide +kernel
theorem bt_list : bootBuiltins "list" = some (.type "list") := by decide +kernel
theorem bt_tuple : bootBuiltins "tuple" = some (.type "tuple") := by decide +kernel
theorem bt_dict : bootBuiltins "dict" = some (.type "dict") := by decide +kernel
theorem bt_sum : bootBuiltins "sum" = some (.builtin "sum") := by decide +kernel
theorem bt_min : bootBuiltins "min" = some (.builtin "min") := by decide +kernel
theorem bt_max : bootBuiltins "max" = some (.builtin "max") := by decide +kernel
theorem bt_all : bootBuiltins "all" = some (.builtin "all") := by decide +kernel
theorem bt_any : bootBuiltins "any" = some (.builtin "any") := by decide +kernel
theorem bt_sorted : bootBuiltins "sorted" = some (.builtin "sorted") := by decide +kernel

/-! ### kinds -/
def tyN : D → String
  | .none => "NoneType"
  | .bool _ => "bool"
  | .int _ => "int"
  | .str _ => "str"
  | .list _ => "list"
  | .tuple _ => "tuple"
  | .dict _ => "dict"
def isInt : D → Bool
  | .int _ => true
  | .bool _ => true
  | _ => false
def isBool : D → Bool
  | .bool _ => true
  | _ => false
def isStr : D → Bool
  | .str _ => true
  | _ => false
def isTup : D → Bool
  | .tuple _ => true
  | _ => false
def isLst : D → Bool
  | .list _ => true
  | _ => false
def isDct : D → Bool
  | .dict _ => true
  | _ => false
theorem kit_int : ∀ d : D, kitB (tyN d) "int" = some (isInt d)
  | .none => (by decide +kernel : kitB "NoneType" "int" = some false)
  | .bool _ => (by decide +kernel : kitB "bool" "int" = some true)
  | .int _ => (by decide +kernel : kitB "int" "int" = some true)
  | .str _ => (by decide +kernel : kitB "str" "int" = some false)
  | .list _ => (by decide +kernel : kitB "list" "int" = some false)
  | .tuple _ => (by decide +kernel : kitB "tuple" "int" = some false)
  | .dict _ => (by decide +kernel : kitB "dict" "int" = some false)
theorem kit_bool : ∀ d : D, kitB (tyN d) "bool" = some (isBool d)
  | .none => (by decide +kernel : kitB "NoneType" "bool" = some false)
  | .bool _ => (by decide +kernel : kitB "bool" "bool" = some true)
  | .int _ => (by decide +kernel : kitB "int" "bool" = some false)
  | .str _ => (by decide +kernel : kitB "str" "bool" = some false)
  | .list _ => (by decide +kernel : kitB "list" "bool" = some false)
  | .tuple _ => (by decide +kernel : kitB "tuple" "bool" = some false)
  | .dict _ => (by decide +kernel : kitB "dict" "bool" = some false)
theorem kit_str : ∀ d : D, kitB (tyN d) "str" = some (isStr d)
  | .none => (by decide +kernel : kitB "NoneType" "str" = some false)
  | .bool _ => (by decide +kernel : kitB "bool" "str" = some false)
  | .int _ => (by decide +kernel : kitB "int" "str" = some false)
  | .str _ => (by decide +kernel : kitB "str" "str" = some true)
  | .list _ => (by decide +kernel : kitB "list" "str" = some false)
  | .tuple _ => (by decide +kernel : kitB "tuple" "str" = some false)
  | .dict _ => (by decide +kernel : kitB "dict" "str" = some false)
theorem kit_tuple : ∀ d : D, kitB (tyN d) "tuple" = some (isTup d)
  | .none => (by decide +kernel : kitB "NoneType" "tuple" = some false)
  | .bool _ => (by decide +kernel : kitB "bool" "tuple" = some false)
  | .int _ => (by decide +kernel : kitB "int" "tuple" = some false)
  | .str _ => (by decide +kernel : kitB "str" "tuple" = some false)
  | .list _ => (by decide +kernel : kitB "list" "tuple" = some false)
  | .tuple _ => (by decide +kernel : kitB "tuple" "tuple" = some true)
  | .dict _ => (by decide +kernel : kitB "dict" "tuple" = some false)
theorem kit_list : ∀ d : D, kitB (tyN d) "list" = some (isLst d)
  | .none => (by decide +kernel : kitB "NoneType" "list" = some false)
  | .bool _ => (by decide +kernel : kitB "bool" "list" = some false)
  | .int _ => (by decide +kernel : kitB "int" "list" = some false)
  | .str _ => (by decide +kernel : kitB "str" "list" = some false)
  | .list _ => (by decide +kernel : kitB "list" "list" = some true)
  | .tuple _ => (by decide +kernel : kitB "tuple" "list" = some false)
  | .dict _ => (by decide +kernel : kitB "dict" "list" = some false)
theorem kit_dict : ∀ d : D, kitB (tyN d) "dict" = some (isDct d)
  | .none => (by decide +kernel : kitB "NoneType" "dict" = some false)
  | .bool _ => (by decide +kernel : kitB "bool" "dict" = some false)
  | .int _ => (by decide +kernel : kitB "int" "dict" = some false)
  | .str _ => (by decide +kernel : kitB "str" "dict" = some false)
  | .list _ => (by decide +kernel : kitB "list" "dict" = some false)
  | .tuple _ => (by decide +kernel : kitB "tuple" "dict" = some false)
  | .dict _ => (by decide +kernel : kitB "dict" "dict" = some true)
section
variable {K : PySem.W.Frag} {F : Addr → Prop} {H : Hp}
theorem rd_tyL {a : Addr} {xs : List V} (r : SqL K H a xs) : TyX K H (.ref a) (.type "list") := by
  rcases r with (r | ⟨o, r⟩) | ⟨o, its, n, hk, hc, _⟩
  · exact .base (.lst r)
  · exact .base (.frz r)
  · exact .kList hk hc
theorem rd_tyD {a : Addr} {xs : List (Key × V)} (r : Rd H a (.dK xs)) : TyX K H (.ref a) (.type "dict") := by
  rcases r with r | ⟨o, r⟩
  · exact .base (.dK r)
  · exact .fDict r
theorem TyX.keep {K : PySem.W.Frag} {H H' : Hp} {v : V} {t : Value} (sm : Same H H') (ty : TyX K H v t) : TyX K H' v t := by
  cases ty with
  | base h => cases h with
    | non => exact .base .non
    | bl b => exact .base (.bl b)
    | int i => exact .base (.int i)
    | str i => exact .base (.str i)
    | flt i => exact .base (.flt i)
    | lst r => exact .base (.lst (sm _ _ r))
    | frz r => exact .base (.frz (sm _ _ r))
    | tup r => exact .base (.tup (sm _ _ r))
    | dK r => exact .base (.dK (sm _ _ r))
    | dT r => exact .base (.dT (sm _ _ r))
    | ins r a b c d e => exact .base (.ins (sm _ _ r) a b c d e)
  | byt b => exact .byt b
  | set r => exact .set (sm _ _ r)
  | kList e c => exact .kList e c
  | kTuple e c => exact .kTuple e c
  | kDict e c => exact .kDict e c
  | fTuple r => exact .fTuple (sm _ _ r)
  | fDict r => exact .fDict (sm _ _ r)
theorem pk_ty {v : V} {d : D} (h : Pk K F H v d) : TyX K H v (.type (tyN d)) := by
  cases d with
  | none => cases h; exact .base .non
  | bool b => cases h; exact .base (.bl b)
  | int i => cases h; exact .base (.int i)
  | str x => cases h; exact .base (.str x)
  | list ds =>
    obtain ⟨a, xs, rfl, r, s⟩ := h
    exact rd_tyL r
  | dict ds =>
    obtain ⟨a, xs, rfl, r, s⟩ := h
    exact rd_tyD r
  | tuple ds =>
    have h : Sh K F H v (.tuple ds) := h
    cases h with
    | tup hh s =>
      rcases hh with ⟨n, r⟩ | ⟨o, its, n, hk, hc, _⟩
      · rcases r with r | ⟨o, r⟩
        · exact .base (.tup r)
        · exact .fTuple r
      · exact .kTuple hk hc
end
section
variable {X : Cx} {C : Ctx} {W : WX} {e b : Expr} {ma mb : Env → Res D} {pos p p1 p2 : Pos}
def fP (q : D → Bool) : D → Option R := fun d => some (.val (.bool (q d)))
/-- isinstance(e, T) -/
theorem je_isi {T : Str} {T' : String} {q : D → Bool} (hq : ∀ d, kitB (tyN d) T' = some (q d)) (hv : bootBuiltins T = some (.type T')) (hm : X.mg "isinstance" = none) (hmT : X.mg T = none) (ha : JP X C W e ma) (hg : Gl X "isinstance") (hgT : Gl X T)
    (hnT : T ≠ "__name__" := by decide) (hdT : (T == ("__debug__" : Str)) = false := by decide) (hs1 : starEach [.Name T p1] X.env = (false, eval (.Name T p1) X.env) :: starEach [] X.env := by rfl)
    (hs : starEach (e :: [.Name T p1]) X.env = (false, eval e X.env) :: starEach [.Name T p1] X.env := by rfl) (hpl : (backTo pos (starEach [.Name T p1] X.env)).any (·.1) = false := by rfl) :
    JE X C W (.Call (.Name "isinstance" p) [e, .Name T p1] [] pos) (eOp1 (fP q) ma) :=
  PE.imp (pe_callB call_isi hg hm bt_isi (pa_cons ha (pa_cons (pe_bltn (v := .ty T') hgT hmT hv rfl hnT hdT) pa_nil hs1) hs) (by decide) (by decide) hs hpl) fun σ H Q ⟨ρ, o, S, h⟩ => by
    obtain ⟨ρ0, o0, S0, h0⟩ := stepE (Rl := Pk X.K) S h
    refine ⟨ρ0, o0, S0, h0.imp (fun d ρ1 z v H1 o1 S1 t1 s1 => ?_) fun _ _ z => z⟩
    obtain ⟨ρ1', o1', d', S1', T1, s1', q1⟩ := z v H1 o1 S1 t1 s1
    exact ⟨v, .ty T', .type (tyN d'), .type T', q d', rfl, .ty T', pk_ty s1', kit_ty (hq d'), (newOk (r := .val (.bool (q d'))) S1' q1) _ _ (.refl _) (.bl _)⟩
/-- isinstance(e, (T, U)) -/
theorem je_isi2 {T U : Str} {T' U' : String} {q r : D → Bool} {k : Nat} {pt : Pos} (hq : ∀ d, kitB (tyN d) T' = some (q d)) (hr : ∀ d, kitB (tyN d) U' = some (r d)) (hv : bootBuiltins T = some (.type T')) (hu : bootBuiltins U = some (.type U')) (hm : X.mg "isinstance" = none) (hmT : X.mg T = none) (hmU : X.mg U = none) (ha : JP X C W e ma) (hg : Gl X "isinstance") (hgT : Gl X T) (hgU : Gl X U)
    (hnT : T ≠ "__name__" := by decide) (hdT : (T == ("__debug__" : Str)) = false := by decide) (hnU : U ≠ "__name__" := by decide) (hdU : (U == ("__debug__" : Str)) = false := by decide) (hsU : starEach [.Name U p2] X.env = (false, eval (.Name U p2) X.env) :: starEach [] X.env := by rfl)
    (hsT : starEach [.Name T p1, .Name U p2] X.env = (false, eval (.Name T p1) X.env) :: starEach [.Name U p2] X.env := by rfl)
    (hs1 : starEach [.Tuple [.Name T p1, .Name U p2] k pt] X.env = (false, eval (.Tuple [.Name T p1, .Name U p2] k pt) X.env) :: starEach [] X.env := by rfl)
    (hs : starEach (e :: [.Tuple [.Name T p1, .Name U p2] k pt]) X.env = (false, eval e X.env) :: starEach [.Tuple [.Name T p1, .Name U p2] k pt] X.env := by rfl) (hpl : (backTo pos (starEach [.Tuple [.Name T p1, .Name U p2] k pt] X.env)).any (·.1) = false := by rfl) :
    JE X C W (.Call (.Name "isinstance" p) [e, .Tuple [.Name T p1, .Name U p2] k pt] [] pos) (eOp1 (fP fun d => q d || r d) ma) :=
  PE.imp (pe_callB call_isiT hg hm bt_isi (pa_cons ha (pa_cons (pe_tup (pa_cons (pe_bltn (v := .ty T') hgT hmT hv rfl hnT hdT) (pa_cons (pe_bltn (v := .ty U') hgU hmU hu rfl hnU hdU) pa_nil hsU) hsT)) pa_nil hs1) hs) (by decide) (by decide) hs hpl) fun σ H Q ⟨ρ, o, S, h⟩ => by
    obtain ⟨ρ0, o0, S0, h0⟩ := stepE (Rl := Pk X.K) S h
    refine ⟨ρ0, o0, S0, h0.imp (fun d ρ1 z v H1 o1 S1 t1 s1 => ?_) fun _ _ z => z⟩
    obtain ⟨ρ1', o1', d', S1', T1, s1', q1⟩ := z v H1 o1 S1 t1 s1
    refine ⟨line_of (by show 2 ≤ 16777216; decide), fun tp htp => ⟨v, tp, [.ty T', .ty U'], .type (tyN d'), [.type T', .type U'], q d' || r d', rfl, upd_same, .cons (.ty T') (.cons (.ty U') .nil), ?_, ?_, (newOk (r := .val (.bool (q d' || r d'))) S1' q1) _ _ (same_new htp) (.bl _)⟩⟩
    · exact TyX.keep (same_new htp) (pk_ty s1')
    · exact kitAny_cons (kit_ty (hq d')) (fun hb => by
        rw [hb, Bool.false_or]
        exact kitAny_cons (kit_ty (hr d')) (fun hb => by rw [hb]; rfl) fun hb => by rw [hb]) fun hb => by rw [hb]; rfl

/-! ### one argument -/
def fLen : D → Option R
  | .list ds => some (.val (.int ds.length))
  | .tuple ds => some (.val (.int ds.length))
  | .str z => if z.length ≤ 16777216 then some (.val (.int z.length)) else none
  | .dict ds => some (.val (.int ds.length))
  | _ => none
def fInt : D → Option R
  | .int i => some (.val (.int i))
  | .bool b => some (.val (.int (if b then 1 else 0)))
  | _ => none
def fAbs : D → Option R
  | .int i => some (.val (.int (if i < 0 then -i else i)))
  | _ => none
def fStr : D → Option R
  | .int i => if i.natAbs.log2 < 1920 then some (.val (.str (toString i))) else none
  | _ => none
def fTuple : D → Option R
  | .list ds => some (.val (.tuple ds))
  | .tuple ds => some (.val (.tuple ds))
  | _ => none
def fList : D → Option R
  | .list ds => some (.fresh (.lst ds))
  | .tuple ds => some (.fresh (.lst ds))
  | _ => none
theorem ShK.length {K : PySem.W.Frag} {F : Addr → Prop} {H : Hp} : ∀ {vs : List (Key × V)} {ds : List (D × D)}, ShK K F H vs ds → vs.length = ds.length
  | _, _, .nil => rfl
  | _, _, .cons _ s => by rw [List.length_cons, List.length_cons, ShK.length s]
theorem Pk.int {K : PySem.W.Frag} {F : Addr → Prop} {H : Hp} {v : V} {i : Int} (h : Pk K F H v (.int i)) : v = .int i := Sh.ofInt h
theorem Pk.bool {K : PySem.W.Frag} {F : Addr → Prop} {H : Hp} {v : V} {i : Bool} (h : Pk K F H v (.bool i)) : v = .bl i := Sh.ofBool h
theorem Pk.str {K : PySem.W.Frag} {F : Addr → Prop} {H : Hp} {v : V} {i : Str} (h : Pk K F H v (.str i)) : v = .str i := Sh.ofStr h
theorem Pk.tup {K : PySem.W.Frag} {F : Addr → Prop} {H : Hp} {v : V} {ds : List D} (h : Pk K F H v (.tuple ds)) : ∃ a xs, v = .ref a ∧ SqT K H a xs ∧ ShA K F H xs ds := Sh.T h
theorem cr_len : CallR X (.builtin "len") (rP1 X.K fLen) := by
  intro pins s σ H xs us Q I r h
  obtain ⟨x, F, d, rr, rfl, tr, sx, er, q⟩ := h
  unfold fLen at er
  split at er
  · cases er
    obtain ⟨a, xs, rfl, ra, sa⟩ := sx
    exact call_len pins s σ H _ us Q I r ⟨.ref a, xs.length, rfl, .inl ⟨xs, ra, rfl⟩, by rw [sa.length]; exact q _ _ (.refl H) (.int _)⟩
  · cases er
    obtain ⟨a, xs, rfl, ra, sa⟩ := sx.tup
    exact call_len pins s σ H _ us Q I r ⟨.ref a, xs.length, rfl, .inr ⟨xs, ra, rfl⟩, by rw [sa.length]; exact q _ _ (.refl H) (.int _)⟩
  · split at er
    · rename_i hl
      cases er
      rw [sx.str] at r
      exact call_len pins s σ H _ us Q I r ⟨_, _, rfl, ⟨line_of hl, rfl⟩, q _ _ (.refl H) (.int _)⟩
    · cases er
  · cases er
    obtain ⟨a, xs, rfl, ra, sa⟩ := sx
    obtain ⟨u, rfl, ru⟩ := vals1 r
    cases ru
    exact d_len I ra fun t s' I' => ⟨.int xs.length, H, I', ⟨t, rfl⟩, by rw [sa.length]; exact q _ _ (.refl H) (.int _)⟩
  · cases er
theorem cr_int : CallR X (.type "int") (rP1 X.K fInt) := by
  intro pins s σ H xs us Q I r h
  obtain ⟨x, F, d, rr, rfl, tr, sx, er, q⟩ := h
  unfold fInt at er
  split at er
  · cases er
    rw [sx.int] at r
    exact call_int1 pins s σ H _ us Q I r (.inl ⟨_, rfl, q _ _ (.refl H) (.int _)⟩)
  · cases er
    rw [sx.bool] at r
    exact call_int1 pins s σ H _ us Q I r (.inr ⟨_, rfl, q _ _ (.refl H) (.int _)⟩)
  · cases er
theorem cr_abs : CallR X (.builtin "abs") (rP1 X.K fAbs) := by
  intro pins s σ H xs us Q I r h
  obtain ⟨x, F, d, rr, rfl, tr, sx, er, q⟩ := h
  unfold fAbs at er
  split at er
  · cases er
    rw [sx.int] at r
    exact call_abs pins s σ H _ us Q I r ⟨_, rfl, q _ _ (.refl H) (.int _)⟩
  · cases er
theorem cr_str : CallR X (.type "str") (rP1 X.K fStr) := by
  intro pins s σ H xs us Q I r h
  obtain ⟨x, F, d, rr, rfl, tr, sx, er, q⟩ := h
  unfold fStr at er
  split at er
  · split at er
    · rename_i hl
      cases er
      rw [sx.int] at r
      exact call_str_int pins s σ H _ us Q I r ⟨_, rfl, hl, q _ _ (.refl H) (.str _)⟩
    · cases er
  · cases er
theorem cr_tuple : CallR X (.type "tuple") (rP1 X.K fTuple) := by
  intro pins s σ H xs us Q I r h
  obtain ⟨x, F, d, rr, rfl, tr, sx, er, q⟩ := h
  unfold fTuple at er
  split at er
  · cases er
    obtain ⟨a, xs, rfl, ra, sa⟩ := sx
    exact call_tuple_of pins s σ H _ us Q I r ⟨a, xs, rfl, .inl ⟨ra, new_tup tr sa q⟩⟩
  · cases er
    obtain ⟨a, xs, rfl, ra, sa⟩ := Pk.tup sx
    exact call_tuple_of pins s σ H _ us Q I r ⟨a, xs, rfl, .inr ⟨ra, q _ _ (.refl H) sx⟩⟩
  · cases er
theorem cr_list : CallR X (.type "list") (rP1 X.K fList) := by
  intro pins s σ H xs us Q I r h
  obtain ⟨x, F, d, rr, rfl, tr, sx, er, q⟩ := h
  unfold fList at er
  split at er
  · cases er
    obtain ⟨a, xs, rfl, ra, sa⟩ := sx
    exact call_list_of pins s σ H _ us Q I r ⟨a, xs, rfl, .inl ra, new_lst tr sa q⟩
  · cases er
    obtain ⟨a, xs, rfl, ra, sa⟩ := Pk.tup sx
    exact call_list_of pins s σ H _ us Q I r ⟨a, xs, rfl, .inr ra, new_lst tr sa q⟩
  · cases er

/-! ### truth of any value -/
def truD : D → Option Bool
  | .none => some false
  | .bool b => some b
  | .int i => some (i != 0)
  | .str z => if z.length ≤ 16777216 then some ((z.length : Int) != 0) else none
  | .list ds => some (!ds.isEmpty)
  | .tuple ds => some (!ds.isEmpty)
  | .dict _ => none
def tTru (m : Env → Res D) : Env → Res Bool := fun ρ => bindR (m ρ) fun d ρ1 => optR (truD d) ρ1
theorem isEmpty_sh {K : PySem.W.Frag} {F : Addr → Prop} {H : Hp} {vs : List V} {ds : List D} (s : ShA K F H vs ds) : vs.isEmpty = ds.isEmpty := by cases s <;> rfl
theorem jt_tru (h : JP X C W e ma) (he : ∀ whole, isTrue e X.env whole = (do let v ← whole; standAt e.pos; holding [v] (truthy v)) := by intro _; rfl) : JT X C W e (tTru ma) :=
  PT.imp (pt_truth h he) fun σ H Q ⟨ρ, o, S, h⟩ => by
    obtain ⟨ρ0, o0, S0, h0⟩ := stepV (Rl := Pk X.K) S h
    refine ⟨ρ0, o0, S0, h0.imp (fun d ρ1 z v H1 o1 S1 t1 s1 => ?_) fun _ _ z => z⟩
    obtain ⟨ρ1', o1', d', S1', T1, s1', q1⟩ := z v H1 o1 S1 t1 s1
    have fin : ∀ k, truD d' = some k → Q k H1 := fun k e => by
      rw [e] at q1
      exact q1 k H1 o1' S1' (.refl _ _) rfl
    cases d' with
    | none => rw [Sh.ofNone s1']; exact ⟨false, rfl, fin _ rfl⟩
    | bool b => rw [s1'.bool]; exact ⟨b, rfl, fin _ rfl⟩
    | int i => rw [s1'.int]; exact ⟨_, rfl, fin _ rfl⟩
    | str z =>
      rw [s1'.str]
      by_cases hl : z.length ≤ 16777216
      · exact ⟨_, ⟨line_of hl, rfl⟩, fin _ (if_pos hl)⟩
      · have e0 : truD (.str z) = none := if_neg hl
        rw [e0] at q1; exact q1.elim
    | list ds =>
      obtain ⟨a, xs, rfl, r, s⟩ := s1'
      exact ⟨_, .inl ⟨xs, r, rfl⟩, by rw [isEmpty_sh s]; exact fin _ rfl⟩
    | tuple ds =>
      obtain ⟨a, xs, rfl, r, s⟩ := s1'.tup
      exact ⟨_, .inr (.inl ⟨xs, r, rfl⟩), by rw [isEmpty_sh s]; exact fin _ rfl⟩
    | dict ds => exact q1.elim

/-! ### what is walked -/
def iterD : D → Option (List D)
  | .list ds => some ds
  | .tuple ds => some ds
  | .str z => some (z.cps.toList.map fun c => .str ⟨#[c]⟩)
  | _ => none
def eIt (m : Env → Res D) : Env → Res (List D) := fun ρ => bindR (m ρ) fun d ρ1 => optR (iterD d) ρ1
theorem it_list {K : PySem.W.Frag} {F : Addr → Prop} {H : Hp} {a : Addr} {xs : List V} {ds : List D} (h : (¬ F a ∧ Rd H a (.lst xs)) ∨ SqLK K a xs) (s : ShA K F H xs ds) : ItOk K F H (Itl K a) ds := by
  intro F' H' t tr
  have r' : SqL K H' a xs := h.elim (fun z => .inl (t.rd z.1 z.2).2) .inr
  have s' := s.tx t
  refine ⟨⟨xs, r', by rw [s.length]; exact Nat.le_refl _⟩, fun i d e => ?_⟩
  obtain ⟨v, ev, sv⟩ := s'.get e
  refine ⟨⟨xs, v, r', ev⟩, fun x H2 y => ?_⟩
  obtain ⟨e2, y⟩ := y
  subst e2
  have := y xs r'
  rw [ev] at this
  cases this
  exact ⟨.refl _, sv⟩
theorem it_tup {K : PySem.W.Frag} {F : Addr → Prop} {H : Hp} {a : Addr} {xs : List V} {ds : List D} (h : (¬ F a ∧ Rd H a (.tup xs)) ∨ SqTK K a xs) (s : ShA K F H xs ds) : ItOk K F H (Itt K a) ds := by
  intro F' H' t tr
  have r' : SqT K H' a xs := h.elim (fun z => .inl (t.rd z.1 z.2).2) .inr
  have s' := s.tx t
  refine ⟨⟨xs, r', by rw [s.length]; exact Nat.le_refl _⟩, fun i d e => ?_⟩
  obtain ⟨v, ev, sv⟩ := s'.get e
  refine ⟨⟨xs, v, r', ev⟩, fun x H2 y => ?_⟩
  obtain ⟨e2, y⟩ := y
  subst e2
  have := y xs r'
  rw [ev] at this
  cases this
  exact ⟨.refl _, sv⟩
theorem it_str {K : PySem.W.Frag} {F : Addr → Prop} {H : Hp} {z : Str} : ItOk K F H (Its z) (z.cps.toList.map fun c => .str ⟨#[c]⟩) := by
  intro F' H' t tr
  refine ⟨by show z.cps.size ≤ _; simp, fun i d e => ?_⟩
  rw [List.getElem?_map, Option.map_eq_some_iff] at e
  obtain ⟨c, ec, rfl⟩ := e
  rw [Array.getElem?_toList] at ec
  refine ⟨(Array.getElem?_eq_some_iff.mp ec).1, fun x H2 y => ?_⟩
  obtain ⟨e2, c', ec', rfl⟩ := y
  subst e2
  rw [ec] at ec'
  cases ec'
  exact ⟨.refl _, .str _⟩
variable {tg : Expr}
theorem ji_any (he : JV X C W e ma) : JI X C W tg e (eIt ma) := PI.imp (PI.or (PI.or (pi_list he) (pi_tup he)) (pi_str he)) fun σ H Q ⟨ρ, o, S, h⟩ => by
  unfold eIt at h
  cases em : ma ρ with
  | bad => rw [em] at h; exact h.elim
  | exc c ρ1 => rw [em] at h; exact .inl (.inl ⟨ρ, o, S, by rw [em]; exact h⟩)
  | ok d ρ1 =>
    rw [em, bindR_ok] at h
    cases d with
    | list ds => exact .inl (.inl ⟨ρ, o, S, by
        rw [em]
        intro v H1 o1 S1 t1 s1
        cases s1 with
        | lst r s => exact ⟨_, rfl, ⟨_, r.elim (fun z => .inl z.2) .inr⟩, h _ H1 o1 S1 t1 (it_list r s)⟩⟩)
    | tuple ds => exact .inl (.inr ⟨ρ, o, S, by
        rw [em]
        intro v H1 o1 S1 t1 s1
        cases s1 with
        | tup r s => exact ⟨_, rfl, ⟨_, r.elim (fun z => .inl z.2) .inr⟩, h _ H1 o1 S1 t1 (it_tup r s)⟩⟩)
    | str z => exact .inr ⟨ρ, o, S, by
        rw [em]
        intro v H1 o1 S1 t1 s1
        exact ⟨z, s1.ofStr, h _ H1 o1 S1 t1 it_str⟩⟩
    | _ => exact h.elim
def rgD (lo : Int) (n : Nat) : List D := (List.range n).map fun i => .int (lo + (i : Nat))
theorem it_rg {K : PySem.W.Frag} {F : Addr → Prop} {H : Hp} {lo : Int} {n : Nat} : ItOk K F H (Itr lo n) (rgD lo n) := by
  intro F' H' t tr
  refine ⟨by show n ≤ _; simp [rgD], fun i d e => ?_⟩
  unfold rgD at e
  rw [List.getElem?_map, Option.map_eq_some_iff] at e
  obtain ⟨c, ec, rfl⟩ := e
  have hi : i < n := by
    have := (List.getElem?_eq_some_iff.mp ec).1
    simpa using this
  rw [List.getElem?_range hi] at ec
  cases ec
  refine ⟨hi, fun x H2 y => ?_⟩
  obtain ⟨e2, rfl⟩ := y
  subst e2
  exact ⟨.refl _, .int _⟩
def inB (n : Int) : Bool := decide (-(2 ^ 62) ≤ n ∧ n < 2 ^ 62)
def rg1 : D → Option (List D)
  | .int n => if inB n = true then some (rgD 0 n.toNat) else none
  | _ => none
def rg2 : D → D → Option (List D)
  | .int a, .int b => if inB a = true ∧ inB b = true then some (rgD a (b - a).toNat) else none
  | _, _ => none
def eRg1 (m : Env → Res D) : Env → Res (List D) := fun ρ => bindR (m ρ) fun d ρ1 => optR (rg1 d) ρ1
def eRg2 (m : Env → Res (List D)) : Env → Res (List D) := fun ρ => bindR (m ρ) fun ds ρ1 => match ds with | [a, b] => optR (rg2 a b) ρ1 | _ => .bad
theorem stepI {σ : St} {o : Nat → List Addr} {H : Hp} {α β : Type} {Rl : (Addr → Prop) → Hp → β → α → Prop} {Q : It → Hp → Prop} {m : Env → Res α} {k : α → Env → Res (List D)} {ρ : Env} (S : SRo X.K C o ρ σ H)
    (h : PoG (fun ds ρ' => ∀ J H' o', SRo X.K C o' ρ' σ H' → Tx (FF C.B o) H (FF C.B o') H' → ItOk X.K (FF C.B o') H' J ds → Q J H') (ExP X C W o σ H) (bindR (m ρ) k)) :
    tV X C W Rl m σ H (fun v H1 => ∃ ρ1 o1 d, SRo X.K C o1 ρ1 σ H1 ∧ Tx (FF C.B o) H (FF C.B o1) H1 ∧ Rl (FF C.B o1) H1 v d ∧ PoG (fun ds ρ' => ∀ J H' o', SRo X.K C o' ρ' σ H' → Tx (FF C.B o1) H1 (FF C.B o') H' → ItOk X.K (FF C.B o') H' J ds → Q J H') (ExP X C W o1 σ H1) (k d ρ1)) :=
  step (Ok := fun H o ds ρ' => ∀ J H' o', SRo X.K C o' ρ' σ H' → Tx (FF C.B o) H (FF C.B o') H' → ItOk X.K (FF C.B o') H' J ds → Q J H') S (fun _ _ _ _ t z J H' o' S' t' => z J H' o' S' (t.trans t')) h
theorem ji_rg1 (hm : X.mg "range" = none) (ha : JV X C W e ma) (hg : Gl X "range") (hs : starEach [e] X.env = [(false, eval e X.env)] := by rfl) : JI X C W tg (.Call (.Name "range" p) [e] [] pos) (eRg1 ma) :=
  PI.imp (pi_range1 hg hm (pa_cons ha pa_nil hs) hs) fun σ H Q ⟨ρ, o, S, h⟩ => by
    obtain ⟨ρ0, o0, S0, h0⟩ := stepI (Rl := Sh X.K) S h
    refine ⟨ρ0, o0, S0, h0.imp (fun d ρ1 z v H1 o1 S1 t1 s1 => ?_) fun _ _ z => z⟩
    obtain ⟨ρ1', o1', d', S1', T1, s1', q1⟩ := z v H1 o1 S1 t1 s1
    cases d' with
    | int n =>
      unfold rg1 at q1
      dsimp only at q1
      split at q1
      · rename_i hb
        have hb := of_decide_eq_true hb
        exact ⟨n, by rw [s1'.ofInt], hb.1, hb.2, q1 _ H1 o1' S1' (.refl _ _) it_rg⟩
      · exact q1.elim
    | _ => exact q1.elim
theorem ji_rg2 {m : Env → Res (List D)} (hm : X.mg "range" = none) (ha : JA X C W [e, b] m) (hg : Gl X "range") (hs : starEach [e, b] X.env = [(false, eval e X.env), (false, eval b X.env)] := by rfl) (hs2 : starEach [b] X.env = [(false, eval b X.env)] := by rfl) : JI X C W tg (.Call (.Name "range" p) [e, b] [] pos) (eRg2 m) :=
  PI.imp (pi_range2 hg hm ha hs hs2) fun σ H Q ⟨ρ, o, S, h⟩ => by
    obtain ⟨ρ0, o0, S0, h0⟩ := stepI (Rl := ShA X.K) S h
    refine ⟨ρ0, o0, S0, h0.imp (fun d ρ1 z v H1 o1 S1 t1 s1 => ?_) fun _ _ z => z⟩
    obtain ⟨ρ1', o1', d', S1', T1, s1', q1⟩ := z v H1 o1 S1 t1 s1
    cases s1' with
    | nil => exact q1.elim
    | cons ha s2 =>
      cases s2 with
      | nil => exact q1.elim
      | cons hb s3 =>
        cases s3 with
        | cons _ _ => exact q1.elim
        | nil =>
          rename_i d1 _ d2
          cases d1 with
          | int n1 =>
            cases d2 with
            | int n2 =>
              dsimp only [rg2] at q1
              split at q1
              · rename_i hbb
                have h1 := of_decide_eq_true hbb.1
                have h2 := of_decide_eq_true hbb.2
                exact ⟨n1, n2, by rw [ha.ofInt, hb.ofInt], ⟨h1.1, h1.2, h2.1, h2.2⟩, q1 _ H1 o1' S1' (.refl _ _) it_rg⟩
              · exact q1.elim
            | _ => exact q1.elim
          | _ => exact q1.elim

/-! ### own lists: append, pop, extend, xs[i] = e -/
def lstAt : Sl → Option (List D)
  | .own (.lst xs) => some xs
  | .bor (.lst xs) => some xs
  | _ => none
def lstTo : Sl → List D → Sl
  | .bor _, xs => .bor (.lst xs)
  | _, xs => .own (.lst xs)
theorem lst_at {o : Nat → List Addr} {ρ : Env} {σ : St} {H : Hp} {i : Nat} {xs : List D} (S : SRo X.K C o ρ σ H) (h : lstAt (gS ρ i) = some xs) : ∃ a vs, σ[i]? = some (some (.ref a)) ∧ o i = [a] ∧ H a = some (.lst vs) ∧ ShA X.K (FF C.B o) H vs xs ∧ i < ρ.length := by
  have hl : i < ρ.length := by
    by_cases hl : i < ρ.length
    · exact hl
    · rw [gS_out (by omega)] at h; cases h
  have z := S.slot i
  cases g : gS ρ i with
  | emp => rw [g] at h; cases h
  | val d => rw [g] at h; cases h
  | own c =>
    rw [g] at h z
    cases c with
    | lst ys =>
      cases h
      obtain ⟨v, ev, a, vs, e1, e2, e3, e4⟩ := z
      subst e2
      exact ⟨a, vs, ev, e1, e3, e4, hl⟩
    | dic _ => cases h
  | bor c =>
    rw [g] at h z
    cases c with
    | lst ys =>
      cases h
      obtain ⟨ev, a, vs, e1, e2, e3, e4⟩ := z
      rw [e2] at ev
      exact ⟨a, vs, ev, e1, e3, e4, hl⟩
    | dic _ => cases h
theorem lst_wr {o : Nat → List Addr} {ρ : Env} {σ : St} {H : Hp} {i : Nat} {a : Addr} {xs ys : List D} {ws : List V} (S : SRo X.K C o ρ σ H) (h : lstAt (gS ρ i) = some xs) (ea : σ[i]? = some (some (.ref a))) (s : ShA X.K (FF C.B o) H ws ys) :
    SRo X.K C o (sS ρ i (lstTo (gS ρ i) ys)) σ (upd H a (.lst ws)) ∧ Tx (FF C.B o) H (FF C.B o) (upd H a (.lst ws)) := by
  obtain ⟨a', vs, ea', eo, eH, sh, hl⟩ := lst_at S h
  rw [ea] at ea'
  cases ea'
  refine S.wr eo hl fun H' t e => ?_
  have z := S.slot i
  cases g : gS ρ i with
  | emp => rw [g] at h; cases h
  | val d => rw [g] at h; cases h
  | own c => exact ⟨.ref a, ea, a, ws, rfl, rfl, e, s.tx t⟩
  | bor c =>
    rw [g] at z
    rw [z.1] at ea
    have eb : C.bv i = .ref a := Option.some.inj (Option.some.inj ea)
    exact ⟨z.1, a, ws, rfl, eb, e, s.tx t⟩
def sApp (i : Nat) (m : Env → Res R) : Env → SR := fun ρ => match lstAt (gS ρ i) with
  | none => .bad
  | some _ => bindRS (m ρ) fun r ρ1 => match lstAt (gS ρ1 i) with
    | some xs => if xs.length < 16777216 then .nx (sS ρ1 i (lstTo (gS ρ1 i) (xs ++ [r.toD]))) else .bad
    | none => .bad
theorem tyV_l {o : Nat → List Addr} {ρ : Env} {σ : St} {H : Hp} {i : Nat} {xs : List D} (S : SRo X.K C o ρ σ H) (h : lstAt (gS ρ i) = some xs) : ∃ a, σ[i]? = some (some (.ref a)) ∧ tyV X.K "list" (.ref a) H := by
  obtain ⟨a, vs, ea, eo, eH, sh, hl⟩ := lst_at S h
  exact ⟨a, ea, .inl ⟨rfl, vs, .of eH⟩⟩
variable {apos : Pos} {m : Env → Res R}
theorem js_app {i : Nat} (ho : PE X b (tVar i)) (he : JE X C W e m) (hp : ∀ {te : TE}, PE X e te → PS X (.Expr (.Call (.Attribute b "append" apos) [e] [] p) pos) (tDrop (tBM X.K "list" rAppend (tVar i) (tCons te tNil)))) :
    JS X C W (.Expr (.Call (.Attribute b "append" apos) [e] [] p) pos) (sApp i m) := PS.imp (hp he) fun D σ H ⟨ρ, o, S, h⟩ => by
  unfold sApp at h
  cases g : lstAt (gS ρ i) with
  | none => simp only [g] at h; exact h.elim
  | some xs =>
    simp only [g] at h
    obtain ⟨a, ea, ty⟩ := tyV_l S g
    refine ⟨.ref a, ea, ty, ?_⟩
    refine stepSE S h fun r ρ1 z => OkE.of_val fun v H1 o1 S1 t s => ?_
    cases g1 : lstAt (gS ρ1 i) with
    | none => simp only [g1] at z; exact z.elim
    | some ys =>
      simp only [g1] at z
      split at z
      · rename_i hl
        obtain ⟨a1, vs1, ea1, eo1, eH1, sh1, hl1⟩ := lst_at S1 g1
        rw [ea] at ea1
        cases ea1
        obtain ⟨S2, t2⟩ := lst_wr (ws := vs1 ++ [v]) (ys := ys ++ [r.toD]) S1 g1 ea (sh1.append (.one s))
        exact ⟨a, vs1, v, rfl, rfl, eH1, by rw [sh1.length]; exact line_lt hl, z σ _ o1 S2 (t.trans t2)⟩
      · exact z.elim
def ePop (i : Nat) : Env → Res R := fun ρ => match lstAt (gS ρ i) with
  | some xs => match xs.getLast? with
    | some d => .ok (.val d) (sS ρ i (lstTo (gS ρ i) xs.dropLast))
    | none => .bad
  | none => .bad
theorem je_pop {i : Nat} (hp : PE X e (tBM0 X.K "list" rPop (tVar i))) : JE X C W e (ePop i) := PE.imp hp fun σ H Q ⟨ρ, o, S, h⟩ => by
  unfold ePop at h
  cases g : lstAt (gS ρ i) with
  | none => simp only [g] at h; exact h.elim
  | some xs =>
    simp only [g] at h
    cases gl : xs.getLast? with
    | none => simp only [gl] at h; exact h.elim
    | some d =>
      simp only [gl] at h
      obtain ⟨a, ea, ty⟩ := tyV_l S g
      obtain ⟨a1, vs1, ea1, eo1, eH1, sh1, hl1⟩ := lst_at S g
      rw [ea] at ea1
      cases ea1
      rw [List.getLast?_eq_getElem?] at gl
      obtain ⟨v, ev, sv⟩ := sh1.get gl
      have sd : ShA X.K (FF C.B o) H vs1.dropLast xs.dropLast := by
        rw [List.dropLast_eq_take, List.dropLast_eq_take, sh1.length]
        exact sh1.take _
      obtain ⟨S2, t2⟩ := lst_wr S g ea sd
      exact ⟨.ref a, ea, ty, a, vs1, v, rfl, rfl, eH1, by rw [sh1.length]; exact ev, h v _ o S2 t2 (sv.tx t2)⟩
/-- xs[k] = e -/
def sSetL (i : Nat) (me mk : Env → Res D) : Env → SR := fun ρ => bindRS (me ρ) fun x ρ1 => match lstAt (gS ρ1 i) with
  | none => .bad
  | some _ => bindRS (mk ρ1) fun k ρ2 => match lstAt (gS ρ2 i), k with
    | some xs, .int n => match ixN xs.length n with
      | some j => .nx (sS ρ2 i (lstTo (gS ρ2 i) (xs.set j x)))
      | none => .bad
    | _, _ => .bad
theorem js_setL {i : Nat} {tpos : Pos} {kx : Expr} {mk : Env → Res D} (he : JV X C W e ma) (ho : PE X b (tVar i)) (hk : JV X C W kx mk) (hp : PS X (.Assign [.Subscript b kx tpos] e pos) (tAsg (tV X C W (Sh X.K) ma) (gSub (tVar i) (tV X C W (Sh X.K) mk) rSetL))) :
    JS X C W (.Assign [.Subscript b kx tpos] e pos) (sSetL i ma mk) := PS.imp hp fun D σ H ⟨ρ, o, S, h⟩ => by
  obtain ⟨ρ0, o0, S0, h0⟩ := stepS (Rl := Sh X.K) S h
  refine ⟨ρ0, o0, S0, h0.imp (fun d ρ1 z v H1 o1 S1 t1 s1 => ?_) fun _ _ z => z⟩
  obtain ⟨ρ1', o1', d', S1', T1, s1', q1⟩ := z v H1 o1 S1 t1 s1
  cases g : lstAt (gS ρ1' i) with
  | none => simp only [g] at q1; exact q1.elim
  | some xs0 =>
    simp only [g] at q1
    obtain ⟨a, vs, ea, eo, eH, sh, hl⟩ := lst_at S1' g
    refine ⟨.ref a, ea, ?_⟩
    obtain ⟨ρ2, o2, S2, h2⟩ := stepS (Rl := Sh X.K) S1' q1
    refine ⟨ρ2, o2, S2, h2.imp (fun d2 ρ3 z2 v2 H2 o3 S3 t3 s3 => ?_) fun _ _ z => z⟩
    obtain ⟨ρ4, o4, d4, S4, T4, s4, q4⟩ := z2 v2 H2 o3 S3 t3 s3
    cases g4 : lstAt (gS ρ4 i) with
    | none => simp only [g4] at q4; exact q4.elim
    | some xs =>
      cases d4 with
      | int n =>
        simp only [g4] at q4
        cases ej : ixN xs.length n with
        | none => simp only [ej] at q4; exact q4.elim
        | some j =>
          simp only [ej] at q4
          obtain ⟨a1, vs1, ea1, eo1, eH1, sh1, hl1⟩ := lst_at S4 g4
          rw [ea] at ea1
          cases ea1
          obtain ⟨S5, t5⟩ := lst_wr (ws := vs1.set j v) S4 g4 ea (ShA.set (s1'.tx T4) j sh1)
          exact ⟨a, vs1, n, j, rfl, s4.ofInt, eH1, by rw [sh1.length]; exact ej, q4 σ _ o4 S5 t5⟩
      | _ => simp only [g4] at q4; exact q4.elim
end
end Dn
set_option Elab.async false
set_option linter.all false
set_option maxRecDepth 100000
set_option maxHeartbeats 2000000
/-! Dn8: own dicts, extend -/
namespace Dn
open PySem L2

section
variable {X : Cx} {C : Ctx} {W : WX} {e b kx : Expr} {ma mb mk : Env → Res D} {pos p p1 p2 apos tpos : Pos}
/-! ### dicts whose keys are ints and texts -/
def keyD : D → Option Key
  | .int i => some (.inl i)
  | .str x => some (.inr x)
  | _ => none
def lookD (ds : List (D × D)) (k : Key) : Option D := (ds.find? fun p => decide (keyD p.1 = some k)).map (·.2)
theorem keyD_kd (k : Key) : keyD (kd k) = some k := by cases k <;> rfl
theorem look_sh {K : PySem.W.Frag} {F : Addr → Prop} {H : Hp} (k : Key) : ∀ {vs : List (Key × V)} {ds : List (D × D)}, ShK K F H vs ds → (valV vs k = none ∧ lookD ds k = none) ∨ ∃ v d, valV vs k = some v ∧ lookD ds k = some d ∧ Sh K F H v d
  | _, _, .nil => .inl ⟨rfl, rfl⟩
  | (k', v) :: vs, (_, d) :: ds, .cons h s => by
    by_cases e : k' = k
    · subst e
      exact .inr ⟨v, d, valV_pos rfl, by unfold lookD; rw [List.find?_cons]; simp [keyD_kd], h⟩
    · have e1 : valV ((k', v) :: vs) k = valV vs k := by unfold valV; rw [List.find?_cons]; simp [e]
      have e2 : lookD ((kd k', d) :: ds) k = lookD ds k := by unfold lookD; rw [List.find?_cons]; simp [keyD_kd, e]
      rw [e1, e2]
      exact look_sh k s
theorem key_sh {K : PySem.W.Frag} {F : Addr → Prop} {H : Hp} {v : V} {d : D} {k : Key} (h : Sh K F H v d) (e : keyD d = some k) : v = kV k := by
  cases h with
  | int i => cases e; rfl
  | str x => cases e; rfl
  | _ => cases e
theorem DGet.r {H : Hp} {a : Addr} {kvs : List (Key × V)} {k : Key} (e : Rd H a (.dK kvs)) : DGet H a (kV k) (valV kvs k) := .inl ⟨kvs, k, e, rfl, rfl⟩
/-- {} -/
def eDic0 : Env → Res R := fun ρ => .ok (.fresh (.dic [])) ρ
theorem je_dic0 : JE X C W (.Dict [] [] pos) eDic0 := PE.imp pe_dnewK fun σ H Q ⟨ρ, o, S, h⟩ => fun p hp =>
  newOk S (r := .fresh (.dic [])) h _ _ [p] (same_new hp) (by simp) (fun a ha => by simp at ha; rw [ha]; exact hp) (fun a ha => by simp at ha; rw [ha, upd_same]; exact fun z => nomatch z) ⟨p, [], rfl, rfl, upd_same, .nil⟩
/-- k in d, k not in d; d a name -/
def eDin (neg : Bool) (i : Nat) (mk : Env → Res D) : Env → Res R := fun ρ => bindR (mk ρ) fun k ρ1 => bindR (ePk i ρ1) fun d ρ2 => match d, keyD k with
  | .dict ds, some q => .ok (.val (.bool (if neg then !(lookD ds q).isSome else (lookD ds q).isSome))) ρ2
  | _, _ => .bad
theorem din_imp {neg : Bool} {i : Nat} {o : Nat → List Addr} {ρ : Env} {σ : St} {H : Hp} {Q : VK} (S : SRo X.K C o ρ σ H) (h : PoG (OkE X C o σ H Q) (ExP X C W o σ H) (eDin neg i mk ρ)) :
    tV X C W (Sh X.K) mk σ H fun y H1 => (tVar i) σ H1 fun x H2 => ∃ a oo, x = .ref a ∧ DGet H2 a y oo ∧ Q (.bl (if neg then !oo.isSome else oo.isSome)) H2 := by
  obtain ⟨ρ0, o0, S0, h0⟩ := stepE (Rl := Sh X.K) S h
  refine ⟨ρ0, o0, S0, h0.imp (fun d ρ1 z v H1 o1 S1 t1 s1 => ?_) fun _ _ z => z⟩
  obtain ⟨ρ1', o1', d', S1', T1, s1', q1⟩ := z v H1 o1 S1 t1 s1
  have hv : ∃ w, σ[i]? = some (some w) := by
    have z := S1'.slot i
    unfold ePk at q1
    cases g : gS ρ1' i with
    | emp => rw [g] at q1; exact q1.elim
    | val d => rw [g] at z; exact ⟨_, z.2.choose_spec.1⟩
    | own c => rw [g] at z; exact ⟨_, z.choose_spec.1⟩
    | bor c => rw [g] at z; exact ⟨_, z.1⟩
  obtain ⟨w, hv⟩ := hv
  obtain ⟨dx, pk, q2⟩ := pk_at S1' hv q1
  refine ⟨w, hv, ?_⟩
  cases dx with
  | dict ds =>
    cases ek : keyD d' with
    | none => simp only [ek] at q2; exact q2.elim
    | some q =>
      simp only [ek] at q2
      obtain ⟨a, kvs, rfl, r, s⟩ := pk
      refine ⟨a, valV kvs q, rfl, by rw [key_sh s1' ek]; exact DGet.r r, ?_⟩
      have e : (valV kvs q).isSome = (lookD ds q).isSome := by
        rcases look_sh q s with ⟨h1, h2⟩ | ⟨v, d, h1, h2, _⟩
        · rw [h1, h2]; rfl
        · rw [h1, h2]; rfl
      rw [e]
      exact newOk (r := .val (.bool _)) S1' q2 _ _ (.refl _) (.bl _)
  | _ => exact q2.elim
theorem je_din {i : Nat} (hu : X.A.units + 1 < cLine) (hk : JV X C W kx mk) (ho : PE X b (tVar i)) (hm : behindInMarks .In b = false := by rfl) : JE X C W (.Compare kx [.In] [b] pos) (eDin false i mk) := PE.imp (pe_cmp (pc_din hu hk ho) hm) fun σ H Q ⟨ρ, o, S, h⟩ => din_imp S h
theorem je_dnin {i : Nat} (hu : X.A.units + 1 < cLine) (hk : JV X C W kx mk) (ho : PE X b (tVar i)) (hm : behindInMarks .NotIn b = false := by rfl) : JE X C W (.Compare kx [.NotIn] [b] pos) (eDin true i mk) := PE.imp (pe_cmp (pc_dnotin hu hk ho) hm) fun σ H Q ⟨ρ, o, S, h⟩ => din_imp S h
theorem jt_din {i : Nat} (hu : X.A.units + 1 < cLine) (hk : JV X C W kx mk) (ho : PE X b (tVar i)) (hm : behindInMarks .In b = false := by rfl) : JT X C W (.Compare kx [.In] [b] pos) (tBoolD (eDin false i mk)) := PT.imp (pt_cmp (pc_din hu hk ho) hm) fun σ H Q ⟨ρ, o, S, h⟩ => by
  obtain ⟨ρ0, o0, S0, h0⟩ := tB_imp S h
  exact din_imp S0 h0
theorem jt_dnin {i : Nat} (hu : X.A.units + 1 < cLine) (hk : JV X C W kx mk) (ho : PE X b (tVar i)) (hm : behindInMarks .NotIn b = false := by rfl) : JT X C W (.Compare kx [.NotIn] [b] pos) (tBoolD (eDin true i mk)) := PT.imp (pt_cmp (pc_dnotin hu hk ho) hm) fun σ H Q ⟨ρ, o, S, h⟩ => by
  obtain ⟨ρ0, o0, S0, h0⟩ := tB_imp S h
  exact din_imp S0 h0
def putD (kvs : List (Key × D)) (k : Key) (d : D) : List (Key × D) :=
  if (kvs.any fun kv => decide (kv.1 = k)) = true then kvs.map (fun kv => if kv.1 = k then (kv.1, d) else kv) else kvs ++ [(k, d)]
def lookC (kvs : List (Key × D)) (k : Key) : Option D := (kvs.find? fun p => decide (p.1 = k)).map (·.2)
theorem lookD_map (kvs : List (Key × D)) (k : Key) : lookD (kvs.map fun p => (kd p.1, p.2)) k = lookC kvs k := by
  unfold lookD lookC
  induction kvs with
  | nil => rfl
  | cons p r ih =>
    rw [List.map_cons, List.find?_cons, List.find?_cons]
    by_cases e : p.1 = k
    · simp [e, keyD_kd]
    · have e' : decide (keyD (kd p.1) = some k) = false := decide_eq_false (by rw [keyD_kd]; exact fun z => e (Option.some.inj z))
      have e2 : decide (p.1 = k) = false := decide_eq_false e
      rw [e', e2]
      exact ih
theorem put_sh {K : PySem.W.Frag} {F : Addr → Prop} {H : Hp} {k : Key} {v : V} {d : D} (h : Sh K F H v d) {vs : List (Key × V)} {kvs : List (Key × D)} (s : ShD K F H vs kvs) : ShD K F H (putK vs k v) (putD kvs k d) := by
  have any : ∀ {vs : List (Key × V)} {kvs : List (Key × D)}, ShD K F H vs kvs → (vs.any fun kv => decide (kv.1 = k)) = kvs.any fun kv => decide (kv.1 = k) := by
    intro vs kvs s
    induction s with
    | nil => rfl
    | cons h' _ ih => rw [List.any_cons, List.any_cons, ih, h'.1]
  have mp : ∀ {vs : List (Key × V)} {kvs : List (Key × D)}, ShD K F H vs kvs → ShD K F H (vs.map fun kv => if kv.1 = k then (kv.1, v) else kv) (kvs.map fun kv => if kv.1 = k then (kv.1, d) else kv) := by
    intro vs kvs s
    induction s with
    | nil => exact .nil
    | @cons p q _ _ h' _ ih =>
      rw [List.map_cons, List.map_cons]
      refine .cons ?_ ih
      obtain ⟨e, sh⟩ := h'
      by_cases c : p.1 = k
      · rw [if_pos c, if_pos (e ▸ c)]; exact ⟨e, h⟩
      · rw [if_neg c, if_neg (e ▸ c)]; exact ⟨e, sh⟩
  have ap : ∀ {vs : List (Key × V)} {kvs : List (Key × D)}, ShD K F H vs kvs → ShD K F H (vs ++ [(k, v)]) (kvs ++ [(k, d)]) := by
    intro vs kvs s
    induction s with
    | nil => exact .cons ⟨rfl, h⟩ .nil
    | cons h' _ ih => exact .cons h' ih
  unfold putK putD
  rw [any s]
  split
  · exact mp s
  · exact ap s
def dicAt : Sl → Option (List (Key × D))
  | .own (.dic xs) => some xs
  | .bor (.dic xs) => some xs
  | _ => none
def dicTo : Sl → List (Key × D) → Sl
  | .bor _, xs => .bor (.dic xs)
  | _, xs => .own (.dic xs)
theorem dic_at {o : Nat → List Addr} {ρ : Env} {σ : St} {H : Hp} {i : Nat} {xs : List (Key × D)} (S : SRo X.K C o ρ σ H) (h : dicAt (gS ρ i) = some xs) : ∃ a vs, σ[i]? = some (some (.ref a)) ∧ o i = [a] ∧ H a = some (.dK vs) ∧ ShD X.K (FF C.B o) H vs xs ∧ i < ρ.length := by
  have hl : i < ρ.length := by
    by_cases hl : i < ρ.length
    · exact hl
    · rw [gS_out (by omega)] at h; cases h
  have z := S.slot i
  cases g : gS ρ i with
  | emp => rw [g] at h; cases h
  | val d => rw [g] at h; cases h
  | own c =>
    rw [g] at h z
    cases c with
    | dic ys =>
      cases h
      obtain ⟨v, ev, a, vs, e1, e2, e3, e4⟩ := z
      subst e2
      exact ⟨a, vs, ev, e1, e3, e4, hl⟩
    | lst _ => cases h
  | bor c =>
    rw [g] at h z
    cases c with
    | dic ys =>
      cases h
      obtain ⟨ev, a, vs, e1, e2, e3, e4⟩ := z
      rw [e2] at ev
      exact ⟨a, vs, ev, e1, e3, e4, hl⟩
    | lst _ => cases h
theorem dic_wr {o : Nat → List Addr} {ρ : Env} {σ : St} {H : Hp} {i : Nat} {a : Addr} {xs ys : List (Key × D)} {ws : List (Key × V)} (S : SRo X.K C o ρ σ H) (h : dicAt (gS ρ i) = some xs) (ea : σ[i]? = some (some (.ref a))) (s : ShD X.K (FF C.B o) H ws ys) :
    SRo X.K C o (sS ρ i (dicTo (gS ρ i) ys)) σ (upd H a (.dK ws)) ∧ Tx (FF C.B o) H (FF C.B o) (upd H a (.dK ws)) := by
  obtain ⟨a', vs, ea', eo, eH, sh, hl⟩ := dic_at S h
  rw [ea] at ea'
  cases ea'
  refine S.wr eo hl fun H' t e => ?_
  have z := S.slot i
  cases g : gS ρ i with
  | emp => rw [g] at h; cases h
  | val d => rw [g] at h; cases h
  | own c => exact ⟨.ref a, ea, a, ws, rfl, rfl, e, s.tx t⟩
  | bor c =>
    rw [g] at z
    rw [z.1] at ea
    have eb : C.bv i = .ref a := Option.some.inj (Option.some.inj ea)
    exact ⟨z.1, a, ws, rfl, eb, e, s.tx t⟩
theorem ShD.length {K : PySem.W.Frag} {F : Addr → Prop} {H : Hp} {vs : List (Key × V)} {kvs : List (Key × D)} (s : ShD K F H vs kvs) : vs.length = kvs.length := by
  induction s with
  | nil => rfl
  | cons _ _ ih => rw [List.length_cons, List.length_cons, ih]
/-- d[k] = e -/
def sSetD (i : Nat) (me mk : Env → Res D) : Env → SR := fun ρ => bindRS (me ρ) fun x ρ1 => match dicAt (gS ρ1 i) with
  | none => .bad
  | some _ => bindRS (mk ρ1) fun k ρ2 => match dicAt (gS ρ2 i), keyD k with
    | some kvs, some q => if kvs.length < 16777216 then .nx (sS ρ2 i (dicTo (gS ρ2 i) (putD kvs q x))) else .bad
    | _, _ => .bad
theorem js_setD {i : Nat} (hu : X.A.units + 1 < cLine) (he : JV X C W e ma) (ho : PE X b (tVar i)) (hk : JV X C W kx mk) (hs : swapsWith e (some (.Subscript b kx tpos)) pos.line X.env = pure false := by rfl) :
    JS X C W (.Assign [.Subscript b kx tpos] e pos) (sSetD i ma mk) := PS.imp (ps_dput hu ho hk he hs) fun D σ H ⟨ρ, o, S, h⟩ => by
  obtain ⟨ρ0, o0, S0, h0⟩ := stepS (Rl := Sh X.K) S h
  refine ⟨ρ0, o0, S0, h0.imp (fun d ρ1 z v H1 o1 S1 t1 s1 => ?_) fun _ _ z => z⟩
  obtain ⟨ρ1', o1', d', S1', T1, s1', q1⟩ := z v H1 o1 S1 t1 s1
  cases g : dicAt (gS ρ1' i) with
  | none => simp only [g] at q1; exact q1.elim
  | some xs0 =>
    simp only [g] at q1
    obtain ⟨a, vs, ea, eo, eH, sh, hl⟩ := dic_at S1' g
    refine ⟨.ref a, ea, ?_⟩
    obtain ⟨ρ2, o2, S2, h2⟩ := stepS (Rl := Sh X.K) S1' q1
    refine ⟨ρ2, o2, S2, h2.imp (fun d2 ρ3 z2 v2 H2 o3 S3 t3 s3 => ?_) fun _ _ z => z⟩
    obtain ⟨ρ4, o4, d4, S4, T4, s4, q4⟩ := z2 v2 H2 o3 S3 t3 s3
    cases g4 : dicAt (gS ρ4 i) with
    | none => simp only [g4] at q4; exact q4.elim
    | some kvs =>
      cases ek : keyD d4 with
      | none => simp only [g4, ek] at q4; exact q4.elim
      | some q =>
        simp only [g4, ek] at q4
        split at q4
        · rename_i hlen
          obtain ⟨a1, vs1, ea1, eo1, eH1, sh1, hl1⟩ := dic_at S4 g4
          rw [ea] at ea1
          cases ea1
          obtain ⟨S5, t5⟩ := dic_wr (ws := putK vs1 q v) S4 g4 ea (put_sh (s1'.tx T4) sh1)
          exact ⟨a, _, rfl, by rw [key_sh s4 ek]; exact DPut.k eH1 (by rw [sh1.length]; exact line_lt hlen), q4 σ _ o4 S5 t5⟩
        · exact q4.elim

/-! ### extend by a new list -/
def sExt (i : Nat) (m : Env → Res R) : Env → SR := fun ρ => match lstAt (gS ρ i) with
  | none => .bad
  | some _ => bindRS (m ρ) fun r ρ1 => match lstAt (gS ρ1 i), r with
    | some xs, .fresh (.lst ys) => if xs.length + ys.length ≤ 16777216 then .nx (sS ρ1 i (lstTo (gS ρ1 i) (xs ++ ys))) else .bad
    | _, _ => .bad
theorem js_ext {m : Env → Res R} {i : Nat} (he : JE X C W e m) (hp : ∀ {te : TE}, PE X e te → PS X (.Expr (.Call (.Attribute b "extend" apos) [e] [] p) pos) (tDrop (tBM X.K "list" rExtend (tVar i) (tCons te tNil)))) :
    JS X C W (.Expr (.Call (.Attribute b "extend" apos) [e] [] p) pos) (sExt i m) := PS.imp (hp he) fun D σ H ⟨ρ, o, S, h⟩ => by
  unfold sExt at h
  cases g : lstAt (gS ρ i) with
  | none => simp only [g] at h; exact h.elim
  | some xs =>
    simp only [g] at h
    obtain ⟨a, ea, ty⟩ := tyV_l S g
    refine ⟨.ref a, ea, ty, ?_⟩
    refine stepSE S h fun r ρ1 z => ?_
    cases g1 : lstAt (gS ρ1 i) with
    | none => simp only [g1] at z; exact z.elim
    | some ys =>
      cases r with
      | val d => simp only [g1] at z; exact z.elim
      | fresh c =>
        cases c with
        | dic _ => simp only [g1] at z; exact z.elim
        | lst zs =>
          simp only [g1] at z
          split at z
          · rename_i hl
            intro v H1 o1 as nd h0 nB S1 t cr
            obtain ⟨bb, ws, rfl, rfl, eb, sb⟩ := cr
            have S1' := S1.less
            have g1' : lstAt (gS ρ1 i) = some ys := g1
            obtain ⟨a1, vs1, ea1, eo1, eH1, sh1, hl1⟩ := lst_at S1' g1'
            rw [ea] at ea1
            cases ea1
            have sb' : ShA X.K (FF C.B o1) H1 ws zs := sb.tx (.less fun a z => z.elim (fun q => .inl (.inl q)) .inr)
            obtain ⟨S2, t2⟩ := lst_wr (ws := vs1 ++ ws) (ys := ys ++ zs) S1' g1' ea (sh1.append sb')
            exact ⟨a, bb, vs1, ws, rfl, rfl, eH1, eb, by rw [sh1.length, sb.length]; exact line_of hl, z σ _ o1 S2 (t.dropB.trans t2)⟩
          · exact z.elim
end
end Dn
set_option Elab.async false
set_option linter.all false
set_option maxRecDepth 100000
set_option maxHeartbeats 1000000
/-! Dn9: the ends -/
namespace Dn
open PySem L2
open PyProof.Rows (envOfC)

def Known (P : Program) (w : World) (K : PySem.W.Frag) (mg : Str → Option Value) (base : Heap) (x : Str) (ps : List Str) (k : Nat) (den : Env → Res R) : Prop :=
  ∃ a fd, FnOk P w K mg base (L2.CX P w) k a fd ps (spG K mg ps.length den) ∧ mg x = some (.ref a) ∧ PySem.W.keepIn K (.ref a) = true ∧ Binds K fd ps []
def Err (K : PySem.W.Frag) (mg : Str → Option Value) (x : Str) : Prop :=
  ∃ A, PySem.W.excIn K A [.type "ValueError", .type "Exception", .type "BaseException", .type "object"] "ValueError.__new__" = true ∧ mg x = some (.ref A) ∧ PySem.W.keepIn K (.ref A) = true ∧ PySem.W.subIn K (.ref A) (.type "BaseException") = some true ∧ PySem.W.typeIn K (.ref A) = some (.type "type")
section
variable {P : Program} {w : World} {K : PySem.W.Frag} {mg : Str → Option Value} {base : Heap}
theorem known {x qual : Str} {st : Stmt} {f : Addr} {fd : FuncData} {N ps : List Str} {k : Nat} {body : Env → SR} (F : Fun K x qual st f fd) (S : FnScope N ps (defScope st))
    (hb : ∀ (cdv : Value) (A : Around) (outer : List PySem.Env) (s : Shared) (H : Hp) (E : XK) (C : Ctx), Room k (A.deeper (envOfC qual (defScope st) s.heap.objs.size f cdv)) →
      Takes (cxOf (L2.CX P w) P w K mg base N qual (defScope st) f cdv A outer s H E) (fun cls d _ H => E cls d H) →
      PassesOwn (model P w) (cxOf (L2.CX P w) P w K mg base N qual (defScope st) f cdv A outer s H E).A (cxOf (L2.CX P w) P w K mg base N qual (defScope st) f cdv A outer s H E).env (cxOf (L2.CX P w) P w K mg base N qual (defScope st) f cdv A outer s H E).xe →
      JSs (cxOf (L2.CX P w) P w K mg base N qual (defScope st) f cdv A outer s H E) C (fun cls d _ H => E cls d H) (defBody st) body) :
    FnOk P w K mg base (L2.CX P w) (k + 1) f fd ps (spG K mg ps.length (mkF ps.length N.length body)) :=
  fn_ok F S fun cdv A outer s H E C hr => hb cdv A outer s H E C hr (takes_of rfl rfl rfl rfl) (passes_of rfl)
/-- what law(script) promises: for a list of at most 63 ints the answer is True -/
def spLaw (K : PySem.W.Frag) : Sp := fun vs H Q _ => ∃ (a : Addr) (ns : List Int), vs = [.ref a] ∧ SqL K H a (ns.map V.int) ∧ ns.length ≤ 63 ∧ ∀ H', Q (.bl true) H'
theorem shA_ints {F : Addr → Prop} {H : Hp} : ∀ ns : List Int, ShA K F H (ns.map V.int) (ns.map PyData.int)
  | [] => .nil
  | i :: r => .cons (.int i) (shA_ints r)
def script (ns : List Int) : D := .list (ns.map .int)
theorem law_start {d : Env → Res R} (hp : ∀ ns : List Int, ns.length ≤ 63 → ∃ ρ, d [.val (script ns)] = .ok (.val (.bool true)) ρ) {vs : List V} {H : Hp} {Q : VK} {E : XK} (h : spLaw K vs H Q E) : spG K mg 1 d vs H Q E := by
  obtain ⟨a, ns, rfl, hS, hl, q⟩ := h
  refine ⟨rfl, ⟨fun _ => False, H, fun i => ([.ref a] : List V).getD i .non⟩, fun _ => [], vals [script ns], fun i v e => by show ([.ref a] : List V).getD i .non = v; rw [List.getD_eq_getElem?_getD, e]; rfl, SRo.vals (fun a z => z.elim) (.cons ?_ .nil) _, ?_⟩
  · rcases hS with r | r
    · exact .lst (.inl ⟨fun z => z, r⟩) (shA_ints ns)
    · exact .lst (.inr r) (shA_ints ns)
  · obtain ⟨ρ, e⟩ := hp ns hl
    have e : d (vals [script ns]) = .ok (.val (.bool true)) ρ := e
    rw [e]
    intro v H' o' S t s
    cases s
    exact q H'
theorem law_fn {k : Nat} {f : Addr} {fd : FuncData} {ps : List Str} {d : Env → Res R} (hp : ∀ ns : List Int, ns.length ≤ 63 → ∃ ρ, d [.val (script ns)] = .ok (.val (.bool true)) ρ) (F : FnOk P w K mg base (L2.CX P w) k f fd ps (spG K mg 1 d)) :
    FnOk P w K mg base (L2.CX P w) k f fd ps (spLaw K) := F.imp fun _ _ _ _ h => law_start hp h
end
theorem walk {l : PySem.W.OpenLaw} {q : Program} {loose : List Str} {XP : (Str → Option Value) → Heap → Prop} {YP : World → Heap → Prop} {d : DefRec} {K : Params → PySem.W.Frag} (k : Nat) (hn : l.most = some 63) (hr : Room k callerA) (hdf : d.params.defaults = [])
    (hY : ∀ (w : World) (h : Heap), YP w h → (K w.params).In h)
    (F : ∀ (w : World) (mg : Str → Option Value) (fa : Addr) (h : Heap), (K w.params).In h → h.Ns mainGlobals mg → mg d.name = some (.ref fa) →
      ∃ fd : FuncData, (∀ (s : Shared) (u : Value), BindsTo s fd ⟨[u], []⟩ [("script", u)]) ∧ ∀ base : Heap, (K w.params).In base → base.Ns mainGlobals mg → FnOk l.prog w (K w.params) mg base (L2.CX l.prog w) k fa fd ["script"] (spLaw (K w.params))) :
    PySem.W.WalkO q loose XP YP l.row.toRowW d [] (fun f vs => PySem.call f vs) :=
  L2.walk_of (n := 63) (k := k) (x := "script") (CX := fun w => L2.CX l.prog w) (sp := fun w => spLaw (K w.params)) hn (by decide) hdf hr hY F (fun _ _ a ns hl _ hS => ⟨a, ns, rfl, hS, hl, fun _ => rfl⟩) fun _ H s e s' z => by
    obtain ⟨_, _, _, _, _, _, _, _, _, _, _, _, z⟩ := z
    exact z
end Dn
set_option Elab.async false
set_option linter.all false
set_option maxRecDepth 100000
set_option maxHeartbeats 1000000
/-! Dn10: try .. except X as e: return (what is known of e's class alone) -/
namespace Dn
open PySem L2
section
variable {X : Cx} {C : Ctx} {W : WX} {e : Expr} {body : List Stmt} {b : Env → SR} {x n : Str} {c : Value} {i : Nat} {np rp pos pos' : Pos}
def okV : D → Bool
  | .none => true
  | .bool _ => true
  | _ => false
/-- h: what of the classes that may be raised: none, not known; some none, goes on; some (some v), is caught: v is returned -/
def sTryR (i : Nat) (b : Env → SR) (h : Str → Option (Option D)) : Env → SR := fun ρ => match b ρ with
  | .exc c ρ1 => match h c with
    | some (some v) => if i < ρ1.length ∧ okV v = true then .ret (.val v) ρ1 else .bad
    | some none => .exc c ρ1
    | none => .bad
  | r => r
def tsR (X : Cx) (i : Nat) (h : Str → Option (Option D)) (a : Addr) (cls : Value) (d : Option Addr) : TS := fun D σ H =>
  ∃ A nm v, cls = .ref A ∧ d = none ∧ X.mg nm = some (.ref A) ∧ h nm = some (some v) ∧ σ[i]? = some (some (.ref a)) ∧ D.rt (vOf v) H
theorem js_tryR {h : Str → Option (Option D)} (hs : X.stack = X.env :: X.outer) (hf : X.env.frame = some X.env.locals) (hN : X.N.Nodup) (hi : X.N[i]? = some n) (hln : X.env.kindOf n = some .local) (hc : Names X x c) (tk : Takes X W)
    (hm : ∀ nm A r, X.mg nm = some (.ref A) → h nm = some r → PySem.W.exmOne X.K (.ref A) c = some r.isSome)
    (hb : ∀ (W' : WX) (pn : List (Addr × Obj)) (xe : Value → Shared → Prop), Takes (X.tr pn xe) W' → PassesOwn (model X.prog X.w) X.A X.env xe → JSs (X.tr pn xe) C W' body b)
    (hsu : ∀ (a : Addr) (oe : Obj) (A : Addr) (nm : Str) (v : D) (pn : List (Addr × Obj)), X.mg nm = some (.ref A) → h nm = some (some v) → Zc (.ref A) none oe → (∃ vs, oe.data = .fields vs) →
      PE (X.suite a ((a, oe) :: pn)) e (fun σ H Q => σ[i]? = some (some (.ref a)) ∧ Q (vOf v) H)) :
    JS X C W (.Try body [.ExceptHandler (some (.Name x np)) (some n) [.Return (some e) rp] pos'] [] [] pos) (sTryR i b h) :=
  PS.imp (ps_try_as hs hf hN hi hln hc tk (tb := fun W' => tS X C W' b) (ts := tsR X i h) (fun W' pn xe t p => hb W' pn xe t p) (fun a oe cls d pn hz hv => ⟨fun pins s σ H D I q => by
    obtain ⟨A, nm, v, rfl, rfl, q1, q2, q3, q4⟩ := q
    exact (pss_one (ps_ret (hsu a oe A nm v pn q1 q2 hz hv))).run pins s σ H D I ⟨q3, q4⟩⟩)) fun D σ H ⟨ρ, o, S, q⟩ => by
    refine ⟨ρ, o, S, ?_⟩
    have q : PoS X C W o H D (sTryR i b h ρ) := q
    unfold sTryR at q
    cases eb : b ρ with
    | nx ρ1 => rw [eb] at q; exact q
    | ret r ρ1 => rw [eb] at q; exact q
    | brk ρ1 => rw [eb] at q; exact q
    | cnt ρ1 => rw [eb] at q; exact q
    | bad => rw [eb] at q; exact q
    | exc nm ρ1 =>
      rw [eb] at q
      dsimp only at q
      intro σ1 H1 o1 S1 t1 A hA
      cases eh : h nm with
      | none => rw [eh] at q; exact q.elim
      | some r =>
        rw [eh] at q
        refine ⟨r.isSome, hm nm A r hA eh, fun hr a ha => ?_, fun hr => ?_⟩
        · cases r with
          | none => cases hr
          | some v =>
            dsimp only at q
            split at q
            · rename_i hcond
              have hl : i < σ1.length := by rw [← S1.len]; exact hcond.1
              refine ⟨A, nm, v, rfl, rfl, hA, eh, by rw [List.getElem?_set_self hl], ?_⟩
              have hsh : Sh X.K (FF C.B o1) H1 (vOf v) v := by
                cases v <;> first | exact .non | exact .bl _ | exact absurd hcond.2 Bool.false_ne_true
              exact q σ1 (vOf v) H1 o1 S1 t1 hsh
            · exact q.elim
        · cases r with
          | some v => cases hr
          | none => exact q σ1 H1 o1 S1 t1 A hA
end
/-! ### what the suite says of e -/
def KeE (X : Cx) (a : Addr) (oe : Obj) (pn : List (Addr × Obj)) (i : Nat) (e : Expr) (v : D) : Prop := PE (X.suite a ((a, oe) :: pn)) e (fun σ H Q => σ[i]? = some (some (.ref a)) ∧ Q (vOf v) H)
section
variable {X : Cx} {a A : Addr} {oe : Obj} {pn : List (Addr × Obj)} {i : Nat} {e f : Expr} {es : List Expr} {p p1 p2 pos : Pos} {n U : Str} {b : Bool}
theorem ke_bl {j : Nat} : KeE X a oe pn i (.Constant (.bool b) j pos) (.bool b) := PE.imp pe_bl fun _ _ _ h => h.2
theorem ke_is {c : V} {cv : Value} (E : ExcC X.K A) (hz : Zc (.ref A) none oe) (hf : ∃ vs, oe.data = .fields vs) (hv : PE (X.suite a ((a, oe) :: pn)) e (tVar i)) (hU : PE (X.suite a ((a, oe) :: pn)) f (tC c)) (hc : ∀ u, RelV c u → u = cv) (hk : PySem.W.kitOne X.K (.ref A) cv = some b) (hg : Gl X "isinstance") (hm : X.mg "isinstance" = none)
    (hs1 : starEach [f] (X.suite a ((a, oe) :: pn)).env = (false, eval f X.env) :: starEach [] X.env := by rfl)
    (hs : starEach (e :: [f]) (X.suite a ((a, oe) :: pn)).env = (false, eval e X.env) :: starEach [f] X.env := by rfl) (hpl : (backTo pos (starEach [f] (X.suite a ((a, oe) :: pn)).env)).any (·.1) = false := by rfl) :
    KeE X a oe pn i (.Call (.Name "isinstance" p) [e, f] [] pos) (.bool b) :=
  PE.imp (pe_callB (X := X.suite a ((a, oe) :: pn)) (call_isE E hz hf) hg hm bt_isi (pa_cons hv (pa_cons hU pa_nil hs1) hs) (by decide) (by decide) hs hpl) fun σ H Q h => ⟨_, h.1, c, cv, b, rfl, hc, hk, h.2⟩
theorem ke_one {op : BoolOp} {v : D} (h : KeE X a oe pn i e v) : KeE X a oe pn i (.BoolOp op [e] pos) v := pe_one h
theorem ke_and {c : Bool} (h1 : KeE X a oe pn i e (.bool true)) (h2 : KeE X a oe pn i (.BoolOp .And (f :: es) pos) (.bool c)) : KeE X a oe pn i (.BoolOp .And (e :: f :: es) pos) (.bool c) :=
  PE.imp (pe_and h1 h2) fun σ H Q h => ⟨h.1, true, rfl, h⟩
theorem ke_own {U' : Addr} {U : Str} (gU : X.mg U = some (.ref U')) (hg : Gl X U) (hd : (U == ("__debug__" : Str)) = false := by decide) : PE (X.suite a ((a, oe) :: pn)) (.Name U p) (tC (.ref U')) := pe_glob (X := X.suite a ((a, oe) :: pn)) hg gU rfl hd
theorem ke_blt {U : Str} {T : String} (gU : X.mg U = none) (hg : Gl X U) (hv : bootBuiltins U = some (.type T)) (hn : U ≠ "__name__" := by decide) (hd : (U == ("__debug__" : Str)) = false := by decide) : PE (X.suite a ((a, oe) :: pn)) (.Name U p) (tC (.ty T)) := pe_bltn (X := X.suite a ((a, oe) :: pn)) hg gU hv rfl hn hd
end
theorem kit_own {K : PySem.W.Frag} {t : Value} {U : Addr} (hd : PySem.W.hasDictIn K U = true) (ht : PySem.W.typeIn K (.ref U) = some (.type "type")) (h : PySem.W.subIn K t (.ref U) = some true) : PySem.W.kitOne K t (.ref U) = some true := by
  obtain ⟨cd, hc, _⟩ := PySem.W.any_some hd
  unfold PySem.W.kitOne
  split
  · rfl
  · show (if ((PySem.W.clsIn K U).isSome && PySem.W.typeIn K (.ref U) == some (.type "type")) = true then PySem.W.subIn K t (.ref U) else none) = some true
    rw [if_pos (by rw [hc, ht] <;> rfl), h]
theorem kit_blt {K : PySem.W.Frag} {t : Value} {T : String} (hT : PySem.W.kitMeta T = true) (h : PySem.W.subIn K t (.type T) = some true) : PySem.W.kitOne K t (.type T) = some true := by
  unfold PySem.W.kitOne
  split
  · rfl
  · show (if PySem.W.kitMeta T = true then PySem.W.subIn K t (.type T) else none) = some true
    rw [if_pos hT, h]
theorem bt_ValueError : bootBuiltins "ValueError" = some (.type "ValueError") := by first | rfl | decide +kernel
/-- one class alone is raised and caught -/
def h1 (nm0 : Str) (v : D) : Str → Option (Option D) := fun nm => if nm = nm0 then some (some v) else none
section
variable {X : Cx} {C : Ctx} {W : WX} {e : Expr} {body : List Stmt} {b : Env → SR} {x n : Str} {i : Nat} {np rp pos pos' : Pos}
theorem js_try1 {nm0 : Str} {A0 c : Addr} {v : D} (hs : X.stack = X.env :: X.outer) (hf : X.env.frame = some X.env.locals) (hN : X.N.Nodup) (hi : X.N[i]? = some n) (hln : X.env.kindOf n = some .local) (gx : X.mg x = some (.ref c)) (hgx : Gl X x) (tk : Takes X W)
    (g0 : X.mg nm0 = some (.ref A0)) (hm : PySem.W.exmOne X.K (.ref A0) (.ref c) = some true)
    (hb : ∀ (W' : WX) (pn : List (Addr × Obj)) (xe : Value → Shared → Prop), Takes (X.tr pn xe) W' → PassesOwn (model X.prog X.w) X.A X.env xe → JSs (X.tr pn xe) C W' body b)
    (hsu : ∀ (a : Addr) (oe : Obj) (pn : List (Addr × Obj)), Zc (.ref A0) none oe → (∃ vs, oe.data = .fields vs) → KeE X a oe pn i e v) (hd : (x == ("__debug__" : Str)) = false := by decide) :
    JS X C W (.Try body [.ExceptHandler (some (.Name x np)) (some n) [.Return (some e) rp] pos'] [] [] pos) (sTryR i b (h1 nm0 v)) :=
  js_tryR hs hf hN hi hln ⟨hgx, hd, .inl gx⟩ tk (fun nm A r hA hr => by
      unfold h1 at hr
      split at hr
      · rename_i q
        subst q
        cases hr
        rw [g0] at hA
        cases hA
        exact hm
      · cases hr) hb fun a oe A nm v' pn hA hr hz hf => by
    unfold h1 at hr
    split at hr
    · rename_i q
      subst q
      cases hr
      rw [g0] at hA
      cases hA
      exact hsu a oe pn hz hf
    · cases hr
end
end Dn
set_option Elab.async false
set_option linter.all false
set_option maxRecDepth 100000
set_option maxHeartbeats 1000000
/-! Dn11: sum, min, max, all, any, gcd -/
namespace Dn
open PySem L2
def asInt : D → Option Int
  | .int i => some i
  | _ => none
def asBool : D → Option Bool
  | .bool i => some i
  | _ => none
def intsD : List D → Option (List Int)
  | [] => some []
  | .int i :: r => (intsD r).map (i :: ·)
  | _ :: _ => none
def boolsD : List D → Option (List Bool)
  | [] => some []
  | .bool i :: r => (boolsD r).map (i :: ·)
  | _ :: _ => none
@[simp] theorem intsD_map : ∀ ns : List Int, intsD (ns.map .int) = some ns
  | [] => rfl
  | i :: r => by
    show (intsD (r.map .int)).map (i :: ·) = _
    rw [intsD_map r]
    rfl
@[simp] theorem boolsD_map : ∀ ns : List Bool, boolsD (ns.map .bool) = some ns
  | [] => rfl
  | i :: r => by
    show (boolsD (r.map .bool)).map (i :: ·) = _
    rw [boolsD_map r]
    rfl
theorem intsD_eq : ∀ {ds : List D} {ns : List Int}, intsD ds = some ns → ds = ns.map .int
  | [], ns, h => by cases h; rfl
  | .int i :: r, ns, h => by
    simp only [intsD, Option.map_eq_some_iff] at h
    obtain ⟨m, hm, rfl⟩ := h
    rw [List.map_cons, ← intsD_eq hm]
  | .none :: _, _, h => by cases h
  | .bool _ :: _, _, h => by cases h
  | .str _ :: _, _, h => by cases h
  | .list _ :: _, _, h => by cases h
  | .tuple _ :: _, _, h => by cases h
  | .dict _ :: _, _, h => by cases h
theorem boolsD_eq : ∀ {ds : List D} {ns : List Bool}, boolsD ds = some ns → ds = ns.map .bool
  | [], ns, h => by cases h; rfl
  | .bool i :: r, ns, h => by
    simp only [boolsD, Option.map_eq_some_iff] at h
    obtain ⟨m, hm, rfl⟩ := h
    rw [List.map_cons, ← boolsD_eq hm]
  | .none :: _, _, h => by cases h
  | .int _ :: _, _, h => by cases h
  | .str _ :: _, _, h => by cases h
  | .list _ :: _, _, h => by cases h
  | .tuple _ :: _, _, h => by cases h
  | .dict _ :: _, _, h => by cases h
theorem sh_ints {K : PySem.W.Frag} {F : Addr → Prop} {H : Hp} : ∀ {xs : List V} {ns : List Int}, ShA K F H xs (ns.map .int) → xs = ns.map .int
  | _, [], .nil => rfl
  | _, i :: r, .cons h s => by rw [h.ofInt, sh_ints s]; rfl
theorem sh_bools {K : PySem.W.Frag} {F : Addr → Prop} {H : Hp} : ∀ {xs : List V} {ns : List Bool}, ShA K F H xs (ns.map .bool) → xs = ns.map .bl
  | _, [], .nil => rfl
  | _, i :: r, .cons h s => by rw [h.ofBool, sh_bools s]; rfl
def minL : List Int → Int
  | [] => 0
  | [x] => x
  | x :: y :: r => min x (minL (y :: r))
def maxL : List Int → Int
  | [] => 0
  | [x] => x
  | x :: y :: r => max x (maxL (y :: r))
theorem minL_spec : ∀ {ns : List Int}, 0 < ns.length → minL ns ∈ ns ∧ ∀ y ∈ ns, minL ns ≤ y
  | [x], _ => ⟨by simp [minL], by simp [minL]⟩
  | x :: y :: r, _ => by
    obtain ⟨a, b⟩ := minL_spec (ns := y :: r) (by simp)
    have e : minL (x :: y :: r) = min x (minL (y :: r)) := rfl
    rw [e]
    refine ⟨?_, fun z hz => ?_⟩
    · by_cases c : x ≤ minL (y :: r)
      · rw [Int.min_eq_left c]; exact List.mem_cons_self ..
      · rw [Int.min_eq_right (by omega)]; exact List.mem_cons_of_mem _ a
    · rcases List.mem_cons.mp hz with rfl | hz
      · exact Int.min_le_left _ _
      · exact Int.le_trans (Int.min_le_right _ _) (b z hz)
theorem maxL_spec : ∀ {ns : List Int}, 0 < ns.length → maxL ns ∈ ns ∧ ∀ y ∈ ns, y ≤ maxL ns
  | [x], _ => ⟨by simp [maxL], by simp [maxL]⟩
  | x :: y :: r, _ => by
    obtain ⟨a, b⟩ := maxL_spec (ns := y :: r) (by simp)
    have e : maxL (x :: y :: r) = max x (maxL (y :: r)) := rfl
    rw [e]
    refine ⟨?_, fun z hz => ?_⟩
    · by_cases c : x ≤ maxL (y :: r)
      · rw [Int.max_eq_right c]; exact List.mem_cons_of_mem _ a
      · rw [Int.max_eq_left (by omega)]; exact List.mem_cons_self ..
    · rcases List.mem_cons.mp hz with rfl | hz
      · exact Int.le_max_left _ _
      · exact Int.le_trans (b z hz) (Int.le_max_right _ _)
def fSum : D → Option R
  | .list ds => (intsD ds).map fun ns => .val (.int ns.sum)
  | _ => none
def fMin1 : D → Option R
  | .list ds => (intsD ds).bind fun ns => if 0 < ns.length then some (.val (.int (minL ns))) else none
  | _ => none
def fMax1 : D → Option R
  | .list ds => (intsD ds).bind fun ns => if 0 < ns.length then some (.val (.int (maxL ns))) else none
  | _ => none
def fAll : D → Option R
  | .list ds => (boolsD ds).map fun bs => .val (.bool (bs.all id))
  | _ => none
def fAny : D → Option R
  | .list ds => (boolsD ds).map fun bs => .val (.bool (bs.any id))
  | _ => none
def fGcd : List D → Option R
  | [.int a, .int b] => some (.val (.int ((Nat.gcd a.natAbs b.natAbs : Nat) : Int)))
  | _ => none
def fMin2 : List D → Option R
  | [.int i, .int j] => some (.val (.int (if j < i then j else i)))
  | _ => none
def fMax2 : List D → Option R
  | [.int i, .int j] => some (.val (.int (if j > i then j else i)))
  | _ => none
section
variable {X : Cx}
theorem cr_sumD (hc : X.calm = true) : CallR X (.builtin "sum") (rP1 X.K fSum) := by
  intro pins s σ H xs us Q I r h
  obtain ⟨x, F, d, rr, rfl, tr, sx, er, q⟩ := h
  unfold fSum at er
  split at er
  · rw [Option.map_eq_some_iff] at er
    obtain ⟨ns, e, rfl⟩ := er
    obtain ⟨a, xs, rfl, ra, sa⟩ := sx
    rw [intsD_eq e] at sa
    rw [sh_ints sa] at ra
    exact cr_sum hc pins s σ H _ us Q I r ⟨a, ns, rfl, ra, q _ _ (.refl H) (.int _)⟩
  · cases er
theorem cr_min1 (hc : X.calm = true) : CallR X (.builtin "min") (rP1 X.K fMin1) := by
  intro pins s σ H xs us Q I r h
  obtain ⟨x, F, d, rr, rfl, tr, sx, er, q⟩ := h
  unfold fMin1 at er
  split at er
  · rw [Option.bind_eq_some_iff] at er
    obtain ⟨ns, e, er⟩ := er
    split at er
    · rename_i hl
      cases er
      obtain ⟨a, xs, rfl, ra, sa⟩ := sx
      rw [intsD_eq e] at sa
      rw [sh_ints sa] at ra
      obtain ⟨m1, m2⟩ := minL_spec hl
      exact cr_min hc pins s σ H _ us Q I r ⟨a, ns, rfl, ra, hl, fun m hm hy => by
        have : m = minL ns := Int.le_antisymm (hy _ m1) (m2 _ hm)
        rw [this]
        exact q _ _ (.refl H) (.int _)⟩
    · cases er
  · cases er
theorem cr_max1 (hc : X.calm = true) : CallR X (.builtin "max") (rP1 X.K fMax1) := by
  intro pins s σ H xs us Q I r h
  obtain ⟨x, F, d, rr, rfl, tr, sx, er, q⟩ := h
  unfold fMax1 at er
  split at er
  · rw [Option.bind_eq_some_iff] at er
    obtain ⟨ns, e, er⟩ := er
    split at er
    · rename_i hl
      cases er
      obtain ⟨a, xs, rfl, ra, sa⟩ := sx
      rw [intsD_eq e] at sa
      rw [sh_ints sa] at ra
      obtain ⟨m1, m2⟩ := maxL_spec hl
      exact cr_max hc pins s σ H _ us Q I r ⟨a, ns, rfl, ra, hl, fun m hm hy => by
        have : m = maxL ns := Int.le_antisymm (m2 _ hm) (hy _ m1)
        rw [this]
        exact q _ _ (.refl H) (.int _)⟩
    · cases er
  · cases er
theorem cr_allD (hc : X.calm = true) : CallR X (.builtin "all") (rP1 X.K fAll) := by
  intro pins s σ H xs us Q I r h
  obtain ⟨x, F, d, rr, rfl, tr, sx, er, q⟩ := h
  unfold fAll at er
  split at er
  · rw [Option.map_eq_some_iff] at er
    obtain ⟨ns, e, rfl⟩ := er
    obtain ⟨a, xs, rfl, ra, sa⟩ := sx
    rw [boolsD_eq e] at sa
    rw [sh_bools sa] at ra
    exact cr_all hc pins s σ H _ us Q I r ⟨a, ns, rfl, ra, q _ _ (.refl H) (.bl _)⟩
  · cases er
theorem cr_anyD (hc : X.calm = true) : CallR X (.builtin "any") (rP1 X.K fAny) := by
  intro pins s σ H xs us Q I r h
  obtain ⟨x, F, d, rr, rfl, tr, sx, er, q⟩ := h
  unfold fAny at er
  split at er
  · rw [Option.map_eq_some_iff] at er
    obtain ⟨ns, e, rfl⟩ := er
    obtain ⟨a, xs, rfl, ra, sa⟩ := sx
    rw [boolsD_eq e] at sa
    rw [sh_bools sa] at ra
    exact cr_any hc pins s σ H _ us Q I r ⟨a, ns, rfl, ra, q _ _ (.refl H) (.bl _)⟩
  · cases er
theorem sh2 {K : PySem.W.Frag} {F : Addr → Prop} {H : Hp} {xs : List V} {i j : Int} (s : ShA K F H xs [.int i, .int j]) : xs = [.int i, .int j] := by
  cases s with
  | cons h s => cases s with
    | cons h2 s => cases s; rw [h.ofInt, h2.ofInt]
theorem cr_gcdD : CallR X (.builtin "math.gcd") (rDn X.K fGcd) := by
  intro pins s σ H xs us Q I r h
  obtain ⟨F, ds, rr, tr, sx, er, q⟩ := h
  unfold fGcd at er
  split at er
  · cases er
    rw [sh2 sx] at r
    exact cr_gcd pins s σ H _ us Q I r ⟨_, _, rfl, q _ _ (.refl H) (.int _)⟩
  · cases er
theorem cr_min2 (hc : X.calm = true) : CallR X (.builtin "min") (rDn X.K fMin2) := by
  intro pins s σ H xs us Q I r h
  obtain ⟨F, ds, rr, tr, sx, er, q⟩ := h
  unfold fMin2 at er
  split at er
  · cases er
    rw [sh2 sx] at r
    exact call_min2 hc pins s σ H _ us Q I r ⟨_, _, rfl, q _ _ (.refl H) (.int _)⟩
  · cases er
theorem cr_max2 (hc : X.calm = true) : CallR X (.builtin "max") (rDn X.K fMax2) := by
  intro pins s σ H xs us Q I r h
  obtain ⟨F, ds, rr, tr, sx, er, q⟩ := h
  unfold fMax2 at er
  split at er
  · cases er
    rw [sh2 sx] at r
    exact call_max2 hc pins s σ H _ us Q I r ⟨_, _, rfl, q _ _ (.refl H) (.int _)⟩
  · cases er
end
end Dn
set_option Elab.async false
set_option linter.all false
set_option maxRecDepth 100000
set_option maxHeartbeats 1000000
/-! Dn12: methods of texts -/
namespace Dn
open PySem L2
def rM1 (K : PySem.W.Frag) (f : D → D → Option R) : V → List V → Hp → VK → Prop := fun x xs H Q => ∃ y F d e r, xs = [y] ∧ (∀ a, F a → H a ≠ none) ∧ Sh K F H x d ∧ Pk K F H y e ∧ f d e = some r ∧ NewOk K F H Q r
def eM1 (f : D → D → Option R) (a b : Env → Res D) : Env → Res R := fun ρ => bindR (a ρ) fun x ρ1 => if isStr x = true then bindR (b ρ1) fun y ρ2 => optR (f x y) ρ2 else .bad
section
variable {X : Cx} {C : Ctx} {W : WX} {o e : Expr} {ma mb : Env → Res D} {f : D → D → Option R} {id : String} {name : Str} {apos pos : Pos}
theorem je_m1 (slot : Slot "str" name id) (ty : typeOf (.builtin id) = pure (.type "method_descriptor")) (rule : MtR X id (rM1 X.K f)) (ho : JV X C W o ma) (he : JP X C W e mb)
    (hs : starEach [e] X.env = [(false, eval e X.env)] := by rfl) (hbase : attributeBase o name X.env (eval o X.env) = eval o X.env := by rfl) (hline : (apos.endLine == pos.line) = true := by rfl) :
    JE X C W (.Call (.Attribute o name apos) [e] [] pos) (eM1 f ma mb) := PE.imp (pe_m1 slot ty rule ho he hs hbase hline) fun σ H Q ⟨ρ, oo, S, h⟩ => by
  obtain ⟨ρ0, o0, S0, h0⟩ := stepE (Rl := Sh X.K) S h
  refine ⟨ρ0, o0, S0, h0.imp (fun d ρ1 z v H1 o1 S1 t1 s1 => ?_) fun _ _ z => z⟩
  obtain ⟨ρ1', o1', d', S1', T1, s1', q1⟩ := z v H1 o1 S1 t1 s1
  split at q1
  · rename_i hi
    have hx : ∃ a, v = .str a := by
      cases d' <;> first | (cases hi; done) | exact ⟨_, s1'.ofStr⟩
    refine ⟨hx, ?_⟩
    obtain ⟨ρ2, o2, S2, h2⟩ := stepE (Rl := Pk X.K) S1' q1
    refine ⟨ρ2, o2, S2, h2.imp (fun d2 ρ3 z2 v2 H2 o3 S3 t3 s3 => ?_) fun _ _ z => z⟩
    obtain ⟨ρ4, o4, d4, S4, T4, s4, q4⟩ := z2 v2 H2 o3 S3 t3 s3
    obtain ⟨r, er, q⟩ := optE q4
    exact ⟨v2, FF C.B o4, d', d4, r, rfl, S4.tr, s1'.tx T4, s4, er, newOk S4 q⟩
  · exact q1.elim
def fFind : D → D → Option R
  | .str a, .str b => some (.val (.int (Txt.find a b)))
  | _, _ => none
def fRfind : D → D → Option R
  | .str a, .str b => some (.val (.int (Txt.rfind a b)))
  | _, _ => none
def fCount : D → D → Option R
  | .str a, .str b => some (.val (.int (Txt.count a b)))
  | _, _ => none
def fIndexS : D → D → Option R
  | .str a, .str b => match Builtin.Str.occurrences a b 0 a.length 1 with
    | i :: _ => some (.val (.int (i : Nat)))
    | [] => none
  | _, _ => none
def strsD : List D → Option (List Str)
  | [] => some []
  | .str i :: r => (strsD r).map (i :: ·)
  | _ :: _ => none
@[simp] theorem strsD_map : ∀ ns : List Str, strsD (ns.map .str) = some ns
  | [] => rfl
  | i :: r => by
    show (strsD (r.map .str)).map (i :: ·) = _
    rw [strsD_map r]
    rfl
theorem strsD_eq : ∀ {ds : List D} {ns : List Str}, strsD ds = some ns → ds = ns.map .str
  | [], ns, h => by cases h; rfl
  | .str i :: r, ns, h => by
    simp only [strsD, Option.map_eq_some_iff] at h
    obtain ⟨m, hm, rfl⟩ := h
    rw [List.map_cons, ← strsD_eq hm]
  | .none :: _, _, h => by cases h
  | .bool _ :: _, _, h => by cases h
  | .int _ :: _, _, h => by cases h
  | .list _ :: _, _, h => by cases h
  | .tuple _ :: _, _, h => by cases h
  | .dict _ :: _, _, h => by cases h
theorem sh_strs {K : PySem.W.Frag} {F : Addr → Prop} {H : Hp} : ∀ {xs : List V} {ns : List Str}, ShA K F H xs (ns.map .str) → xs = ns.map .str
  | _, [], .nil => rfl
  | _, i :: r, .cons h s => by rw [h.ofStr, sh_strs s]; rfl
def seqD : D → Option (List D)
  | .list ds => some ds
  | .tuple ds => some ds
  | _ => none
def fJoin : D → D → Option R
  | .str a, y => (seqD y).bind fun ds => (strsD ds).bind fun ys => if (ys.map (·.length)).sum + ys.length * a.length ≤ 16777216 then some (.val (.str (Txt.join a ys))) else none
  | _, _ => none
theorem mr_find : MtR X "str.find" (rM1 X.K fFind) := by
  intro pins s σ H x xs v us Q I rx rs h
  obtain ⟨y, F, d, e, r, rfl, tr, sx, sy, er, q⟩ := h
  unfold fFind at er
  split at er
  · cases er
    rw [sx.ofStr] at rx
    rw [sy.str] at rs
    exact mt_find pins s σ H _ _ v us Q I rx rs ⟨_, _, rfl, rfl, q _ _ (.refl H) (.int _)⟩
  · cases er
theorem mr_rfind : MtR X "str.rfind" (rM1 X.K fRfind) := by
  intro pins s σ H x xs v us Q I rx rs h
  obtain ⟨y, F, d, e, r, rfl, tr, sx, sy, er, q⟩ := h
  unfold fRfind at er
  split at er
  · cases er
    rw [sx.ofStr] at rx
    rw [sy.str] at rs
    exact mt_rfind pins s σ H _ _ v us Q I rx rs ⟨_, _, rfl, rfl, q _ _ (.refl H) (.int _)⟩
  · cases er
theorem mr_count : MtR X "str.count" (rM1 X.K fCount) := by
  intro pins s σ H x xs v us Q I rx rs h
  obtain ⟨y, F, d, e, r, rfl, tr, sx, sy, er, q⟩ := h
  unfold fCount at er
  split at er
  · cases er
    rw [sx.ofStr] at rx
    rw [sy.str] at rs
    exact mt_count pins s σ H _ _ v us Q I rx rs ⟨_, _, rfl, rfl, q _ _ (.refl H) (.int _)⟩
  · cases er
theorem mr_sindex : MtR X "str.index" (rM1 X.K fIndexS) := by
  intro pins s σ H x xs v us Q I rx rs h
  obtain ⟨y, F, d, e, r, rfl, tr, sx, sy, er, q⟩ := h
  unfold fIndexS at er
  split at er
  · split at er
    · rename_i i rest hocc
      cases er
      rw [sx.ofStr] at rx
      rw [sy.str] at rs
      exact mt_sindex pins s σ H _ _ v us Q I rx rs ⟨_, _, i, rest, rfl, rfl, hocc, q _ _ (.refl H) (.int _)⟩
    · cases er
  · cases er
theorem mr_join : MtR X "str.join" (rM1 X.K fJoin) := by
  intro pins s σ H x xs v us Q I rx rs h
  obtain ⟨y, F, d, e, r, rfl, tr, sx, sy, er, q⟩ := h
  unfold fJoin at er
  split at er
  · rename_i a
    rw [Option.bind_eq_some_iff] at er
    obtain ⟨ds, eds, er⟩ := er
    rw [Option.bind_eq_some_iff] at er
    obtain ⟨ys, eys, er⟩ := er
    split at er
    · rename_i hl
      cases er
      rw [sx.ofStr] at rx
      have ed := strsD_eq eys
      subst ed
      have key : ∃ p, y = .ref p ∧ (SqL X.K H p (ys.map V.str) ∨ SqT X.K H p (ys.map V.str)) := by
        cases e with
        | list zs =>
          cases eds
          obtain ⟨p, xs, rfl, rp, sp⟩ := sy
          rw [sh_strs sp] at rp
          exact ⟨p, rfl, .inl rp⟩
        | tuple zs =>
          cases eds
          obtain ⟨p, xs, rfl, rp, sp⟩ := sy.tup
          rw [sh_strs sp] at rp
          exact ⟨p, rfl, .inr rp⟩
        | _ => cases eds
      obtain ⟨p, rfl, hp⟩ := key
      exact mt_join pins s σ H _ _ v us Q I rx rs ⟨a, p, ys, rfl, rfl, hp, hl, q _ _ (.refl H) (.str _)⟩
    · cases er
  · cases er
end
end Dn
set_option Elab.async false
set_option linter.all false
set_option maxRecDepth 100000
set_option maxHeartbeats 1000000
/-! Dn13: text * int, tuple * int, min and max with default= -/
namespace Dn
open PySem L2
theorem bt_divmod : bootBuiltins "divmod" = some (.builtin "divmod") := by decide +kernel
def fMulS : D → D → Option R
  | .str x, .int n => if -(2 ^ 62) ≤ n ∧ n < 2 ^ 62 ∧ x.length * n.toNat ≤ 16777216 then some (.val (.str (Txt.mul x n))) else none
  | .tuple xs, .int n => if xs ≠ [] ∧ 2 ≤ n ∧ n ≤ 1000 ∧ xs.length ≤ 1000 then some (.val (.tuple (List.replicate n.toNat xs).flatten)) else if xs ≠ [] ∧ n = 1 then some (.val (.tuple xs)) else none
  | _, _ => none
theorem tup_once (l : Addr) (items : Array Value) (n : Nat) (dd : Option Addr) (sl : Array (Option Value)) (u : Tok) (c1 : (items.isEmpty || (1 : Int) == 1) = true) :
    Meets (Builtin.«tuple.__mul__» ⟨[.ref l, .int 1 u], []⟩) (fun _ R s => s.heap.get? l = some { cls := .type "tuple", dict := dd, data := .seq items n, slots := sl } ∧ R (.ok (.ret (Value.ref l))) s) :=
  .of_wp fun prog w A R s h => by
    obtain ⟨hp, g, d, tk, os⟩ := s
    obtain ⟨hl, h⟩ := h
    have f1 := AutoSeq1.idx_int
    wp_walk using wpAny_loadPart' hl
    repeat (first
      | (refine wpAny_ite_true (decide_eq_true c1) ?_; wp_walk using wpAny_loadPart' hl)
      | (refine wpAny_ite_false (by decide) ?_; wp_walk using wpAny_loadPart' hl))
    exact ⟨_, rfl, h⟩
section
variable {X : Cx}
theorem op_tup1 : OpR X (binaryOp .Mult) (fun x y H Q => ∃ l xs, x = V.ref l ∧ y = V.int 1 ∧ SqT X.K H l xs ∧ Q (.ref l) H) := by
  intro pins s σ H x y v u Q I rx ry h
  obtain ⟨l, xs, rfl, rfl, hT, q⟩ := h
  cases rx
  obtain ⟨t, rfl⟩ := ry
  obtain ⟨its, r, ⟨⟨cls, dd, data, sl⟩, ho, hc, n, hd⟩, hs⟩ := I.tuple hT
  simp only at hc hd
  subst hc hd
  refine wpAny_binaryOp_repeat_ref (T := "tuple") (U := "int") (by decide) ⟨_, ho, rfl⟩ (fun s' => typeIs_int s' 1 t) noFill_tuple_mul F.fills_int_mul F.slot_int_rmul repeat_tuple F.slot_int_index.lookup
    (call_meets F.slot_int_rmul (typeIs_int s 1 t) F.entry_int_rmul (F.args_int_rmul_2 _ _) (int_rmul_tuple 1 t l its.toArray n dd sl)
      ⟨ho, rfl, ⟨_, ho, rfl⟩, call_meets F.slot_tuple_mul ⟨_, ho, rfl⟩ F.entry_tuple_mul (F.args_tuple_mul_2 _ _) (tup_once l its.toArray n dd sl t (by simp)) ⟨ho, ?_⟩⟩)
  exact ⟨.ref l, H, I, rfl, q⟩
theorem mulok {x : Str} {n : Int} (h1 : -(2 ^ 62) ≤ n) (h2 : n < 2 ^ 62) (h3 : x.length * n.toNat ≤ 16777216) : MulOk x n := by
  refine ⟨?_, fun hn _ hg => ?_, fun hn _ => ?_⟩
  · rw [decide_eq_false (by omega), decide_eq_false (by omega)]; rfl
  · have hn : 0 < n := by omega
    have e : (x.length : Int) * n ≤ 16777216 := by
      have : ((x.length * n.toNat : Nat) : Int) = x.length * n := by rw [Int.natCast_mul, Int.toNat_of_nonneg (by omega)]
      omega
    have := Int.mul_ediv_self_le (x := (2 ^ 63 - 1 : Int)) (k := n) (by omega)
    have h5 : (2 ^ 63 - 1 : Int) < n * ((2 ^ 63 - 1) / n) + n := Int.lt_mul_ediv_self_add hn
    have hx0 : 0 ≤ (x.length : Int) := by omega
    have h6 : n * ((2 ^ 63 - 1) / n + 1) ≤ n * (x.length : Int) := Int.mul_le_mul_of_nonneg_left (by omega) (by omega)
    rw [Int.mul_add, Int.mul_one] at h6
    rw [Int.mul_comm] at e
    omega
  · unfold Builtin.Str.tooLong
    rw [sizeLine_eq]
    exact decide_eq_false (by omega)
theorem od_mulS : OpR X (binaryOp .Mult) (rD2 X.K fMulS) := by
  intro pins s σ H x y v u Q I rx ry h
  obtain ⟨F, d, e, r, tr, sx, sy, er, q⟩ := h
  unfold fMulS at er
  split at er
  · split at er
    · rename_i hb
      cases er
      rw [sx.ofStr] at rx
      rw [sy.ofInt] at ry
      obtain ⟨t, rfl⟩ := rx
      obtain ⟨t2, rfl⟩ := ry
      exact SB.mul (mulok hb.1 hb.2.1 hb.2.2) fun t' k => ⟨.str _, H, I.kept (fun _ _ e => e), ⟨t', rfl⟩, q _ _ (.refl H) (.str _)⟩
    · cases er
  · split at er
    · rename_i hb
      cases er
      obtain ⟨a, vs, rfl, ra, sa⟩ := sx.T
      rw [sy.ofInt] at ry
      have rep : ∀ m : Nat, ShA X.K F H (List.replicate m vs).flatten (List.replicate m _).flatten := fun m => by
        induction m with
        | zero => exact .nil
        | succ m ih => rw [List.replicate_succ, List.replicate_succ, List.flatten_cons, List.flatten_cons]; exact sa.append ih
      have hl := sa.length
      exact op_repT pins s σ H _ _ v u Q I rx ry ⟨a, _, vs, rfl, rfl, ra, fun z => hb.1 (List.eq_nil_of_length_eq_zero (by rw [← hl, z]; rfl)), hb.2.1, hb.2.2.1, by rw [hl]; exact hb.2.2.2, new_tup tr (rep _) q⟩
    · split at er
      · rename_i hb
        obtain ⟨h1, rfl⟩ := hb
        cases er
        obtain ⟨a, vs, rfl, ra, sa⟩ := sx.T
        rw [sy.ofInt] at ry
        exact op_tup1 pins s σ H _ _ v u Q I rx ry ⟨a, vs, rfl, rfl, ra, q _ _ (.refl H) sx⟩
      · cases er
  · cases er
end

/-! ### min(xs, default=c), max(xs, default=c) -/
def fMinD (c : D) : D → Option R
  | .list ds => (intsD ds).map fun ns => if ns.length = 0 then .val c else .val (.int (minL ns))
  | _ => none
def fMaxD (c : D) : D → Option R
  | .list ds => (intsD ds).map fun ns => if ns.length = 0 then .val c else .val (.int (maxL ns))
  | _ => none
def constV : D → V
  | .bool b => .bl b
  | .int i => .int i
  | .str x => .str x
  | _ => .non
def isConst : D → Bool
  | .none => true
  | .bool _ => true
  | .int _ => true
  | .str _ => true
  | _ => false
theorem const_sh {K : PySem.W.Frag} {F : Addr → Prop} {H : Hp} {c : D} (h : isConst c = true) : Sh K F H (constV c) c := by
  cases c <;> first | exact .non | exact .bl _ | exact .int _ | exact .str _ | cases h
def rPK (K : PySem.W.Frag) (c : D) (f : D → Option R) : List V → List V → Hp → VK → Prop := fun xs zs H Q => zs = [constV c] ∧ rP1 K f xs H Q
section
variable {X : Cx} {C : Ctx} {W : WX} {x : Str} {p pos kpos : Pos} {e ke : Expr} {ma : Env → Res D} {id : String} {ks : List Str} {c : D} {f : D → Option R} {nm : Option Str}
theorem cr_minD (hc : X.calm = true) (hk : isConst c = true) : CallRK X (.builtin "min") [Str.ofString "default"] (rPK X.K c (fMinD c)) := by
  intro pins s σ H xs zs us ws Q I r rz h
  obtain ⟨rfl, x, F, d, rr, rfl, tr, sx, er, q⟩ := h
  obtain ⟨w1, rfl, e1⟩ := vals1 rz
  unfold fMinD at er
  split at er
  · rw [Option.map_eq_some_iff] at er
    obtain ⟨ns, en, rfl⟩ := er
    obtain ⟨a, vs, rfl, ra, sa⟩ := sx
    rw [intsD_eq en] at sa
    rw [sh_ints sa] at ra
    obtain ⟨its, rv, hl, _⟩ := I.list ra
    obtain rfl := Vals.ref1 r
    refine PySem.dmin_raw (I.ok.hd hc) hl.isList rv.ints (fun e0 h' tk hk2 => ?_) fun h' tk m t hk2 m1 m2 => ?_
    · subst e0
      exact ⟨constV c, H, I.kept hk2, e1, q _ _ (.refl H) (const_sh hk)⟩
    · have hpos : 0 < ns.length := List.length_pos_of_mem m1
      rw [if_neg (by omega)] at q
      obtain ⟨n1, n2⟩ := minL_spec hpos
      have em : m = minL ns := Int.le_antisymm (m2 _ n1) (n2 _ m1)
      subst em
      exact ⟨.int _, H, I.kept hk2, ⟨_, rfl⟩, q _ _ (.refl H) (.int _)⟩
  · cases er
theorem cr_maxD (hc : X.calm = true) (hk : isConst c = true) : CallRK X (.builtin "max") [Str.ofString "default"] (rPK X.K c (fMaxD c)) := by
  intro pins s σ H xs zs us ws Q I r rz h
  obtain ⟨rfl, x, F, d, rr, rfl, tr, sx, er, q⟩ := h
  obtain ⟨w1, rfl, e1⟩ := vals1 rz
  unfold fMaxD at er
  split at er
  · rw [Option.map_eq_some_iff] at er
    obtain ⟨ns, en, rfl⟩ := er
    obtain ⟨a, vs, rfl, ra, sa⟩ := sx
    rw [intsD_eq en] at sa
    rw [sh_ints sa] at ra
    obtain ⟨its, rv, hl, _⟩ := I.list ra
    obtain rfl := Vals.ref1 r
    refine PySem.dmax_raw (I.ok.hd hc) hl.isList rv.ints (fun e0 h' tk hk2 => ?_) fun h' tk m t hk2 m1 m2 => ?_
    · subst e0
      exact ⟨constV c, H, I.kept hk2, e1, q _ _ (.refl H) (const_sh hk)⟩
    · have hpos : 0 < ns.length := List.length_pos_of_mem m1
      rw [if_neg (by omega)] at q
      obtain ⟨n1, n2⟩ := maxL_spec hpos
      have em : m = maxL ns := Int.le_antisymm (n2 _ m1) (m2 _ n1)
      subst em
      exact ⟨.int _, H, I.kept hk2, ⟨_, rfl⟩, q _ _ (.refl H) (.int _)⟩
  · cases er
/-- name(e, key=c), c written -/
theorem je_bkc (hc : CallRK X (.builtin id) ks (rPK X.K c f)) (hm : X.mg x = none) (hv : bootBuiltins x = some (.builtin id)) (ha : JP X C W e ma) (hk : PE X ke (tC (constV c))) (hg : Gl X x)
    (hn : x ≠ "__name__" := by decide) (hdb : (x == ("__debug__" : Str)) = false := by decide) (hs : starEach [e] X.env = (false, eval e X.env) :: starEach [] X.env := by rfl)
    (he : backTo pos (starEach (e :: []) X.env) = (false, eval e X.env) :: backTo pos (starEach [] X.env) := by rfl) (hpl : (backTo pos (starEach (e :: []) X.env)).any (·.1) = false := by rfl)
    (hall : (backToKw pos (keywordEach [⟨nm, ke, kpos⟩] X.env)).all (·.1.isSome) = true := by rfl) (hnone : (backToKw pos (keywordEach [⟨nm, ke, kpos⟩] X.env)).any (·.1.isNone) = false := by rfl) (hks : (backToKw pos (keywordEach [⟨nm, ke, kpos⟩] X.env)).filterMap (·.1) = ks := by rfl) :
    JE X C W (.Call (.Name x p) [e] [⟨nm, ke, kpos⟩] pos) (eOp1 f ma) := PE.imp (pe_callBK hc hg hm hv (pa_cons ha pa_nil hs) (pk_cons hk pk_nil) hn hdb he hpl hall hnone hks) fun σ H Q ⟨ρ, o, S, h⟩ => by
  obtain ⟨ρ0, o0, S0, h0⟩ := jeP_imp S h
  refine ⟨ρ0, o0, S0, h0.imp (fun d ρ1 z v H1 o1 S1 t1 s1 => ?_) fun _ _ z => z⟩
  have := z v H1 o1 S1 t1 s1
  exact ⟨rfl, this⟩
end
end Dn
set_option Elab.async false
set_option linter.all false
set_option maxRecDepth 100000
set_option maxHeartbeats 1000000
/-! Dn14: x[::-1], zip, enumerate, reversed -/
namespace Dn
open PySem L2 PySem.Spec PyProof.Rows RT RZ
def revS (z : Str) : Str := ⟨z.cps.toList.reverse.toArray⟩
def fRev : D → Option R
  | .list ds => some (.fresh (.lst ds.reverse))
  | .str z => if z.length ≤ 16777216 then some (.val (.str (revS z))) else none
  | _ => none
section
variable {X : Cx} {C : Ctx} {W : WX} {e b tg : Expr} {ma : Env → Res D} {pos p p1 p2 p3 : Pos} {k : Nat}
def tRevX (K : PySem.W.Frag) (te : TE) : TE := fun σ H Q => te σ H fun x H1 => (∃ a xs, x = .ref a ∧ SqL K H1 a xs ∧ ∀ p, H1 p = none → Q (.ref p) (upd H1 p (.lst xs.reverse))) ∨ ∃ z, x = .str z ∧ z.length ≤ sizeLine ∧ Q (.str (revS z)) H1
theorem pe_revX {te : TE} (he : PE X e te) : PE X (.Subscript e (.Slice none none (some (.UnaryOp .USub (.Constant (.int 1) k p1) p2)) p3) pos) (tRevX X.K te) := by
  refine ⟨fun pins s σ H Q I h => ?_⟩
  refine Subscript_ (thn (he.run pins s σ H _ I h) fun v s1 ⟨x, H1, I1, r1, q1⟩ => ?_)
  have neg : PO X (some (.UnaryOp .USub (.Constant (.int 1) k p1) p2)) (tPart (tUn (rU fun i => .int (-i)) (tC (.int 1)))) := po_some (pe_un un_neg pe_int)
  refine wpAny_Slice (thn (po_none.run pins s1 σ H1 (fun o H2 => o = none ∧ H2 = H1) I1 ⟨rfl, rfl⟩) fun vl s2 ⟨l, H2, I2, pl, el, e2⟩ => ?_)
  subst el e2
  refine thn (po_none.run pins s2 σ H2 (fun o H3 => o = none ∧ H3 = H2) I2 ⟨rfl, rfl⟩) fun vu s3 ⟨u, H3, I3, pu, eu, e3⟩ => ?_
  subst eu e3
  refine thn (neg.run pins s3 σ H3 (fun o H4 => o = some (-1) ∧ H4 = H3) I3 ⟨1, rfl, -1, rfl, rfl, rfl⟩) fun vs s4 ⟨o, H4, I4, ps, eo, e4⟩ => ?_
  subst eo e4
  have I5 : Inv X pins σ H4 { s4 with heap := s4.heap.push { cls := .type "slice", data := .fields #[vl, vu, vs] } } := I4.kept (t' := s4.toks) fun b ob q => Heap.get?_push_of_some _ q
  rcases q1 with ⟨a, xs, rfl, hx, q⟩ | ⟨z, rfl, hz, q⟩
  · cases r1
    obtain ⟨its, r, ht, hz⟩ := I5.list hx
    have hlen := r.length
    refine tail_any (ops := [.ref a, .ref s4.heap.objs.size]) ht.isList.typeIs (PySem.slot_list_getitem.lookup) ?_ (by with_unfolding_all rfl)
    refine wpAny_getItem_list_slice ht.isList (Heap.IsSliceOf.new _ vl vu vs) pl pu ps (by decide) ?_ (by rw [List.size_toArray]; omega)
    rw [PySem.W.krv_pick]
    exact ⟨.ref _, _, I5.laid (t' := s4.toks) (o := .lst xs.reverse) (fun b ob q => Heap.get?_push_of_some _ q) (Nat.le_refl _) ⟨by rw [List.length_reverse]; exact hz, _, 0, r.reverse, Heap.get?_push_size _ rfl⟩, rfl, q _ (I5.hok.fresh (Nat.le_refl _))⟩
  · obtain ⟨t, rfl⟩ := r1
    obtain ⟨l, rfl, el⟩ := IsPart.raw pl
    obtain ⟨u, rfl, eu⟩ := IsPart.raw pu
    obtain ⟨w, rfl, ew⟩ := IsPart.raw ps
    refine tail_any (ops := [.str z t, .ref s4.heap.objs.size]) (typeIs_str _ _ _) F.slot_str_getitem.lookup ?_ (by with_unfolding_all rfl)
    have e3 : (w.map (·.1)).getD 1 = -1 := by rw [ew]; rfl
    refine wpAny_getItem_str_slice (l := l) (u := u) (st := w) ⟨_, Heap.get?_push_size _ rfl, rfl, rfl⟩ (by rw [e3]; rfl) ?_
    have er : ((Builtin.Str.strSliceIndices (l.map (·.1)) (u.map (·.1)) ((w.map (·.1)).getD 1) z.length).filterMap (z.cps[·]?)).toArray = z.cps.toList.reverse.toArray := by
      rw [e3, el, eu]
      show ((sliceRange ((z.cps.size : Int) - 1) (-1) (-1)).filterMap (z.cps[·]?)).toArray = _
      rw [PySem.W.krv_sliceRange, PySem.W.krv_range, List.filterMap_reverse, PySem.W.krv_all]
    unfold sliceMade slicePicked
    rw [er]
    rw [if_neg (by rw [e3]; exact Bool.false_ne_true)]
    exact ⟨by show (z.cps.toList.reverse.toArray).size ≤ _; rw [List.size_toArray, List.length_reverse]; exact hz, .str (revS z), H4, I5.tok _, ⟨_, rfl⟩, q⟩
theorem je_rev (ha : JP X C W e ma) : JE X C W (.Subscript e (.Slice none none (some (.UnaryOp .USub (.Constant (.int 1) k p1) p2)) p3) pos) (eOp1 fRev ma) := PE.imp (pe_revX ha) fun σ H Q ⟨ρ, o, S, h⟩ => by
  obtain ⟨ρ0, o0, S0, h0⟩ := stepE (Rl := Pk X.K) S h
  refine ⟨ρ0, o0, S0, h0.imp (fun d ρ1 z v H1 o1 S1 t1 s1 => ?_) fun _ _ z => z⟩
  obtain ⟨ρ1', o1', d', S1', T1, s1', q1⟩ := z v H1 o1 S1 t1 s1
  obtain ⟨r, er, q⟩ := optE q1
  unfold fRev at er
  split at er
  · cases er
    obtain ⟨a, xs, rfl, ra, sa⟩ := s1'
    exact .inl ⟨a, xs, rfl, ra, new_lst S1'.tr sa.rev (newOk S1' q)⟩
  · split at er
    · rename_i hl
      cases er
      rw [s1'.str]
      exact .inr ⟨_, rfl, line_of hl, newOk S1' q _ _ (.refl _) (.str _)⟩
    · cases er
  · cases er

/-! ### what loops walk -/
def pairD (a b : D) : D := .tuple [a, b]
def zipD : D → D → Option (List D)
  | .list xs, .list ys => some (List.zipWith pairD xs ys)
  | .tuple xs, .tuple ys => some (List.zipWith pairD xs ys)
  | _, _ => none
def zipA : List D → Option (List D)
  | [a, b] => zipD a b
  | _ => none
def eZip (m : Env → Res (List D)) : Env → Res (List D) := fun ρ => bindR (m ρ) fun ds ρ1 => optR (zipA ds) ρ1
def enumD : D → Option (List D)
  | .list xs => some (xs.zipIdx.map fun p => .tuple [.int (p.2 : Nat), p.1])
  | _ => none
def eEnum (m : Env → Res D) : Env → Res (List D) := fun ρ => bindR (m ρ) fun d ρ1 => optR (enumD d) ρ1
def revdD : D → Option (List D)
  | .list xs => some xs.reverse
  | .tuple xs => some xs.reverse
  | _ => none
def eRevd (m : Env → Res D) : Env → Res (List D) := fun ρ => bindR (m ρ) fun d ρ1 => optR (revdD d) ρ1
theorem Tx.lst {F0 F : Addr → Prop} {H0 H : Hp} {K : PySem.W.Frag} {a : Addr} {xs : List V} (t : Tx F0 H0 F H) (h : (¬ F0 a ∧ Rd H0 a (.lst xs)) ∨ SqLK K a xs) : SqL K H a xs := h.elim (fun z => .inl (t.rd z.1 z.2).2) .inr
theorem Tx.tup {F0 F : Addr → Prop} {H0 H : Hp} {K : PySem.W.Frag} {a : Addr} {xs : List V} (t : Tx F0 H0 F H) (h : (¬ F0 a ∧ Rd H0 a (.tup xs)) ∨ SqTK K a xs) : SqT K H a xs := h.elim (fun z => .inl (t.rd z.1 z.2).2) .inr
theorem pair_new {K : PySem.W.Frag} {F0 F : Addr → Prop} {H0 H : Hp} {T : Addr} {x y : V} {d e : D} (t : Tx F0 H0 F H) (tr : ∀ a, F a → H a ≠ none) (hT : H T = none) (s1 : Sh K F0 H0 x d) (s2 : Sh K F0 H0 y e) :
    Same H (upd H T (.tup [x, y])) ∧ Sh K F (upd H T (.tup [x, y])) (.ref T) (.tuple [d, e]) := by
  have sm : Same H (upd H T (.tup [x, y])) := same_new hT
  have tt := t.trans (Tx.same sm)
  exact ⟨sm, .tup (.inl ⟨fun z => tr T z hT, .inl upd_same⟩) (.cons (s1.tx tt) (.cons (s2.tx tt) .nil))⟩
theorem zipWith_get {xs ys : List D} {i : Nat} {d : D} (h : (List.zipWith pairD xs ys)[i]? = some d) : ∃ a b, xs[i]? = some a ∧ ys[i]? = some b ∧ d = .tuple [a, b] := by
  rw [List.getElem?_zipWith] at h
  cases e1 : xs[i]? with
  | none => rw [e1] at h; cases h
  | some a =>
    cases e2 : ys[i]? with
    | none => rw [e1, e2] at h; cases h
    | some b =>
      rw [e1, e2] at h
      cases h
      exact ⟨a, b, rfl, rfl, rfl⟩
theorem it_zipL {K : PySem.W.Frag} {F : Addr → Prop} {H : Hp} {a b : Addr} {xs ys : List V} {ds es : List D} (h1 : (¬ F a ∧ Rd H a (.lst xs)) ∨ SqLK K a xs) (h2 : (¬ F b ∧ Rd H b (.lst ys)) ∨ SqLK K b ys) (s1 : ShA K F H xs ds) (s2 : ShA K F H ys es) : ItOk K F H (Itz K a b) (List.zipWith pairD ds es) := by
  intro F' H' t tr
  have g1 := t.lst h1
  have g2 := t.lst h2
  refine ⟨⟨xs, ys, g1, g2, ?_⟩, fun i d e => ?_⟩
  · rw [List.length_zipWith, s1.length, s2.length]; omega
  · obtain ⟨da, db, e1, e2, rfl⟩ := zipWith_get e
    obtain ⟨x, ex, sx⟩ := s1.get e1
    obtain ⟨y, ey, sy⟩ := s2.get e2
    refine ⟨⟨xs, ys, x, y, g1, g2, ex, ey⟩, fun v H2 ⟨T, x', y', ev, hT, eH, k1, k2⟩ => ?_⟩
    subst ev eH
    have q1 := k1 xs g1
    have q2 := k2 ys g2
    rw [ex] at q1
    rw [ey] at q2
    cases q1
    cases q2
    exact pair_new t tr hT sx sy
theorem it_zipT {K : PySem.W.Frag} {F : Addr → Prop} {H : Hp} {a b : Addr} {xs ys : List V} {ds es : List D} (h1 : (¬ F a ∧ Rd H a (.tup xs)) ∨ SqTK K a xs) (h2 : (¬ F b ∧ Rd H b (.tup ys)) ∨ SqTK K b ys) (s1 : ShA K F H xs ds) (s2 : ShA K F H ys es) : ItOk K F H (ItzT K a b) (List.zipWith pairD ds es) := by
  intro F' H' t tr
  have g1 := t.tup h1
  have g2 := t.tup h2
  refine ⟨⟨xs, ys, g1, g2, ?_⟩, fun i d e => ?_⟩
  · rw [List.length_zipWith, s1.length, s2.length]; omega
  · obtain ⟨da, db, e1, e2, rfl⟩ := zipWith_get e
    obtain ⟨x, ex, sx⟩ := s1.get e1
    obtain ⟨y, ey, sy⟩ := s2.get e2
    refine ⟨⟨xs, ys, x, y, g1, g2, ex, ey⟩, fun v H2 ⟨T, x', y', ev, hT, eH, k1, k2⟩ => ?_⟩
    subst ev eH
    have q1 := k1 xs g1
    have q2 := k2 ys g2
    rw [ex] at q1
    rw [ey] at q2
    cases q1
    cases q2
    exact pair_new t tr hT sx sy
theorem it_enum {K : PySem.W.Frag} {F : Addr → Prop} {H : Hp} {a : Addr} {xs : List V} {ds : List D} (h1 : (¬ F a ∧ Rd H a (.lst xs)) ∨ SqLK K a xs) (s1 : ShA K F H xs ds) : ItOk K F H (Ite K a) (ds.zipIdx.map fun p => .tuple [.int (p.2 : Nat), p.1]) := by
  intro F' H' t tr
  have g1 := t.lst h1
  refine ⟨⟨xs, g1, ?_⟩, fun i d e => ?_⟩
  · rw [List.length_map, List.length_zipIdx, s1.length]
    exact Nat.le_refl _
  · rw [List.getElem?_map, List.getElem?_zipIdx, Option.map_map, Option.map_eq_some_iff] at e
    obtain ⟨da, e1, rfl⟩ := e
    obtain ⟨x, ex, sx⟩ := s1.get e1
    refine ⟨⟨xs, x, g1, ex⟩, fun v H2 ⟨T, x', ev, hT, eH, k1⟩ => ?_⟩
    subst ev eH
    have q1 := k1 xs g1
    rw [ex] at q1
    cases q1
    have := pair_new t tr hT (.int (i : Int)) sx
    simpa using this
theorem it_revL {K : PySem.W.Frag} {F : Addr → Prop} {H : Hp} {a : Addr} {xs : List V} {ds : List D} (h1 : (¬ F a ∧ Rd H a (.lst xs)) ∨ SqLK K a xs) (s1 : ShA K F H xs ds) : ItOk K F H (Itv K a xs.length) ds.reverse := by
  intro F' H' t tr
  have g1 := t.lst h1
  refine ⟨by show xs.length ≤ _; rw [List.length_reverse, s1.length]; exact Nat.le_refl _, fun i d e => ?_⟩
  obtain ⟨hi, e1⟩ := List.getElem?_eq_some_iff.mp e
  rw [List.length_reverse] at hi
  rw [List.getElem?_reverse hi] at e
  rw [← s1.length] at e hi
  obtain ⟨x, ex, sx⟩ := s1.get e
  refine ⟨⟨hi, xs, x, g1, ex⟩, fun v H2 ⟨eH, k⟩ => ?_⟩
  subst eH
  have q := k xs g1
  have ei : xs.length - 1 - i = xs.length - 1 - i := rfl
  rw [show xs.length - 1 - i = xs.length - 1 - i by omega] at q
  rw [ex] at q
  cases q
  exact ⟨.refl _, sx.tx t⟩
theorem it_revT {K : PySem.W.Frag} {F : Addr → Prop} {H : Hp} {a : Addr} {xs : List V} {ds : List D} (h1 : (¬ F a ∧ Rd H a (.tup xs)) ∨ SqTK K a xs) (s1 : ShA K F H xs ds) : ItOk K F H (ItvT K a xs.length) ds.reverse := by
  intro F' H' t tr
  have g1 := t.tup h1
  refine ⟨by show xs.length ≤ _; rw [List.length_reverse, s1.length]; exact Nat.le_refl _, fun i d e => ?_⟩
  obtain ⟨hi, e1⟩ := List.getElem?_eq_some_iff.mp e
  rw [List.length_reverse] at hi
  rw [List.getElem?_reverse hi] at e
  rw [← s1.length] at e hi
  obtain ⟨x, ex, sx⟩ := s1.get e
  refine ⟨⟨hi, xs, x, g1, ex⟩, fun v H2 ⟨eH, k⟩ => ?_⟩
  subst eH
  have q := k xs g1
  rw [ex] at q
  cases q
  exact ⟨.refl _, sx.tx t⟩
theorem ji_zip {elts : List Expr} {kk : Nat} {tpos : Pos} {m : Env → Res (List D)} (hm : X.mg "zip" = none) (ha : JA X C W [e, b] m) (hg : Gl X "zip") (hs : starEach [e, b] X.env = (false, eval e X.env) :: starEach [b] X.env := by rfl) (hpl : (backTo pos (starEach [b] X.env)).any (·.1) = false := by rfl) :
    JI X C W (.Tuple elts kk tpos) (.Call (.Name "zip" p) [e, b] [] pos) (eZip m) := PI.imp (pi_zipA hg hm ha hs hpl) fun σ H Q ⟨ρ, o, S, h⟩ => by
  obtain ⟨ρ0, o0, S0, h0⟩ := stepI (Rl := ShA X.K) S h
  refine ⟨ρ0, o0, S0, h0.imp (fun d ρ1 z v H1 o1 S1 t1 s1 => ?_) fun _ _ z => z⟩
  obtain ⟨ρ1', o1', d', S1', T1, s1', q1⟩ := z v H1 o1 S1 t1 s1
  cases s1' with
  | nil => exact q1.elim
  | cons ha s2 =>
    cases s2 with
    | nil => exact q1.elim
    | cons hb s3 =>
      cases s3 with
      | cons _ _ => exact q1.elim
      | nil =>
        cases ha with
        | lst r1 s3 =>
          cases hb with
          | lst r2 s4 => exact ⟨_, _, _, _, rfl, .inl ⟨r1.elim (fun z => .inl z.2) .inr, r2.elim (fun z => .inl z.2) .inr, q1 _ H1 o1' S1' (.refl _ _) (it_zipL r1 r2 s3 s4)⟩⟩
          | _ => exact q1.elim
        | tup r1 s3 =>
          cases hb with
          | tup r2 s4 => exact ⟨_, _, _, _, rfl, .inr ⟨r1.elim (fun z => .inl z.2) .inr, r2.elim (fun z => .inl z.2) .inr, q1 _ H1 o1' S1' (.refl _ _) (it_zipT r1 r2 s3 s4)⟩⟩
          | _ => exact q1.elim
        | _ => exact q1.elim
theorem ji_enum {elts : List Expr} {kk : Nat} {tpos : Pos} (hm : X.mg "enumerate" = none) (ha : JV X C W e ma) (hg : Gl X "enumerate") (hs : starEach [e] X.env = [(false, eval e X.env)] := by rfl) :
    JI X C W (.Tuple elts kk tpos) (.Call (.Name "enumerate" p) [e] [] pos) (eEnum ma) := PI.imp (pi_enum hg hm (pa_cons ha pa_nil hs) hs) fun σ H Q ⟨ρ, o, S, h⟩ => by
  obtain ⟨ρ0, o0, S0, h0⟩ := stepI (Rl := Sh X.K) S h
  refine ⟨ρ0, o0, S0, h0.imp (fun d ρ1 z v H1 o1 S1 t1 s1 => ?_) fun _ _ z => z⟩
  obtain ⟨ρ1', o1', d', S1', T1, s1', q1⟩ := z v H1 o1 S1 t1 s1
  cases s1' with
  | lst r1 s2 => exact ⟨_, _, rfl, r1.elim (fun z => .inl z.2) .inr, q1 _ H1 o1' S1' (.refl _ _) (it_enum r1 s2)⟩
  | _ => exact q1.elim
theorem ji_revd (hm : X.mg "reversed" = none) (ha : JV X C W e ma) (hg : Gl X "reversed") (hs : starEach [e] X.env = (false, eval e X.env) :: starEach [] X.env := by rfl) :
    JI X C W tg (.Call (.Name "reversed" p) [e] [] pos) (eRevd ma) := PI.imp (pi_revA hg hm ha hs) fun σ H Q ⟨ρ, o, S, h⟩ => by
  obtain ⟨ρ0, o0, S0, h0⟩ := stepI (Rl := Sh X.K) S h
  refine ⟨ρ0, o0, S0, h0.imp (fun d ρ1 z v H1 o1 S1 t1 s1 => ?_) fun _ _ z => z⟩
  obtain ⟨ρ1', o1', d', S1', T1, s1', q1⟩ := z v H1 o1 S1 t1 s1
  cases s1' with
  | lst r1 s2 => exact ⟨_, _, rfl, .inl ⟨r1.elim (fun z => .inl z.2) .inr, q1 _ H1 o1' S1' (.refl _ _) (it_revL r1 s2)⟩⟩
  | tup r1 s2 => exact ⟨_, _, rfl, .inr ⟨r1.elim (fun z => .inl z.2) .inr, q1 _ H1 o1' S1' (.refl _ _) (it_revT r1 s2)⟩⟩
  | _ => exact q1.elim
end
end Dn
set_option Elab.async false
set_option linter.all false
set_option maxRecDepth 100000
set_option maxHeartbeats 1000000
/-! Dn15: enumerate(tuple), order of data, sorted, min and max of data, divmod, xs[k] += e -/
namespace Dn
open PySem L2 PySem.Spec PyProof.Rows PySem.W
/-! ### enumerate(tuple) -/
theorem enum_tup_new (l : Addr) (items : Array Value) (n : Nat) (dct : Option Addr) (sl : Array (Option Value)) :
    Meets (Builtin.«enumerate.__new__» ⟨[.type "enumerate", .ref l], []⟩) (fun _ R s => s.heap.get? l = some { cls := .type "tuple", dict := dct, data := .seq items n, slots := sl } ∧
      R (.ok (.ret (.ref (s.heap.push { cls := .type "tuple_iterator", data := .fields #[.ref l, .int 0 0] }).objs.size)))
        { s with heap := (s.heap.push { cls := .type "tuple_iterator", data := .fields #[.ref l, .int 0 0] }).push { cls := .type "enumerate", data := .fields #[.none, .bool false, .ref s.heap.objs.size, rawInt 0, .none, .none] } }) :=
  .of_wp fun prog w A R s z => by
    obtain ⟨hp, g, d, tk, os⟩ := s
    obtain ⟨hl, z⟩ := z
    have e1 := sub_enumerate
    have hT : Heap.IsTuple (Shared.heap ⟨hp, g, d, tk, os⟩) l items := ⟨_, hl, rfl, n, rfl⟩
    wp_walk using AutoSeq1.wpAny_loadPart' hl
    refine wpAny_stack_any fun st => wpAny_pure ?_
    split
    · rename_i c _ _ _ _ _
      cases (c == Value.type "enumerate") <;> (wp_walk using AutoSeq1.wpAny_loadPart' hl, wpAny_pyIter_tuple hT) <;> exact ⟨_, rfl, z⟩
    · wp_walk using AutoSeq1.wpAny_loadPart' hl, wpAny_pyIter_tuple hT
      exact ⟨_, rfl, z⟩
section
variable {prog : Program} {w : World} {A : Around} {E : Value → Shared → Prop} {s : Shared}
theorem enum_tup_call {l : Addr} {items : Array Value} {Q : Value → Shared → Prop} (hL : s.heap.IsTuple l items)
    (q : ∀ g, IsEnum g (s.heap.objs.size + 1) s.heap.objs.size 0 .none → g.IsTupleIter s.heap.objs.size l 0 → (∀ b o, s.heap.get? b = some o → g.get? b = some o) → Q (.ref (s.heap.objs.size + 1)) { s with heap := g }) :
    wpAny (model prog w) A (call (.type "enumerate") [.ref l]) Q E s := by
  obtain ⟨⟨c, dct, dt, sl⟩, hl, hc, n, hd⟩ := hL
  simp only at hc hd
  subst hc hd
  have ez : (s.heap.push { cls := .type "tuple_iterator", data := .fields #[.ref l, .int 0 0] }).objs.size = s.heap.objs.size + 1 := Heap.size_push ..
  have he : ((s.heap.push { cls := .type "tuple_iterator", data := .fields #[.ref l, .int 0 0] }).push { cls := .type "enumerate", data := .fields #[.none, .bool false, .ref s.heap.objs.size, rawInt 0, .none, .none] }).get? (s.heap.objs.size + 1) = some { cls := .type "enumerate", data := .fields #[.none, .bool false, .ref s.heap.objs.size, rawInt 0, .none, .none] } := by
    have := Heap.get?_push_size (s.heap.push { cls := .type "tuple_iterator", data := .fields #[.ref l, .int 0 0] }) (o := { cls := .type "enumerate", data := .fields #[.none, .bool false, .ref s.heap.objs.size, rawInt 0, .none, .none] }) rfl
    rwa [ez] at this
  refine callType_new F.called_enumerate (by decide) (F.typeCall_enumerate_1 _) (F.newCall_enumerate_1 _) (fun obj => F.args_object_init_2 obj _) F.entry_enumerate_new (enum_tup_new l items n dct sl) ⟨hl, ?_⟩
  show _ ∧ _
  rw [ez]
  exact ⟨⟨_, he, rfl⟩, q _ he ⟨_, Heap.get?_push_of_some _ (Heap.get?_push_size _ rfl), rfl, rfl⟩ fun b o x => Heap.get?_push_of_some _ (Heap.get?_push_of_some _ x)⟩
end
def IteT (K : PySem.W.Frag) (a : Addr) : It :=
  ⟨fun i H => ∃ (xs : List V) (x : V), SqT K H a xs ∧ xs[i]? = some x, fun i H v H' => ∃ T x, v = .ref T ∧ H T = none ∧ H' = upd H T (.tup [.int (i : Nat), x]) ∧ ∀ xs, SqT K H a xs → xs[i]? = some x, fun i H => ∃ xs : List V, SqT K H a xs ∧ xs.length = i⟩
theorem turn_enumT {P : Program} {w : World} {K : PySem.W.Frag} {elts : List Expr} {kk : Nat} {tpos : Pos} (a e it : Addr) (ai : a ≠ it) (ae : e ≠ a) :
    Turn P w K (.Tuple elts kk tpos) (IteT K a) [e, it] e (fun i h => (∃ old, IsEnum h e it ((i : Nat) : Int) old) ∧ h.IsTupleIter it a i ∧ e ≠ it) where
  mem := by simp
  obj := fun i h st b hb => by
    obtain ⟨⟨old, he⟩, ⟨o, ho, hc, hd⟩, _⟩ := st
    rcases List.mem_cons.mp hb with z | z
    · rw [z]; exact ⟨_, he, fun v q => nomatch q⟩
    · rw [List.mem_singleton.mp z]; exact ⟨o, ho, fun v q => by rw [hd] at q; cases q⟩
  keep := fun i h h' st k => let ⟨⟨old, he⟩, hi, hne⟩ := st; ⟨⟨old, k e (by simp) _ he⟩, hi.at fun o q => k it (by simp) o q, hne⟩
  item := by
    intro X hP hw hK hc i pins s σ H E I hf st hg
    subst hP hw hK
    obtain ⟨⟨old, he⟩, hit, hne⟩ := st
    obtain ⟨xs, x, hq, hx⟩ := hg
    obtain ⟨its, rv, ⟨⟨cls, dd, data, sl⟩, ho, hcl, n, hd⟩, hs⟩ := I.tuple hq
    simp only at hcl hd
    subst hcl hd
    have hT : s.heap.IsTuple a its.toArray := ⟨_, ho, rfl, n, rfl⟩
    obtain ⟨u, hu, ru⟩ := rv.get hx
    have el := Heap.lt_size he
    have il : it < s.heap.objs.size := by obtain ⟨_, q, _⟩ := hit; exact Heap.lt_size q
    have D := Draws.tuple (prog := X.prog) (w := X.w) (A := X.A.in1) (I.ok.hd hc) it a ai its.toArray
    have hi2 : i < its.toArray.size := by
      rw [List.size_toArray]
      exact (List.getElem?_eq_some_iff.mp hu).1
    refine wpAny_pyNext_enum_itemD D he ⟨hit, hT⟩ hi2 hne (by simp [hne, ae]) fun y h' tk py ho' st' hT' hsz hk => ?_
    have ey : y = u := by
      have : its.toArray[i]? = some y := py
      simp at this
      rw [hu] at this
      cases this
      rfl
    subst ey
    refine ⟨_, rfl, wpAny_letOwnedTupleGo_enum (s := { s with heap := h', toks := tk + 1 }) ho' fun h2 he' sb => ?_⟩
    have h3 : h2.get? s.heap.objs.size = some { cls := .type "tuple", data := .seq #[.int i tk, y] } := (sb.2 _ (Nat.ne_of_gt el)).trans hT'
    have I1 : Inv X pins σ (upd H s.heap.objs.size (.tup [.int (i : Nat), x])) { s with heap := h2, toks := tk + 1 } :=
      I.turnedNew (ch := [e, it]) (fun b ob hb q => (sb.2 b (fun z => hb (by simp [z]))).trans (hk b ob (fun z => hb (by simp [z])) (fun z => hb (by simp [z])) q)) hf (Nat.le_refl _)
        ⟨by show 2 ≤ sizeLine; decide, [.int i tk, y], .cons ⟨_, rfl⟩ (.cons ru .nil), ⟨_, h3, rfl, _, rfl⟩⟩
    refine ⟨.ref s.heap.objs.size, _, I1, rfl, ⟨_, x, rfl, I.hok.fresh (Nat.le_refl _), rfl, fun ys hy => ?_⟩, ⟨⟨y, ?_⟩, st'.1.at fun o q => (sb.2 it (Ne.symm hne)).trans q, hne⟩, fun b hb => ?_⟩
    · rw [I.tuple_inj hy hq]; exact hx
    · have e1 : ((i + 1 : Nat) : Int) = (i : Int) + 1 := by omega
      rw [e1]; exact he'
    · have lb : b < s.heap.objs.size := by
        rcases List.mem_cons.mp hb with z | z
        · rw [z]; exact el
        · rw [List.mem_singleton.mp z]; exact il
      rw [upd_ne (Nat.ne_of_lt lb)]
      exact (hf b hb).1
  done := by
    intro X hP hw hK hc i pins s σ H E I hf st hg
    subst hP hw hK
    obtain ⟨⟨old, he⟩, hit, hne⟩ := st
    obtain ⟨xs, hq, hx⟩ := hg
    obtain ⟨its, rv, ⟨⟨cls, dd, data, sl⟩, ho, hcl, n, hd⟩, hs⟩ := I.tuple hq
    simp only at hcl hd
    subst hcl hd
    have hT : s.heap.IsTuple a its.toArray := ⟨_, ho, rfl, n, rfl⟩
    have D := Draws.tuple (prog := X.prog) (w := X.w) (A := X.A.in1) (I.ok.hd hc) it a ai its.toArray
    have en : its.toArray.size = i := by rw [List.size_toArray, ← rv.length]; exact hx
    obtain ⟨f0, f1, f2, f3, f4, f5⟩ := hf it (by simp)
    refine wpAny_pyNext_enum_endD D he (by rw [en]; exact ⟨hit, hT⟩) fun h' eb => ⟨rfl, I.turned (t' := s.toks) (fun b o hb q => eb b o hb q) f0 f1 f3 f4 f5⟩
  self := fun A i s Q E st h => let ⟨⟨_, he⟩, _⟩ := st; wpAny_pyIter_enum he h

def iEnumA (K : PySem.W.Frag) (ta : TE) : TI := fun σ H R => ta σ H fun v H1 => ∃ a xs, v = .ref a ∧ ((SqL K H1 a xs ∧ R (Ite K a) H1) ∨ (SqT K H1 a xs ∧ R (IteT K a) H1))
section
variable {X : Cx} {C : Ctx} {W : WX} {e b tg : Expr} {ma mb mk : Env → Res D} {pos p : Pos} {k : Nat}
theorem pi_enumA {ta : TE} {tpos : Pos} {elts : List Expr} {kk : Nat} (hg : Gl X "enumerate") (hm : X.mg "enumerate" = none) (ha : PE X e ta) (hs : starEach [e] X.env = (false, eval e X.env) :: starEach [] X.env := by rfl) :
    PI X (.Tuple elts kk tpos) (.Call (.Name "enumerate" p) [e] [] pos) (iEnumA X.K ta) := by
  refine ⟨fun pins s σ H R I h => ?_⟩
  refine Call_ (ld_blt I hg hm boot_enumerate (PyProof.Rows.callWith_type1 (args_cons (thn (ha.run pins s σ H _ I h) fun u s1 ⟨v, H1, I1, r1, q1⟩ => args_nil ?_) hs) hs rfl))
  obtain ⟨a, xs, ev, q⟩ := q1
  subst ev
  cases r1
  have lo : ∀ b ∈ [s1.heap.objs.size + 1, s1.heap.objs.size], FpOk X pins H1 b := fun b hb => by
    have le : s1.heap.objs.size ≤ b := by
      rcases List.mem_cons.mp hb with z | z
      · rw [z]; exact Nat.le_add_right _ _
      · rw [List.mem_singleton.mp z]; exact Nat.le_refl _
    exact I1.fpOk le (I1.hok.fresh le)
  rcases q with ⟨hq, q⟩ | ⟨hq, q⟩
  · obtain ⟨its, rv, p', hz⟩ := I1.list hq
    refine call_enumerate_list p'.isList fun h' he hit hsz hk => wpAny_pyIter_enum he ?_
    exact ⟨s1.heap.objs.size + 1, [s1.heap.objs.size + 1, s1.heap.objs.size], _, _, H1, rfl, I1.kept (t' := s1.toks) hk, turn_enum a (s1.heap.objs.size + 1) s1.heap.objs.size, ⟨⟨.none, he⟩, hit, Nat.succ_ne_self _⟩, lo, q⟩
  · obtain ⟨its, rv, ⟨⟨cls, dd, data, sl⟩, ho, hcl, n, hd⟩, hs'⟩ := I1.tuple hq
    simp only at hcl hd
    subst hcl hd
    have la := Heap.lt_size ho
    refine enum_tup_call ⟨_, ho, rfl, n, rfl⟩ fun h' he hit hk => wpAny_pyIter_enum he ?_
    exact ⟨s1.heap.objs.size + 1, [s1.heap.objs.size + 1, s1.heap.objs.size], _, _, H1, rfl, I1.kept (t' := s1.toks) hk, turn_enumT a (s1.heap.objs.size + 1) s1.heap.objs.size (Nat.ne_of_lt la) (fun z => Nat.not_lt_of_le (Nat.le_succ _) (show s1.heap.objs.size + 1 < s1.heap.objs.size by rw [z]; exact la)), ⟨⟨.none, he⟩, hit, Nat.succ_ne_self _⟩, lo, q⟩
theorem it_enumT {K : PySem.W.Frag} {F : Addr → Prop} {H : Hp} {a : Addr} {xs : List V} {ds : List D} (h1 : (¬ F a ∧ Rd H a (.tup xs)) ∨ SqTK K a xs) (s1 : ShA K F H xs ds) : ItOk K F H (IteT K a) (ds.zipIdx.map fun p => .tuple [.int (p.2 : Nat), p.1]) := by
  intro F' H' t tr
  have g1 := t.tup h1
  refine ⟨⟨xs, g1, ?_⟩, fun i d e => ?_⟩
  · rw [List.length_map, List.length_zipIdx, s1.length]
  · rw [List.getElem?_map, List.getElem?_zipIdx, Option.map_map, Option.map_eq_some_iff] at e
    obtain ⟨da, e1, rfl⟩ := e
    obtain ⟨x, ex, sx⟩ := s1.get e1
    refine ⟨⟨xs, x, g1, ex⟩, fun v H2 ⟨T, x', ev, hT, eH, k1⟩ => ?_⟩
    subst ev eH
    have q1 := k1 xs g1
    rw [ex] at q1
    cases q1
    have := pair_new t tr hT (.int (i : Int)) sx
    simpa using this
def enumA : D → Option (List D)
  | .list xs => some (xs.zipIdx.map fun p => .tuple [.int (p.2 : Nat), p.1])
  | .tuple xs => some (xs.zipIdx.map fun p => .tuple [.int (p.2 : Nat), p.1])
  | _ => none
def eEnumA (m : Env → Res D) : Env → Res (List D) := fun ρ => bindR (m ρ) fun d ρ1 => optR (enumA d) ρ1
theorem ji_enumA {elts : List Expr} {kk : Nat} {tpos : Pos} (hm : X.mg "enumerate" = none) (ha : JV X C W e ma) (hg : Gl X "enumerate") (hs : starEach [e] X.env = (false, eval e X.env) :: starEach [] X.env := by rfl) :
    JI X C W (.Tuple elts kk tpos) (.Call (.Name "enumerate" p) [e] [] pos) (eEnumA ma) := PI.imp (pi_enumA hg hm ha hs) fun σ H Q ⟨ρ, o, S, h⟩ => by
  obtain ⟨ρ0, o0, S0, h0⟩ := stepI (Rl := Sh X.K) S h
  refine ⟨ρ0, o0, S0, h0.imp (fun d ρ1 z v H1 o1 S1 t1 s1 => ?_) fun _ _ z => z⟩
  obtain ⟨ρ1', o1', d', S1', T1, s1', q1⟩ := z v H1 o1 S1 t1 s1
  cases s1' with
  | lst r1 s2 => exact ⟨_, _, rfl, .inl ⟨r1.elim (fun z => .inl z.2) .inr, q1 _ H1 o1' S1' (.refl _ _) (it_enum r1 s2)⟩⟩
  | tup r1 s2 => exact ⟨_, _, rfl, .inr ⟨r1.elim (fun z => .inl z.2) .inr, q1 _ H1 o1' S1' (.refl _ _) (it_enumT r1 s2)⟩⟩
  | _ => exact q1.elim

/-! ### the order of data -/
def cmpOk (x y : D) : Bool := alike x y && (!isNon x && (PyData.canLay0 x && (PyData.canLay0 y && decide (min x.depth y.depth ≤ 32))))
def fLtX (x y : D) : Option R := if cmpOk x y = true then some (.val (.bool (dataLt x y))) else none
def fLeX (x y : D) : Option R := if cmpOk x y = true then some (.val (.bool (!dataLt y x))) else none
def fGtX (x y : D) : Option R := if cmpOk x y = true then some (.val (.bool (dataLt y x))) else none
def fGeX (x y : D) : Option R := if cmpOk x y = true then some (.val (.bool (!dataLt x y))) else none
theorem cmp_reads {pins : List (Addr × Obj)} {s : Shared} {σ : L2.St} {H : Hp} {F : Addr → Prop} {x y : V} {u v : Value} {d e : D} (I : Inv X pins σ H s) (ru : RelV x u) (rv : RelV y v) (hu : X.A.units + 64 < cLine) (sx : Sh X.K F H x d) (sy : Sh X.K F H y e) (h : cmpOk d e = true) :
    ∃ as bs, Reads s.heap u d as ∧ Reads s.heap v e bs ∧ alike d e = true ∧ d ≠ .none ∧ X.A.units + min d.depth e.depth < cLine := by
  unfold cmpOk at h
  simp only [Bool.and_eq_true, Bool.not_eq_true', decide_eq_true_eq] at h
  obtain ⟨h1, h2, h3, h4, h5⟩ := h
  obtain ⟨as, r1⟩ := Dp.reads I d x u (sx.noD _ _ h3) ru
  obtain ⟨bs, r2⟩ := Dp.reads I e y v (sy.noD _ _ h4) rv
  refine ⟨as, bs, r1, r2, h1, ?_, by omega⟩
  intro z
  rw [z] at h2
  cases h2
theorem od_ltX (hu : X.A.units + 64 < cLine) : OpR X (compareOp .Lt) (rD2 X.K fLtX) := by
  intro pins s σ H x y v u Q I rx ry h
  obtain ⟨F, d, e, r, tr, sx, sy, er, q⟩ := h
  unfold fLtX at er
  split at er
  · rename_i hm
    cases er
    obtain ⟨as, bs, r1, r2, h1, h2, h3⟩ := cmp_reads I rx ry hu sx sy hm
    exact lt_data r1 r2 h1 h2 h3 ⟨.bl _, H, I, rfl, q _ _ (.refl H) (.bl _)⟩
  · cases er
theorem od_leX (hu : X.A.units + 64 < cLine) : OpR X (compareOp .LtE) (rD2 X.K fLeX) := by
  intro pins s σ H x y v u Q I rx ry h
  obtain ⟨F, d, e, r, tr, sx, sy, er, q⟩ := h
  unfold fLeX at er
  split at er
  · rename_i hm
    cases er
    obtain ⟨as, bs, r1, r2, h1, h2, h3⟩ := cmp_reads I rx ry hu sx sy hm
    exact le_data r1 r2 h1 h2 h3 ⟨.bl _, H, I, rfl, q _ _ (.refl H) (.bl _)⟩
  · cases er
theorem od_gtX (hu : X.A.units + 64 < cLine) : OpR X (compareOp .Gt) (rD2 X.K fGtX) := by
  intro pins s σ H x y v u Q I rx ry h
  obtain ⟨F, d, e, r, tr, sx, sy, er, q⟩ := h
  unfold fGtX at er
  split at er
  · rename_i hm
    cases er
    obtain ⟨as, bs, r1, r2, h1, h2, h3⟩ := cmp_reads I rx ry hu sx sy hm
    exact gt_data r1 r2 h1 h2 h3 ⟨.bl _, H, I, rfl, q _ _ (.refl H) (.bl _)⟩
  · cases er
theorem od_geX (hu : X.A.units + 64 < cLine) : OpR X (compareOp .GtE) (rD2 X.K fGeX) := by
  intro pins s σ H x y v u Q I rx ry h
  obtain ⟨F, d, e, r, tr, sx, sy, er, q⟩ := h
  unfold fGeX at er
  split at er
  · rename_i hm
    cases er
    obtain ⟨as, bs, r1, r2, h1, h2, h3⟩ := cmp_reads I rx ry hu sx sy hm
    exact ge_data r1 r2 h1 h2 h3 ⟨.bl _, H, I, rfl, q _ _ (.refl H) (.bl _)⟩
  · cases er

/-! ### sorted(xs) -/
def isTupC : D → Bool
  | .tuple (_ :: _) => true
  | _ => false
def sortOk (ds : List D) : Bool := (ds.all fun d => ds.all fun e => alike d e) && ((ds.all isTupC || ds.all fun d => !isNon d && !isTup d) && (ds.all fun d => PyData.canLay0 d && decide (d.depth ≤ 32)))
def srt (ds : List D) : List D := ds.mergeSort (dataLe false id)
def fSorted : D → Option R
  | .list ds => if sortOk ds = true ∧ ds.length ≤ 16777216 then some (.fresh (.lst (srt ds))) else none
  | _ => none
theorem sortOk_parts {ds : List D} (h : sortOk ds = true) : AllAlike (ds.map id) ∧ Sortable (ds.map id) ∧ ∀ d ∈ ds, PyData.canLay0 d = true ∧ d.depth ≤ 32 := by
  unfold sortOk at h
  simp only [Bool.and_eq_true, Bool.or_eq_true, List.all_eq_true, decide_eq_true_eq, Bool.not_eq_true'] at h
  obtain ⟨h1, h2, h3⟩ := h
  rw [List.map_id]
  refine ⟨fun d hd e he => h1 d hd e he, ?_, h3⟩
  rcases h2 with h2 | h2
  · refine .inl fun d hd => ?_
    have := h2 d hd
    unfold isTupC at this
    split at this
    · exact ⟨_, _, rfl⟩
    · cases this
  · refine .inr fun d hd => ?_
    have := h2 d hd
    exact ⟨fun z => by subst z; simp [isNon] at this, fun xs z => by subst z; simp [isTup] at this⟩
theorem each_of {K : PySem.W.Frag} {F : Addr → Prop} {H : Hp} : ∀ {xs : List V} {us : List Value} {ds : List D}, Vals xs us → ShA K F H xs ds → EachIs (fun u d => ∃ x, RelV x u ∧ Sh K F H x d) us ds
  | _, _, _, .nil, .nil => .nil
  | _, _, _, .cons r rs, .cons h s => .cons ⟨_, r, h⟩ (each_of rs s)
theorem of_each {K : PySem.W.Frag} {F : Addr → Prop} {H : Hp} : ∀ {us : List Value} {ds : List D}, EachIs (fun u d => ∃ x, RelV x u ∧ Sh K F H x d) us ds → ∃ xs, Vals xs us ∧ ShA K F H xs ds
  | _, _, .nil => ⟨[], .nil, .nil⟩
  | _, _, .cons ⟨x, r, h⟩ t => let ⟨xs, a, b⟩ := of_each t; ⟨x :: xs, .cons r a, .cons h b⟩
theorem each_ready {pins : List (Addr × Obj)} {s : Shared} {σ : L2.St} {H : Hp} {F : Addr → Prop} (I : Inv X pins σ H s) : ∀ {us : List Value} {ds : List D}, (∀ d ∈ ds, PyData.canLay0 d = true) → EachIs (fun u d => ∃ x, RelV x u ∧ Sh X.K F H x d) us ds → EachIs (fun u d => ∃ as, Reads s.heap u (id d) as) us ds
  | _, _, _, .nil => .nil
  | _, d :: ds, h, .cons ⟨x, r, sh⟩ t => .cons (Dp.reads I d x _ (sh.noD _ _ (h d (List.mem_cons_self ..))) r) (each_ready I (fun e he => h e (List.mem_cons_of_mem _ he)) t)
theorem cr_sortedX (hu : X.A.units + 64 < cLine) : CallR X (.builtin "sorted") (rP1 X.K fSorted) := by
  intro pins s σ H xs us Q I r h
  obtain ⟨x, F, d, rr, rfl, tr, sx, er, q⟩ := h
  unfold fSorted at er
  split at er
  · split at er
    · rename_i ds hok
      cases er
      obtain ⟨a, ys, rfl, ra, sa⟩ := sx
      obtain ⟨its, rv, hl, hz⟩ := I.list ra
      rw [Vals.ref1 r]
      obtain ⟨p1, p2, p3⟩ := sortOk_parts hok.1
      have e1 := each_of rv sa
      refine sorted_data (R := fun u d => ∃ x, RelV x u ∧ Sh X.K F H x d) (enc := id) hl.isList e1 (each_ready I (fun d hd => (p3 d hd).1) e1) p1 p2 (line_of hok.2) (fun d hd => by have := (p3 d hd).2; show X.A.units + 2 + d.depth < cLine; omega) fun out hlen eo => ?_
      obtain ⟨zs, z1, z2⟩ := of_each eo
      obtain ⟨ep, hat⟩ := PyProof.Rows.sortedAll_at s.heap its (List.toArray out)
      have hzl : zs.length ≤ sizeLine := by rw [z1.length, hlen]; exact line_of hok.2
      have hn : H (s.heap.objs.size + 1) = none := I.hok.fresh (Nat.le_succ _)
      exact ⟨.ref _, upd H (s.heap.objs.size + 1) (.lst zs), I.laid (t' := s.toks) (fun _ _ => PyProof.Rows.sortedAll_old) (Nat.le_succ _) ⟨hzl, _, ep, z1, by simpa using hat⟩, rfl, new_lst tr z2 q _ hn⟩
    · cases er
  · cases er

/-! ### divmod -/
def fDivmod : List D → Option R
  | [.int i, .int j] => if 0 < j ∧ Builtin.divisionGoesByPylong i j = false then some (.val (.tuple [.int (i / j), .int (i % j)])) else none
  | _ => none
theorem cr_divmodX : CallR X (.builtin "divmod") (rDn X.K fDivmod) := by
  intro pins s σ H xs us Q I r h
  obtain ⟨F, ds, rr, tr, sx, er, q⟩ := h
  unfold fDivmod at er
  split at er
  · split at er
    · rename_i hc
      cases er
      rw [sh2 sx] at r
      exact call_divmodW pins s σ H _ us Q I r ⟨_, _, rfl, hc, new_tup tr (.cons (.int _) (.cons (.int _) .nil)) q⟩
    · cases er
  · cases er

/-! ### xs[k] += e, x += e -/
def fAddI : D → D → Option R
  | .int i, .int j => some (.val (.int (i + j)))
  | _, _ => none
def fSubI : D → D → Option R
  | .int i, .int j => some (.val (.int (i - j)))
  | _, _ => none
theorem pi_addI : PIp X .Add (rD2 X.K fAddI) := by
  intro pins s σ H x y v u Q I rx ry h
  obtain ⟨F, d, e, r, tr, sx, sy, er, q⟩ := h
  unfold fAddI at er
  split at er
  · cases er
    rw [sx.ofInt] at rx
    rw [sy.ofInt] at ry
    exact ip_add pins s σ H _ _ v u Q I rx ry ⟨_, _, rfl, rfl, q _ _ (.refl H) (.int _)⟩
  · cases er
theorem pi_subI : PIp X .Sub (rD2 X.K fSubI) := by
  intro pins s σ H x y v u Q I rx ry h
  obtain ⟨F, d, e, r, tr, sx, sy, er, q⟩ := h
  unfold fSubI at er
  split at er
  · cases er
    rw [sx.ofInt] at rx
    rw [sy.ofInt] at ry
    exact ip_sub pins s σ H _ _ v u Q I rx ry ⟨_, _, rfl, rfl, q _ _ (.refl H) (.int _)⟩
  · cases er
theorem pget_list : PGet X (fun o i H Q => ∃ a xs k x, o = V.ref a ∧ i = V.int k ∧ SqL X.K H a xs ∧ 0 ≤ k ∧ xs[k.toNat]? = some x ∧ Q x H) := by
  intro pins s σ H o i ov iv Q I ro ri h
  obtain ⟨a, xs, k, x, rfl, rfl, hq, h0, hx, q⟩ := h
  cases ro
  obtain ⟨t, rfl⟩ := ri
  obtain ⟨its, r, pl, hz⟩ := I.list hq
  obtain ⟨u, eu, ru⟩ := r.get hx
  have hn := line63
  have hl := r.length
  have hi := (List.getElem?_eq_some_iff.mp hx).1
  exact wpAny_getItem_list pl.isList h0 (by omega) (by simpa using eu) ⟨x, H, I, ru, q⟩
def sAugL (i : Nat) (mk : Env → Res D) (f : D → D → Option R) (me : Env → Res D) : Env → SR := fun ρ => match lstAt (gS ρ i) with
  | none => .bad
  | some _ => bindRS (mk ρ) fun k ρ1 => match lstAt (gS ρ1 i), k with
    | some xs, .int n => if 0 ≤ n then match xs[n.toNat]? with
        | some x => bindRS (me ρ1) fun y ρ2 => match f x y, lstAt (gS ρ2 i) with
          | some (.val z), some ys => if n < ys.length then .nx (sS ρ2 i (lstTo (gS ρ2 i) (ys.set n.toNat z))) else .bad
          | _, _ => .bad
        | none => .bad
      else .bad
    | _, _ => .bad
theorem js_augL {op : Operator} {i : Nat} {tpos : Pos} {kx : Expr} {f : D → D → Option R} (ho : PE X b (tVar i)) (hk : JV X C W kx mk) (he : JV X C W e ma) (hp : PIp X op (rD2 X.K f))
    (hs : ∀ ov iv new, augStore kx ov iv new = (do holding [new, ov, iv] (setItem ov iv new); release [new, ov, iv] []; pure .next) := by intros; rfl) :
    JS X C W (.AugAssign (.Subscript b kx tpos) op e pos) (sAugL i mk f ma) := PS.imp (ps_augS ho hk pget_list he hp set_list hs) fun D σ H ⟨ρ, o, S, h⟩ => by
  unfold sAugL at h
  cases g : lstAt (gS ρ i) with
  | none => simp only [g] at h; exact h.elim
  | some xs0 =>
    simp only [g] at h
    obtain ⟨a, vs, ea, eo, eH, sh, hl⟩ := lst_at S g
    refine ⟨.ref a, ea, ?_⟩
    obtain ⟨ρ0, o0, S0, h0⟩ := stepS (Rl := Sh X.K) S h
    refine ⟨ρ0, o0, S0, h0.imp (fun d ρ1 z v H1 o1 S1 t1 s1 => ?_) fun _ _ z => z⟩
    obtain ⟨ρ1', o1', d', S1', T1, s1', q1⟩ := z v H1 o1 S1 t1 s1
    cases g1 : lstAt (gS ρ1' i) with
    | none => simp only [g1] at q1; exact q1.elim
    | some xs =>
      cases d' with
      | int n =>
        simp only [g1] at q1
        split at q1
        · rename_i h0n
          cases ex : xs[n.toNat]? with
          | none => simp only [ex] at q1; exact q1.elim
          | some x =>
            simp only [ex] at q1
            obtain ⟨a1, vs1, ea1, eo1, eH1, sh1, hl1⟩ := lst_at S1' g1
            rw [ea] at ea1
            cases ea1
            obtain ⟨xv, exv, sxv⟩ := sh1.get ex
            refine ⟨a, vs1, n, xv, rfl, s1'.ofInt, .inl (.inl eH1), h0n, exv, ?_⟩
            obtain ⟨ρ2, o2, S2, h2⟩ := stepS (Rl := Sh X.K) S1' q1
            refine ⟨ρ2, o2, S2, h2.imp (fun d2 ρ3 z2 v2 H2 o3 S3 t3 s3 => ?_) fun _ _ z => z⟩
            obtain ⟨ρ4, o4, d4, S4, T4, s4, q4⟩ := z2 v2 H2 o3 S3 t3 s3
            cases ef : f x d4 with
            | none => simp only [ef] at q4; exact q4.elim
            | some r =>
              cases r with
              | fresh c => simp only [ef] at q4; exact q4.elim
              | val z =>
                cases g4 : lstAt (gS ρ4 i) with
                | none => simp only [ef, g4] at q4; exact q4.elim
                | some ys =>
                  simp only [ef, g4] at q4
                  split at q4
                  · rename_i hlt
                    refine ⟨FF C.B o4, x, d4, .val z, S4.tr, sxv.tx T4, s4, ef, fun vz Hz sm shz => ?_⟩
                    have S5 := S4.keep sm
                    obtain ⟨a2, vs2, ea2, eo2, eH2, sh2, hl2⟩ := lst_at S5 g4
                    rw [ea] at ea2
                    cases ea2
                    obtain ⟨S6, t6⟩ := lst_wr (ws := vs2.set n.toNat vz) S5 g4 ea (ShA.set shz n.toNat sh2)
                    exact ⟨a, vs2, n, n.toNat, rfl, s1'.ofInt, eH2, by unfold ixN; rw [if_pos h0n, sh2.length, if_pos hlt], q4 σ _ o4 S6 ((Tx.same sm).trans t6)⟩
                  · exact q4.elim
        · exact q1.elim
      | _ => simp only [g1] at q1; exact q1.elim
/-- x += e -/
def sAugN (i : Nat) (f : D → D → Option R) (me : Env → Res D) : Env → SR := fun ρ => match gS ρ i with
  | .val x => bindRS (me ρ) fun y ρ1 => match gS ρ1 i, f x y with
    | .val _, some (.val z) => .nx (sS ρ1 i (.val z))
    | _, _ => .bad
  | _ => .bad
theorem js_augN {op : Operator} {i : Nat} {x : Str} {pos' : Pos} {f : D → D → Option R} (hN : X.N.Nodup) (hi : X.N[i]? = some x) (hx : Loc X.env.scope x) (he : JV X C W e ma) (ho : PIp X op (rD2 X.K f)) (hf : X.fn x = true ∨ X.env.scope.names.lookup x = some .local := by first | exact .inl rfl | exact .inr rfl) :
    JS X C W (.AugAssign (.Name x pos') op e pos) (sAugN i f ma) := PS.imp (ps_aug hN hi hx he ho hf) fun D σ H ⟨ρ, o, S, h⟩ => by
  unfold sAugN at h
  have z0 := S.slot i
  cases g : gS ρ i with
  | emp => rw [g] at h; exact h.elim
  | own c => rw [g] at h; exact h.elim
  | bor c => rw [g] at h; exact h.elim
  | val d =>
    rw [g] at h z0
    obtain ⟨_, xv, exv, sxv⟩ := z0
    refine ⟨xv, exv, ?_⟩
    obtain ⟨ρ0, o0, S0, h0⟩ := stepS (Rl := Sh X.K) S h
    refine ⟨ρ0, o0, S0, h0.imp (fun d2 ρ1 z v H1 o1 S1 t1 s1 => ?_) fun _ _ z => z⟩
    obtain ⟨ρ1', o1', d', S1', T1, s1', q1⟩ := z v H1 o1 S1 t1 s1
    cases g1 : gS ρ1' i with
    | val d3 =>
      cases ef : f d d' with
      | none => simp only [g1, ef] at q1; exact q1.elim
      | some r =>
        cases r with
        | fresh c => simp only [g1, ef] at q1; exact q1.elim
        | val zz =>
          simp only [g1, ef] at q1
          refine ⟨FF C.B o1', d, d', .val zz, S1'.tr, sxv.tx T1, s1', ef, fun vz Hz sm shz => ?_⟩
          have S2 := S1'.keep sm
          have hl : i < ρ1'.length := by
            by_cases hl : i < ρ1'.length
            · exact hl
            · rw [gS_out (by omega)] at g1; cases g1
          exact q1 _ Hz _ (S2.setV shz) ((Tx.same sm).trans (.less FF.drop))
    | _ => simp only [g1] at q1; exact q1.elim

/-! ### min(xs), max(xs) of data -/
def mmOk (ds : List D) : Bool := (ds.all fun d => ds.all fun e => alike d e) && ((ds.all fun d => !isNon d) && (ds.all fun d => PyData.canLay0 d && decide (d.depth ≤ 32)))
def fMinX : D → Option R
  | .list (x :: xs) => if mmOk (x :: xs) = true then some (.val (minD x xs)) else none
  | _ => none
def fMaxX : D → Option R
  | .list (x :: xs) => if mmOk (x :: xs) = true then some (.val (maxD x xs)) else none
  | _ => none
theorem depth_all {k : Nat} : ∀ {ds : List D}, (∀ d ∈ ds, d.depth ≤ k) → PyData.depthAll ds ≤ k
  | [], _ => by simp [PyData.depthAll]
  | d :: ds, h => by
    have a := h d (List.mem_cons_self ..)
    have b := depth_all fun e he => h e (List.mem_cons_of_mem d he)
    simp [PyData.depthAll]
    omega
theorem mmOk_parts {ds : List D} (h : mmOk ds = true) : AlikeAll ds ∧ PyData.depthAll ds ≤ 32 ∧ ∀ d ∈ ds, PyData.canLay0 d = true := by
  unfold mmOk at h
  simp only [Bool.and_eq_true, List.all_eq_true, decide_eq_true_eq, Bool.not_eq_true'] at h
  obtain ⟨h1, h2, h3⟩ := h
  refine ⟨⟨fun x hx y hy => h1 x hx y hy, fun x hx z => ?_⟩, depth_all fun d hd => (h3 d hd).2, fun d hd => (h3 d hd).1⟩
  have := h2 x hx
  rw [z] at this
  cases this
theorem reads_all {pins : List (Addr × Obj)} {s : Shared} {σ : L2.St} {H : Hp} {F : Addr → Prop} (I : Inv X pins σ H s) : ∀ {xs : List V} {us : List Value} {ds : List D}, (∀ d ∈ ds, PyData.canLay0 d = true) → Vals xs us → ShA X.K F H xs ds → ∃ as, ReadsAll s.heap us ds as
  | _, _, _, _, .nil, .nil => ⟨[], .nil⟩
  | _, _, d :: ds, h, .cons r rs, .cons sh t => by
    obtain ⟨as, r1⟩ := Dp.reads I d _ _ (sh.noD _ _ (h d (List.mem_cons_self ..))) r
    obtain ⟨bs, r2⟩ := reads_all I (fun e he => h e (List.mem_cons_of_mem _ he)) rs t
    exact ⟨as ++ bs, .cons r1 r2⟩
theorem min_mem (x : D) (xs : List D) : minD x xs ∈ x :: xs := by
  unfold minD
  suffices h : ∀ (l : List D) (a : D), l.foldl (fun a y => if dataLt y a then y else a) a ∈ a :: l by exact h xs x
  intro l
  induction l with
  | nil => intro a; exact List.mem_cons_self ..
  | cons y l ih =>
    intro a
    rw [List.foldl_cons]
    have := ih (if dataLt y a then y else a)
    split at this <;> simp at this ⊢ <;> rcases this with h | h <;> simp_all
theorem max_mem (x : D) (xs : List D) : maxD x xs ∈ x :: xs := by
  unfold maxD
  suffices h : ∀ (l : List D) (a : D), l.foldl (fun a y => if dataLt a y then y else a) a ∈ a :: l by exact h xs x
  intro l
  induction l with
  | nil => intro a; exact List.mem_cons_self ..
  | cons y l ih =>
    intro a
    rw [List.foldl_cons]
    have := ih (if dataLt a y then y else a)
    split at this <;> simp at this ⊢ <;> rcases this with h | h <;> simp_all
theorem pick_sh {pins : List (Addr × Obj)} {s : Shared} {σ : L2.St} {H : Hp} {F : Addr → Prop} {ys : List V} {its : List Value} {ds : List D} {m : D} {v : Value} {i : Nat} {h' : Heap} {bs : List Addr} (I : Inv X pins σ H s) (rv : Vals ys its) (sa : ShA X.K F H ys ds) (hal : ∀ x ∈ ds, ∀ y ∈ ds, alike x y = true) (hc : ∀ d ∈ ds, PyData.canLay0 d = true) (hm : m ∈ ds)
    (hv : its[i]? = some v) (hr : Reads h' v m bs) (hk : ∀ b o, s.heap.get? b = some o → h'.get? b = some o) : ∃ y, RelV y v ∧ Sh X.K F H y m := by
  have hi : i < ys.length := by rw [rv.length]; exact (List.getElem?_eq_some_iff.mp hv).1
  obtain ⟨u, eu, ru⟩ := rv.get (List.getElem?_eq_getElem hi)
  rw [hv] at eu
  cases eu
  obtain ⟨d, ed, sd⟩ := sa.get' (List.getElem?_eq_getElem hi)
  have hd := List.mem_of_getElem? ed
  obtain ⟨as, r1⟩ := Dp.reads I d _ _ (sd.noD _ _ (hc d hd)) ru
  have e := alike_unique d m _ as bs (hal d hd m hm) (PyProof.Rows.Reads.keeps hk r1) hr
  subst e
  exact ⟨_, ru, sd⟩
theorem cr_minX (hc : X.calm = true) (hu : X.A.units + 64 < cLine) : CallR X (.builtin "min") (rP1 X.K fMinX) := by
  intro pins s σ H xs us Q I r h
  obtain ⟨x, F, d, rr, rfl, tr, sx, er, q⟩ := h
  unfold fMinX at er
  split at er
  · split at er
    · rename_i y ds hok
      cases er
      obtain ⟨a, ys, rfl, ra, sa⟩ := sx
      obtain ⟨its, rv, hl, hz⟩ := I.list ra
      rw [Vals.ref1 r]
      obtain ⟨p1, p2, p3⟩ := mmOk_parts hok
      obtain ⟨as, hr⟩ := reads_all I p3 rv sa
      refine min_list_data (I.ok.hd hc) hl.isList (by simpa using hr) p1 (by omega) fun i v h' tk bs hv hrd hk => ?_
      obtain ⟨w, rw', sw⟩ := pick_sh I rv sa p1.1 p3 (min_mem y ds) (by simpa using hv) hrd hk
      exact ⟨w, H, I.kept hk, rw', q _ _ (.refl H) sw⟩
    · cases er
  · cases er
theorem cr_maxX (hc : X.calm = true) (hu : X.A.units + 64 < cLine) : CallR X (.builtin "max") (rP1 X.K fMaxX) := by
  intro pins s σ H xs us Q I r h
  obtain ⟨x, F, d, rr, rfl, tr, sx, er, q⟩ := h
  unfold fMaxX at er
  split at er
  · split at er
    · rename_i y ds hok
      cases er
      obtain ⟨a, ys, rfl, ra, sa⟩ := sx
      obtain ⟨its, rv, hl, hz⟩ := I.list ra
      rw [Vals.ref1 r]
      obtain ⟨p1, p2, p3⟩ := mmOk_parts hok
      obtain ⟨as, hr⟩ := reads_all I p3 rv sa
      refine max_list_data (I.ok.hd hc) hl.isList (by simpa using hr) p1 (by omega) fun i v h' tk bs hv hrd hk => ?_
      obtain ⟨w, rw', sw⟩ := pick_sh I rv sa p1.1 p3 (max_mem y ds) (by simpa using hv) hrd hk
      exact ⟨w, H, I.kept hk, rw', q _ _ (.refl H) sw⟩
    · cases er
  · cases er

/-! ### x is True, x is False -/
def fIsB : D → D → Option R
  | .bool a, .bool b => some (.val (.bool (decide (a = b))))
  | _, _ => none
def fIsNotB : D → D → Option R
  | .bool a, .bool b => some (.val (.bool (!decide (a = b))))
  | _, _ => none
theorem od_isB : OpR X (compareOp .Is) (rD2 X.K fIsB) := by
  intro pins s σ H x y v u Q I rx ry h
  obtain ⟨F, d, e, r, tr, sx, sy, er, q⟩ := h
  unfold fIsB at er
  split at er
  · cases er
    rw [sx.ofBool] at rx
    rw [sy.ofBool] at ry
    exact op_isBl pins s σ H _ _ v u Q I rx ry ⟨_, _, rfl, rfl, q _ _ (.refl H) (.bl _)⟩
  · cases er
theorem od_isnotB : OpR X (compareOp .IsNot) (rD2 X.K fIsNotB) := by
  intro pins s σ H x y v u Q I rx ry h
  obtain ⟨F, d, e, r, tr, sx, sy, er, q⟩ := h
  unfold fIsNotB at er
  split at er
  · cases er
    rw [sx.ofBool] at rx
    rw [sy.ofBool] at ry
    exact op_notBl pins s σ H _ _ v u Q I rx ry ⟨_, _, rfl, rfl, q _ _ (.refl H) (.bl _)⟩
  · cases er
end
end Dn
set_option Elab.async false
set_option linter.all false
set_option maxRecDepth 100000
set_option maxHeartbeats 1000000
/-! Dn16: `in` with a name on the right that is read at once -/
namespace Dn
open PySem L2
def rP2 (K : PySem.W.Frag) (f : D → D → Option R) : R2 := fun x y H Q => ∃ F d e r, (∀ a, F a → H a ≠ none) ∧ Sh K F H x d ∧ Pk K F H y e ∧ f d e = some r ∧ NewOk K F H Q r
section
variable {X : Cx} {C : Ctx} {W : WX} {σ : St} {H : Hp} {a b e : Expr} {ma mb : Env → Res D} {pos : Pos} {f : D → D → Option R}
end
section
variable {X : Cx}
theorem od_inP : OpR X (compareOp .In) (rP2 X.K fIn) := by
  intro pins s σ H x y v u Q I rx ry h
  obtain ⟨F, d, e, r, tr, sx, sy, er, q⟩ := h
  unfold fIn at er
  rw [Option.map_eq_some_iff] at er
  obtain ⟨b, eb, rfl⟩ := er
  unfold fInB at eb
  split at eb
  · cases eb
    rw [sx.ofStr] at rx
    rw [Sh.ofStr sy] at ry
    exact op_in_str pins s σ H _ _ v u Q I rx ry ⟨_, _, rfl, rfl, q _ _ (.refl H) (.bl _)⟩
  · split at eb
    · rename_i hf
      cases eb
      obtain ⟨a, xs, rfl, ra, sa⟩ := sy
      refine op_in_seq pins s σ H _ _ v u Q I rx ry ⟨a, xs, rfl, .inl ra, by rw [flat_sh sx]; exact hf.1, by rw [flat_shA sa]; exact hf.2, ?_⟩
      rw [if_neg Bool.false_ne_true, inV_sh sx hf.1 sa hf.2]
      exact q _ _ (.refl H) (.bl _)
    · cases eb
  · split at eb
    · rename_i hf
      cases eb
      obtain ⟨a, xs, rfl, ra, sa⟩ := Sh.T sy
      refine op_in_seq pins s σ H _ _ v u Q I rx ry ⟨a, xs, rfl, .inr ra, by rw [flat_sh sx]; exact hf.1, by rw [flat_shA sa]; exact hf.2, ?_⟩
      rw [if_neg Bool.false_ne_true, inV_sh sx hf.1 sa hf.2]
      exact q _ _ (.refl H) (.bl _)
    · cases eb
  · cases eb
theorem od_notinP : OpR X (compareOp .NotIn) (rP2 X.K fNotIn) := by
  intro pins s σ H x y v u Q I rx ry h
  obtain ⟨F, d, e, r, tr, sx, sy, er, q⟩ := h
  unfold fNotIn at er
  rw [Option.map_eq_some_iff] at er
  obtain ⟨b, eb, rfl⟩ := er
  unfold fInB at eb
  split at eb
  · cases eb
    rw [sx.ofStr] at rx
    rw [Sh.ofStr sy] at ry
    exact op_notin_str pins s σ H _ _ v u Q I rx ry ⟨_, _, rfl, rfl, q _ _ (.refl H) (.bl _)⟩
  · split at eb
    · rename_i hf
      cases eb
      obtain ⟨a, xs, rfl, ra, sa⟩ := sy
      refine op_notIn_seq pins s σ H _ _ v u Q I rx ry ⟨a, xs, rfl, .inl ra, by rw [flat_sh sx]; exact hf.1, by rw [flat_shA sa]; exact hf.2, ?_⟩
      rw [if_pos rfl, inV_sh sx hf.1 sa hf.2]
      exact q _ _ (.refl H) (.bl _)
    · cases eb
  · split at eb
    · rename_i hf
      cases eb
      obtain ⟨a, xs, rfl, ra, sa⟩ := Sh.T sy
      refine op_notIn_seq pins s σ H _ _ v u Q I rx ry ⟨a, xs, rfl, .inr ra, by rw [flat_sh sx]; exact hf.1, by rw [flat_shA sa]; exact hf.2, ?_⟩
      rw [if_pos rfl, inV_sh sx hf.1 sa hf.2]
      exact q _ _ (.refl H) (.bl _)
    · cases eb
  · cases eb
end
section
variable {X : Cx} {C : Ctx} {W : WX} {σ : St} {H : Hp} {a b e : Expr} {ma mb : Env → Res D} {pos : Pos} {f : D → D → Option R}
theorem op2P_imp {o : Nat → List Addr} (ρ : Env) {Q : VK} (S : SRo X.K C o ρ σ H) (h : PoG (OkE X C o σ H Q) (ExP X C W o σ H) (eOp2 f ma mb ρ)) :
    tOp (rP2 X.K f) (tV X C W (Sh X.K) ma) (tV X C W (Pk X.K) mb) σ H Q := by
  obtain ⟨ρ0, o0, S0, h0⟩ := stepE (Rl := Sh X.K) S h
  refine ⟨ρ0, o0, S0, h0.imp (fun d ρ1 z v H1 o1 S1 t1 s1 => ?_) fun _ _ z => z⟩
  obtain ⟨ρ1', o1', d', S1', T1, s1', q1⟩ := z v H1 o1 S1 t1 s1
  obtain ⟨ρ2, o2, S2, h2⟩ := stepE (Rl := Pk X.K) S1' q1
  refine ⟨ρ2, o2, S2, h2.imp (fun d2 ρ3 z2 v2 H2 o3 S3 t3 s3 => ?_) fun _ _ z => z⟩
  obtain ⟨ρ4, o4, d4, S4, T4, s4, q4⟩ := z2 v2 H2 o3 S3 t3 s3
  obtain ⟨r, er, q⟩ := optE q4
  exact ⟨FF C.B o4, d', d4, r, S4.tr, s1'.tx T4, s4, er, newOk S4 q⟩
theorem je_cmpP {op : CmpOp} (ho : OpR X (compareOp op) (rP2 X.K f)) (ha : JV X C W a ma) (hb : JP X C W b mb) (hm : behindInMarks op b = false) : JE X C W (.Compare a [op] [b] pos) (eOp2 f ma mb) :=
  PE.imp (pe_cmpR ho ha hb hm) fun σ H Q ⟨ρ, o, S, h⟩ => op2P_imp ρ S h
theorem jt_cmpP {op : CmpOp} (ho : OpR X (compareOp op) (rP2 X.K f)) (ha : JV X C W a ma) (hb : JP X C W b mb) (hm : behindInMarks op b = false) : JT X C W (.Compare a [op] [b] pos) (tBoolD (eOp2 f ma mb)) :=
  PT.imp (pt_cmpR ho ha hb hm) fun σ H Q ⟨ρ, o, S, h⟩ => by
    obtain ⟨ρ0, o0, S0, h0⟩ := tB_imp S h
    exact op2P_imp ρ0 S0 h0
end
end Dn
set_option Elab.async false
set_option linter.all false
set_option maxRecDepth 100000
set_option maxHeartbeats 1000000
/-! Dn17: d[k], d.get(k, x), sorted(d) of texts, list(range(n)), try .. except X: return a constant -/
namespace Dn
open PySem L2 PySem.Spec PyProof.Rows
section
variable {X : Cx} {C : Ctx} {W : WX} {e b kx f : Expr} {ma mb mk mx : Env → Res D} {pos p p1 p2 apos tpos : Pos}
/-! ### d[k], d.get(k, x), d a name -/
def eDix (i : Nat) (mk : Env → Res D) : Env → Res R := fun ρ => bindR (ePk i ρ) fun _ _ => bindR (mk ρ) fun k ρ1 => bindR (ePk i ρ1) fun d ρ2 => match d, keyD k with
  | .dict ds, some q => match lookD ds q with
    | some v => .ok (.val v) ρ2
    | none => .bad
  | _, _ => .bad
theorem je_dix {i : Nat} (hu : X.A.units + 1 < cLine) (ho : PE X e (tVar i)) (hk : JV X C W kx mk) (hs : NoSl kx) : JE X C W (.Subscript e kx pos) (eDix i mk) := PE.imp (pe_dget hu ho hk hs) fun σ H Q ⟨ρ, o, S, h⟩ => by
  unfold eDix at h
  obtain ⟨w, hv, h⟩ := val_at S h
  refine ⟨w, hv, ?_⟩
  obtain ⟨ρ0, o0, S0, h0⟩ := stepE (Rl := Sh X.K) S h
  refine ⟨ρ0, o0, S0, h0.imp (fun d ρ1 z v H1 o1 S1 t1 s1 => ?_) fun _ _ z => z⟩
  obtain ⟨ρ1', o1', d', S1', T1, s1', q1⟩ := z v H1 o1 S1 t1 s1
  obtain ⟨dx, pk, q2⟩ := pk_at S1' hv q1
  cases dx with
  | dict ds =>
    cases ek : keyD d' with
    | none => simp only [ek] at q2; exact q2.elim
    | some q =>
      simp only [ek] at q2
      obtain ⟨a, kvs, rfl, r, s⟩ := pk
      rcases look_sh q s with ⟨h1, h2⟩ | ⟨vv, dd, h1, h2, h3⟩
      · simp only [h2] at q2; exact q2.elim
      · simp only [h2] at q2
        refine ⟨a, vv, rfl, ?_, newOk (r := .val dd) S1' q2 vv _ (.refl _) h3⟩
        have := DGet.r (k := q) r
        rw [h1] at this
        rw [key_sh s1' ek]
        exact this
  | _ => exact q2.elim
def eDget (i : Nat) (mk mx : Env → Res D) : Env → Res R := fun ρ => bindR (ePk i ρ) fun d0 _ => match d0 with
  | .dict _ => bindR (mk ρ) fun k ρ1 => bindR (mx ρ1) fun x ρ2 => bindR (ePk i ρ2) fun d ρ3 => match d, keyD k with
    | .dict ds, some q => match lookD ds q with
      | some v => .ok (.val v) ρ3
      | none => .ok (.val x) ρ3
    | _, _ => .bad
  | _ => .bad
theorem je_dget {i : Nat} (hu : X.A.units + 1 < cLine) (ho : PE X e (tVar i)) (hk : JV X C W kx mk) (hx : JV X C W f mx) (m : M2 X e "get" apos kx f pos) : JE X C W (.Call (.Attribute e "get" apos) [kx, f] [] pos) (eDget i mk mx) := PE.imp (pe_dget2 hu ho hk hx m) fun σ H Q ⟨ρ, o, S, h⟩ => by
  unfold eDget at h
  have hv : ∃ w, σ[i]? = some (some w) := by
    have z := S.slot i
    unfold ePk at h
    cases g : gS ρ i with
    | emp => rw [g] at h; exact h.elim
    | val d => rw [g] at z; exact ⟨_, z.2.choose_spec.1⟩
    | own c => rw [g] at z; exact ⟨_, z.choose_spec.1⟩
    | bor c => rw [g] at z; exact ⟨_, z.1⟩
  obtain ⟨w, hv⟩ := hv
  obtain ⟨d0, pk0, h⟩ := pk_at S hv h
  refine ⟨w, hv, ?_⟩
  cases d0 with
  | dict ds0 =>
    obtain ⟨a, kvs0, rfl, r0, s0⟩ := pk0
    refine ⟨a, rfl, .inl ⟨kvs0, r0⟩, ?_⟩
    obtain ⟨ρ0, o0, S0, h0⟩ := stepE (Rl := Sh X.K) S h
    refine ⟨ρ0, o0, S0, h0.imp (fun d ρ1 z v H1 o1 S1 t1 s1 => ?_) fun _ _ z => z⟩
    obtain ⟨ρ1', o1', d', S1', T1, s1', q1⟩ := z v H1 o1 S1 t1 s1
    obtain ⟨ρ2, o2, S2, h2⟩ := stepE (Rl := Sh X.K) S1' q1
    refine ⟨ρ2, o2, S2, h2.imp (fun d2 ρ3 z2 v2 H2 o3 S3 t3 s3 => ?_) fun _ _ z => z⟩
    obtain ⟨ρ4, o4, d4, S4, T4, s4, q4⟩ := z2 v2 H2 o3 S3 t3 s3
    obtain ⟨dx, pk, q5⟩ := pk_at S4 hv q4
    cases dx with
    | dict ds =>
      cases ek : keyD d' with
      | none => simp only [ek] at q5; exact q5.elim
      | some q =>
        simp only [ek] at q5
        obtain ⟨a', kvs, ea, r, s⟩ := pk
        cases ea
        have hg := DGet.r (k := q) r
        rcases look_sh q s with ⟨h1, h2⟩ | ⟨vv, dd, h1, h2, h3⟩
        · simp only [h2] at q5
          refine ⟨valV kvs q, by rw [key_sh s1' ek]; exact hg, ?_⟩
          rw [h1]
          exact newOk (r := .val d4) S4 q5 v2 _ (.refl _) s4
        · simp only [h2] at q5
          refine ⟨valV kvs q, by rw [key_sh s1' ek]; exact hg, ?_⟩
          rw [h1]
          exact newOk (r := .val dd) S4 q5 vv _ (.refl _) h3
    | _ => exact q5.elim
  | _ => exact h.elim
end
/-! ### sorted(d), the keys texts -/
def leS (a b : Str) : Bool := decide (a.cps.toList ≤ b.cps.toList)
def strKeys : List (D × D) → Option (List Str)
  | [] => some []
  | (.str x, _) :: r => (strKeys r).map (x :: ·)
  | _ => none
def fSortedD : D → Option R
  | .dict ds => (strKeys ds).bind fun ks => if ks.length < 64 then some (.fresh (.lst ((ks.mergeSort leS).map .str))) else none
  | _ => none
theorem rising_pw : ∀ (l : List Str) (p : Str), risingS p l = true → (p :: l).Pairwise (fun a b => leS a b = true)
  | [], p, _ => by simp
  | x :: r, p, h => by
    unfold risingS at h
    rw [Bool.and_eq_true, Bool.not_eq_true', ltCps_eq, decide_eq_false_iff_not, List.not_lt] at h
    have ih := rising_pw r x h.2
    refine List.pairwise_cons.mpr ⟨fun y hy => ?_, ih⟩
    rcases List.mem_cons.mp hy with rfl | hy
    · exact decide_eq_true h.1
    · have := of_decide_eq_true ((List.pairwise_cons.mp ih).1 y hy)
      exact decide_eq_true (List.le_trans h.1 this)
theorem sortedS_pw {l : List Str} (h : sortedS l = true) : l.Pairwise (fun a b => leS a b = true) := by
  cases l with
  | nil => exact .nil
  | cons x r => exact rising_pw r x h
theorem str_of_cps' {v w : Str} (h : v.cps.toList = w.cps.toList) : v = w := PySem.W.str_of_cps h
theorem sorted_is {ys ks : List Str} (hp : ys.Perm ks) (hs : sortedS ys = true) : ys = ks.mergeSort leS := by
  refine List.Perm.eq_of_pairwise (le := fun a b => leS a b = true) (fun a b _ _ h1 h2 => str_of_cps' (List.le_antisymm (of_decide_eq_true h1) (of_decide_eq_true h2))) (sortedS_pw hs) ?_ (hp.trans (List.mergeSort_perm ks leS).symm)
  exact List.pairwise_mergeSort (le := leS) (fun a b c h1 h2 => (decide_eq_true (List.le_trans (of_decide_eq_true h1) (of_decide_eq_true h2)) : leS a c = true)) (fun a b => by
    rw [Bool.or_eq_true]
    rcases List.le_total a.cps.toList b.cps.toList with h | h
    · exact .inl (decide_eq_true h : leS a b = true)
    · exact .inr (decide_eq_true h : leS b a = true)) ks
theorem strKeys_sh {K : PySem.W.Frag} {F : Addr → Prop} {H : Hp} : ∀ {vs : List (Key × V)} {ds : List (D × D)} {ks : List Str}, ShK K F H vs ds → strKeys ds = some ks → vs.map (·.1) = ks.map Sum.inr
  | _, _, ks, .nil, h => by cases h; rfl
  | (k', v) :: vs, (_, d) :: ds, ks, .cons h s, e => by
    cases k' with
    | inl i => cases e
    | inr x =>
      have e : (strKeys ds).map (x :: ·) = some ks := e
      cases g : strKeys ds with
      | none => rw [g] at e; cases e
      | some r =>
        rw [g] at e
        cases e
        rw [List.map_cons, List.map_cons, strKeys_sh s g]
theorem sh_strL {K : PySem.W.Frag} {F : Addr → Prop} {H : Hp} : ∀ (ns : List Str), ShA K F H (ns.map V.str) (ns.map .str)
  | [] => .nil
  | x :: r => .cons (.str x) (sh_strL r)
theorem cr_sortedD {X : Cx} (hc : X.calm = true) : CallR X (.builtin "sorted") (rP1 X.K fSortedD) := by
  intro pins s σ H xs us Q I r h
  obtain ⟨x, F, d, rr, rfl, tr, sx, er, q⟩ := h
  unfold fSortedD at er
  split at er
  · rename_i ds
    obtain ⟨a, kvs, rfl, ra, sk⟩ := sx
    cases g : strKeys ds with
    | none => rw [g] at er; cases er
    | some ks =>
      rw [g] at er
      have er : (if ks.length < 64 then some (R.fresh (.lst ((ks.mergeSort leS).map .str))) else none) = some rr := er
      split at er
      · rename_i h64
        cases er
        refine call_sortedD hc pins s σ H _ us Q I r ⟨a, kvs, ks, rfl, ra, strKeys_sh sk g, h64, fun ys p hp hs hn => ?_⟩
        rw [sorted_is hp hs]
        exact new_lst tr (sh_strL _) q p hn
      · cases er
  · cases er
/-! ### list(range(n)) -/
section
variable {X : Cx} {C : Ctx} {W : WX} {e : Expr} {ma : Env → Res D} {pos p p2 p3 : Pos}
def fLstRg : D → Option R
  | .int n => if inB n = true ∧ n ≤ 16777216 then some (.fresh (.lst (rgD 0 n.toNat))) else none
  | _ => none
theorem sh_rg {K : PySem.W.Frag} {F : Addr → Prop} {H : Hp} (lo : Int) (n : Nat) : ShA K F H ((List.range n).map fun i => V.int (lo + (i : Nat))) (rgD lo n) := by
  unfold rgD
  induction (List.range n) with
  | nil => exact .nil
  | cons x r ih => exact .cons (.int _) ih
theorem je_listRg (hc : X.calm = true) (hm : X.mg "list" = none) (hm2 : X.mg "range" = none) (ha : JV X C W e ma) (hg : Gl X "list") (hg2 : Gl X "range") (na : starEach [.Call (.Name "range" p2) [e] [] p] X.env = (false, eval (.Call (.Name "range" p2) [e] [] p) X.env) :: starEach [] X.env := by rfl) (nb : starEach [e] X.env = (false, eval e X.env) :: starEach [] X.env := by rfl) :
    JE X C W (.Call (.Name "list" p3) [.Call (.Name "range" p2) [e] [] p] [] pos) (eOp1 fLstRg ma) :=
  PE.imp (pe_listRg hc hg hm (prg_1 hg2 hm2 ha nb) na) fun σ H Q ⟨ρ, o, S, h⟩ => by
    obtain ⟨ρ0, o0, S0, h0⟩ := stepE (Rl := Sh X.K) S h
    refine ⟨ρ0, o0, S0, h0.imp (fun d ρ1 z v H1 o1 S1 t1 s1 => ?_) fun _ _ z => z⟩
    obtain ⟨ρ1', o1', d', S1', T1, s1', q1⟩ := z v H1 o1 S1 t1 s1
    obtain ⟨r, er, q⟩ := optE q1
    unfold fLstRg at er
    split at er
    · split at er
      · rename_i n hb
        cases er
        have hb1 := of_decide_eq_true hb.1
        refine ⟨n, s1'.ofInt, ⟨by decide, by decide, by omega, by omega, by omega⟩, fun q0 hq => ?_⟩
        have := new_lst S1'.tr (sh_rg 0 n.toNat) (newOk S1' q) q0 hq
        unfold rgV
        rw [Int.sub_zero]
        exact this
      · cases er
    · cases er
end
/-- a comprehension in a comprehension, itself without free names -/
theorem blkOk_nof {N : List Str} {sc scope : Scope} {own : List (Str × Nat)} (h : blkC N { kind := .function, names := [], isGenerator := false, isCoroutine := false } scope own = true) : BlkOk N sc scope own := by
  have B := blkOk_by h
  exact ⟨B.kind, B.uniq, B.ix, (fun y hy e => by rcases B.free y hy e with z | z <;> cases z), B.own⟩
/-! ### try .. except X: return a constant -/
section
variable {X : Cx} {C : Ctx} {W : WX} {e : Expr} {body : List Stmt} {b : Env → SR} {x n : Str} {c : Value} {np rp pos pos' : Pos}
def sTryO (b : Env → SR) (h : Str → Option (Option D)) : Env → SR := fun ρ => match b ρ with
  | .exc c ρ1 => match h c with
    | some (some v) => if okV v = true then .ret (.val v) ρ1 else .bad
    | some none => .exc c ρ1
    | none => .bad
  | r => r
def tsO (X : Cx) (h : Str → Option (Option D)) (a : Addr) (cls : Value) (d : Option Addr) : TS := fun D σ H =>
  ∃ A nm v, cls = .ref A ∧ d = none ∧ X.mg nm = some (.ref A) ∧ h nm = some (some v) ∧ D.rt (vOf v) H
theorem js_tryO {h : Str → Option (Option D)} (hs : X.stack = X.env :: X.outer) (hf : X.env.frame = some X.env.locals) (hc : Names X x c) (tk : Takes X W)
    (hm : ∀ nm A r, X.mg nm = some (.ref A) → h nm = some r → PySem.W.exmOne X.K (.ref A) c = some r.isSome)
    (hb : ∀ (W' : WX) (pn : List (Addr × Obj)) (xe : Value → Shared → Prop), Takes (X.tr pn xe) W' → PassesOwn (model X.prog X.w) X.A X.env xe → JSs (X.tr pn xe) C W' body b)
    (hsu : ∀ (a : Addr) (oe : Obj) (nm : Str) (v : D) (pn : List (Addr × Obj)), h nm = some (some v) → PE (X.suite a ((a, oe) :: pn)) e (fun σ H Q => Q (vOf v) H)) :
    JS X C W (.Try body [.ExceptHandler (some (.Name x np)) none [.Return (some e) rp] pos'] [] [] pos) (sTryO b h) :=
  PS.imp (ps_try_only hs hf hc tk (tb := fun W' => tS X C W' b) (ts := tsO X h) (fun W' pn xe t p => hb W' pn xe t p) (fun a oe cls d pn hz hv => ⟨fun pins s σ H D I q => by
    obtain ⟨A, nm, v, rfl, rfl, q1, q2, q4⟩ := q
    exact (pss_one (ps_ret (hsu a oe nm v pn q2))).run pins s σ H D I q4⟩)) fun D σ H ⟨ρ, o, S, q⟩ => by
    refine ⟨ρ, o, S, ?_⟩
    have q : PoS X C W o H D (sTryO b h ρ) := q
    unfold sTryO at q
    cases eb : b ρ with
    | nx ρ1 => rw [eb] at q; exact q
    | ret r ρ1 => rw [eb] at q; exact q
    | brk ρ1 => rw [eb] at q; exact q
    | cnt ρ1 => rw [eb] at q; exact q
    | bad => rw [eb] at q; exact q
    | exc nm ρ1 =>
      rw [eb] at q
      dsimp only at q
      intro σ1 H1 o1 S1 t1 A hA
      cases eh : h nm with
      | none => rw [eh] at q; exact q.elim
      | some r =>
        rw [eh] at q
        refine ⟨r.isSome, hm nm A r hA eh, fun hr a ha => ?_, fun hr => ?_⟩
        · cases r with
          | none => cases hr
          | some v =>
            dsimp only at q
            split at q
            · rename_i hcond
              refine ⟨A, nm, v, rfl, rfl, hA, eh, ?_⟩
              have hsh : Sh X.K (FF C.B o1) H1 (vOf v) v := by
                cases v <;> first | exact .non | exact .bl _ | exact absurd hcond Bool.false_ne_true
              exact q σ1 (vOf v) H1 o1 S1 t1 hsh
            · exact q.elim
        · cases r with
          | some v => cases hr
          | none => exact q σ1 H1 o1 S1 t1 A hA
theorem js_tryO1 {nm0 : Str} {A0 c : Addr} {v : D} (hs : X.stack = X.env :: X.outer) (hf : X.env.frame = some X.env.locals) (gx : X.mg x = some (.ref c)) (hgx : Gl X x) (tk : Takes X W)
    (g0 : X.mg nm0 = some (.ref A0)) (hm : PySem.W.exmOne X.K (.ref A0) (.ref c) = some true)
    (hb : ∀ (W' : WX) (pn : List (Addr × Obj)) (xe : Value → Shared → Prop), Takes (X.tr pn xe) W' → PassesOwn (model X.prog X.w) X.A X.env xe → JSs (X.tr pn xe) C W' body b)
    (hsu : ∀ (a : Addr) (oe : Obj) (pn : List (Addr × Obj)), PE (X.suite a ((a, oe) :: pn)) e (fun σ H Q => Q (vOf v) H)) (hd : (x == ("__debug__" : Str)) = false := by decide) :
    JS X C W (.Try body [.ExceptHandler (some (.Name x np)) none [.Return (some e) rp] pos'] [] [] pos) (sTryO b (h1 nm0 v)) :=
  js_tryO hs hf ⟨hgx, hd, .inl gx⟩ tk (fun nm A r hA hr => by
      unfold h1 at hr
      split at hr
      · rename_i q
        subst q
        cases hr
        rw [g0] at hA
        cases hA
        exact hm
      · cases hr) hb fun a oe nm v' pn hr => by
    unfold h1 at hr
    split at hr
    · rename_i q
      subst q
      cases hr
      exact hsu a oe pn
    · cases hr
end
end Dn
set_option Elab.async false
set_option linter.all false
set_option maxRecDepth 100000
namespace Law
open PySem Dn
noncomputable section
def b_is_whole : Dn.Env → SR := sRet (eAndD (eOp1 (fP isInt) (ePk 0)) (eNotD (eOp1 (fP isBool) (ePk 0))))
def d_is_whole : Dn.Env → Res R := mkF 1 1 b_is_whole
def b_is_whole_in : Dn.Env → SR := sRet (eAndD (eCall 1 d_is_whole (aCons (toV (eVar 0)) (aNil))) (eChain fLe fLe (toV (eVar 1)) (toV (eVar 0)) (toV (eVar 2))))
def d_is_whole_in : Dn.Env → Res R := mkF 3 3 b_is_whole_in
def b_is_name : Dn.Env → SR := sSeq (sIf (tNotD (tTru (toV (eOp1 (fP isStr) (ePk 0))))) (sRet (eC (.bool false))) (sNil))
    (sSeq (sIf (tOrD (tBoolD (eOp2 fLt (toV (eOp1 fLen (ePk 0))) (toV (eC (.int 1))))) (tBoolD (eOp2 fGt (toV (eOp1 fLen (ePk 0))) (toV (eC (.int 8)))))) (sRet (eC (.bool false))) (sNil))
    (sSeq (sIf (tBoolD (eOp2 fNotIn (toV (eIxV 0 (toV (eC (.int 0))))) (toV (eC (.str "abcdefghijklmnopqrstuvwxyz"))))) (sRet (eC (.bool false))) (sNil))
    (sSeq (sFor (gNm 1) (eIt (toV (eVar 0))) (sIf (tAndD (tBoolD (eOp2 fNotIn (toV (eVar 1)) (toV (eC (.str "abcdefghijklmnopqrstuvwxyz"))))) (tBoolD (eOp2 fNotIn (toV (eVar 1)) (toV (eC (.str "0123456789")))))) (sRet (eC (.bool false))) (sNil)))
    (sRet (eC (.bool true))))))
def d_is_name : Dn.Env → Res R := mkF 1 2 b_is_name
def b_is_tuple_of : Dn.Env → SR := sRet (eAndD (eOp1 (fP isTup) (ePk 0)) (eChain fLe fLe (toV (eVar 1)) (toV (eOp1 fLen (ePk 0))) (toV (eVar 2))))
def d_is_tuple_of : Dn.Env → Res R := mkF 3 3 b_is_tuple_of
def b_check_shares : Dn.Env → SR := sSeq (sIf (tNotD (tTru (toV (eCall 3 d_is_tuple_of (aCons (toV (eVar 0)) (aCons (toV (eC (.int 0))) (aCons (toV (eC (.int (24)))) (aNil)))))))) (sRaise "BadWear") (sNil))
    (sSeq (sAsg 1 (eOpN fLst (aNil)))
    (sFor (gNm 2) (eIt (toV (eVar 0))) (sSeq (sIf (tNotD (tTru (toV (eCall 3 d_is_tuple_of (aCons (toV (eVar 2)) (aCons (toV (eC (.int 2))) (aCons (toV (eC (.int 2))) (aNil)))))))) (sRaise "BadWear") (sNil))
    (sSeq (sAsgG (gTp 2 (gsCons (gNm 3) (gsCons (gNm 4) (gsNil)))) (toV (eVar 2)))
    (sSeq (sIf (tNotD (tTru (toV (eCall 1 d_is_name (aCons (toV (eVar 3)) (aNil)))))) (sRaise "BadWear") (sNil))
    (sSeq (sIf (tBoolD (eOp2 fIn (toV (eVar 3)) (ePk 1))) (sRaise "BadWear") (sNil))
    (sSeq (sIf (tNotD (tTru (toV (eCall 3 d_is_whole_in (aCons (toV (eVar 4)) (aCons (toV (eC (.int 0))) (aCons (toV (eC (.int (10000000)))) (aNil)))))))) (sRaise "BadWear") (sNil))
    (sApp 1 (eVar 3)))))))))
def d_check_shares : Dn.Env → Res R := mkF 1 5 b_check_shares
def b_check_cost : Dn.Env → SR := sIf (tNotD (tTru (toV (eCall 3 d_is_whole_in (aCons (toV (eVar 0)) (aCons (toV (eC (.int 0))) (aCons (toV (eC (.int (1000000000)))) (aNil)))))))) (sRaise "BadWear") (sNil)
def d_check_cost : Dn.Env → Res R := mkF 1 1 b_check_cost
def b_dues : Dn.Env → SR := sSeq (sAsg 2 (eOp1 fSum (toV (eLc [3, 4] (eIt (toV (eVar 0))) (gTp 2 (gsCons (gNm 3) (gsCons (gNm 4) (gsNil)))) (tTrue) (eVar 4)))))
    (sRet (eLc [3, 4] (eIt (toV (eVar 0))) (gTp 2 (gsCons (gNm 3) (gsCons (gNm 4) (gsNil)))) (tTrue) (eOpN fDivmod (aCons (toV (eOp2 fMul (toV (eVar 1)) (toV (eVar 4)))) (aCons (toV (eVar 2)) (aNil))))))
def d_dues : Dn.Env → Res R := mkF 2 5 b_dues
def b_has_weight : Dn.Env → SR := sRet (eOp2 fGt (toV (eOp1 fSum (toV (eLc [1, 2] (eIt (toV (eVar 0))) (gTp 2 (gsCons (gNm 1) (gsCons (gNm 2) (gsNil)))) (tTrue) (eVar 2))))) (toV (eC (.int 0))))
def d_has_weight : Dn.Env → Res R := mkF 1 3 b_has_weight
def b_charge : Dn.Env → SR := sSeq (sDrop (eCall 1 d_check_shares (aCons (toV (eVar 0)) (aNil))))
    (sSeq (sDrop (eCall 1 d_check_cost (aCons (toV (eVar 1)) (aNil))))
    (sSeq (sIf (tNotD (tTru (toV (eCall 1 d_has_weight (aCons (toV (eVar 0)) (aNil)))))) (sRet (eOp1 fTuple (toV (eLc [10, 11] (eIt (toV (eVar 0))) (gTp 2 (gsCons (gNm 10) (gsCons (gNm 11) (gsNil)))) (tTrue) (eOpN fTup (aCons (toV (eVar 10)) (aCons (toV (eC (.int 0))) (aNil)))))))) (sNil))
    (sSeq (sAsg 2 (eCall 2 d_dues (aCons (toV (eVar 0)) (aCons (toV (eVar 1)) (aNil)))))
    (sSeq (sAsg 3 (eLc [7, 8] (eIt (toV (eVar 2))) (gTp 2 (gsCons (gNm 7) (gsCons (gNm 8) (gsNil)))) (tTrue) (eVar 7)))
    (sSeq (sAsg 4 (eOp2 fSub (toV (eVar 1)) (toV (eOp1 fSum (ePk 3)))))
    (sSeq (sAsg 5 (eOp1 fSorted (toV (eLc [9, 7, 8] (eEnumA (toV (eVar 2))) (gTp 2 (gsCons (gNm 9) (gsCons (gTp 2 (gsCons (gNm 7) (gsCons (gNm 8) (gsNil)))) (gsNil)))) (tTrue) (eOpN fTup (aCons (toV (eOp1 fNeg (toV (eVar 8)))) (aCons (toV (eVar 9)) (aNil))))))))
    (sSeq (sFor (gNm 6) (eIt (toV (eSlV 5 (oNone) (oSome (toV (eVar 4)))))) (sAugL 3 (toV (eIxV 6 (toV (eC (.int 1))))) fAddI (toV (eC (.int 1)))))
    (sRet (eOp1 fTuple (toV (eLc [9, 10, 11] (eEnumA (toV (eVar 0))) (gTp 2 (gsCons (gNm 9) (gsCons (gTp 2 (gsCons (gNm 10) (gsCons (gNm 11) (gsNil)))) (gsNil)))) (tTrue) (eOpN fTup (aCons (toV (eVar 10)) (aCons (toV (eIxV 3 (toV (eVar 9)))) (aNil)))))))))))))))
def d_charge : Dn.Env → Res R := mkF 2 12 b_charge
def b_joined_shares : Dn.Env → SR := sSeq (sDrop (eCall 1 d_check_shares (aCons (toV (eVar 0)) (aNil))))
    (sSeq (sDrop (eCall 1 d_check_shares (aCons (toV (eVar 1)) (aNil))))
    (sSeq (sAsg 2 (eDic0))
    (sSeq (sFor (gTp 2 (gsCons (gNm 4) (gsCons (gNm 5) (gsNil)))) (eIt (toV (eOp2 fAdd (toV (eVar 0)) (toV (eVar 1))))) (sSetD 2 (toV (eOp2 fAdd (toV (eDget 2 (toV (eVar 4)) (toV (eC (.int 0))))) (toV (eVar 5)))) (toV (eVar 4))))
    (sSeq (sAsg 3 (eOp1 fTuple (toV (eLc [4] (eIt (toV (eOp1 fSortedD (ePk 2)))) (gNm 4) (tTrue) (eOpN fTup (aCons (toV (eVar 4)) (aCons (toV (eDix 2 (toV (eVar 4)))) (aNil))))))))
    (sSeq (sDrop (eCall 1 d_check_shares (aCons (toV (eVar 3)) (aNil))))
    (sRet (eVar 3)))))))
def d_joined_shares : Dn.Env → Res R := mkF 2 6 b_joined_shares
def b_check_uses : Dn.Env → SR := sSeq (sIf (tNotD (tTru (toV (eCall 3 d_is_tuple_of (aCons (toV (eVar 0)) (aCons (toV (eC (.int 0))) (aCons (toV (eC (.int (24)))) (aNil)))))))) (sRaise "BadWear") (sNil))
    (sFor (gNm 1) (eIt (toV (eVar 0))) (sSeq (sIf (tNotD (tTru (toV (eCall 3 d_is_tuple_of (aCons (toV (eVar 1)) (aCons (toV (eC (.int 2))) (aCons (toV (eC (.int 2))) (aNil)))))))) (sRaise "BadWear") (sNil))
    (sSeq (sAsgG (gTp 2 (gsCons (gNm 2) (gsCons (gNm 3) (gsNil)))) (toV (eVar 1)))
    (sSeq (sIf (tNotD (tTru (toV (eCall 1 d_is_name (aCons (toV (eVar 2)) (aNil)))))) (sRaise "BadWear") (sNil))
    (sIf (tNotD (tTru (toV (eCall 3 d_is_whole_in (aCons (toV (eVar 3)) (aCons (toV (eC (.int 0))) (aCons (toV (eC (.int (100000)))) (aNil)))))))) (sRaise "BadWear") (sNil))))))
def d_check_uses : Dn.Env → Res R := mkF 1 4 b_check_uses
def b_wear_by_owner : Dn.Env → SR := sSeq (sDrop (eCall 1 d_check_uses (aCons (toV (eVar 0)) (aNil))))
    (sSeq (sAsg 1 (eDic0))
    (sSeq (sFor (gTp 2 (gsCons (gNm 2) (gsCons (gNm 3) (gsNil)))) (eIt (toV (eVar 0))) (sSetD 1 (toV (eOp2 fAdd (toV (eDget 1 (toV (eVar 2)) (toV (eC (.int 0))))) (toV (eVar 3)))) (toV (eVar 2))))
    (sRet (eOp1 fTuple (toV (eLc [2] (eIt (toV (eOp1 fSortedD (ePk 1)))) (gNm 2) (tTrue) (eOpN fTup (aCons (toV (eVar 2)) (aCons (toV (eDix 1 (toV (eVar 2)))) (aNil))))))))))
def d_wear_by_owner : Dn.Env → Res R := mkF 1 4 b_wear_by_owner
def b__law_cell : Dn.Env → SR := sSeq (sIf (tBoolD (eOp2 fLt (toV (eVar 1)) (toV (eOp1 fLen (ePk 0))))) (sRet (eOp1 fInt (toV (eIxV 0 (toV (eVar 1)))))) (sNil))
    (sRet (eC (.int 0)))
def d__law_cell : Dn.Env → Res R := mkF 2 2 b__law_cell
def b__law_row : Dn.Env → SR := sSeq (sAsg 4 (eC (.int 0)))
    (sSeq (sIf (tBoolD (eOp2 fGt (toV (eOp1 fLen (ePk 0))) (toV (eC (.int 0))))) (sAsg 4 (eOp1 fAbs (toV (eOp1 fInt (toV (eIxV 0 (toV (eOp2 fMod (toV (eOp1 fInt (ePk 1))) (toV (eOp1 fLen (ePk 0))))))))))) (sNil))
    (sSeq (sAsg 5 (eC (.int 0)))
    (sSeq (sIf (tBoolD (eOp2 fGe (toV (eVar 4)) (toV (eOp2 fPow (toV (eC (.int 10))) (toV (eC (.int 18))))))) (sAsg 5 (eVar 4)) (sNil))
    (sSeq (sAsg 6 (eOpN fLst (aNil)))
    (sSeq (sFor (gNm 7) (eRg1 (toV (eVar 2))) (sIf (tBoolD (eOp2 fGt (toV (eVar 5)) (toV (eC (.int 0))))) (sSeq (sApp 6 (eOp2 fMod (toV (eOp1 fInt (ePk 5))) (toV (eVar 3))))
    (sAsg 5 (eOp2 fFdiv (toV (eVar 5)) (toV (eVar 3))))) (sSeq (sAsg 8 (eOp2 fMod (toV (eOp1 fInt (toV (eOp2 fAdd (toV (eOp2 fAdd (toV (eOp2 fAdd (toV (eOp2 fMul (toV (eVar 4)) (toV (eC (.int 48271))))) (toV (eOp2 fMul (toV (eVar 7)) (toV (eC (.int 69621))))))) (toV (eOp2 fMul (toV (eVar 1)) (toV (eC (.int 40692))))))) (toV (eC (.int 12345))))))) (toV (eC (.int 2147483647)))))
    (sSeq (sAsg 9 (eOp2 fMod (toV (eOp1 fInt (toV (eOp2 fAdd (toV (eOp2 fAdd (toV (eOp2 fMul (toV (eVar 8)) (toV (eVar 8)))) (toV (eOp2 fMul (toV (eVar 4)) (toV (eC (.int 16807))))))) (toV (eOp2 fMul (toV (eVar 7)) (toV (eC (.int 271))))))))) (toV (eC (.int 2147483629)))))
    (sSeq (sAsg 10 (eOp2 fMod (toV (eOp1 fInt (toV (eOp2 fAdd (toV (eOp2 fAdd (toV (eOp2 fMul (toV (eVar 9)) (toV (eVar 9)))) (toV (eOp2 fMul (toV (eVar 8)) (toV (eC (.int 7))))))) (toV (eC (.int 1))))))) (toV (eC (.int 2147483587)))))
    (sApp 6 (eOp2 fMod (toV (eOp1 fInt (toV (eOp2 fFdiv (toV (eVar 10)) (toV (eC (.int 11))))))) (toV (eVar 3)))))))))
    (sRet (eVar 6)))))))
def d__law_row : Dn.Env → Res R := mkF 4 11 b__law_row
def b__law_same_single : Dn.Env → SR := sSeq (sIf (tBoolD (eOp2 fIs (toV (eVar 1)) (toV (eC .none)))) (sRet (eOp2 fIs (toV (eVar 0)) (toV (eC .none)))) (sNil))
    (sSeq (sIf (tTru (toV (eOp1 (fP isBool) (ePk 1)))) (sRet (eAndD (eOp1 (fP isBool) (ePk 0)) (eOp2 fEq (toV (eVar 0)) (toV (eVar 1))))) (sNil))
    (sSeq (sIf (tTru (toV (eOp1 (fP isInt) (ePk 1)))) (sRet (eAndD (eOp1 (fP isInt) (ePk 0)) (eAndD (eNotD (eOp1 (fP isBool) (ePk 0))) (eOp2 fEq (toV (eVar 0)) (toV (eVar 1)))))) (sNil))
    (sRet (eAndD (eOp1 (fP isStr) (ePk 0)) (eOp2 fEq (toV (eVar 0)) (toV (eVar 1)))))))
def d__law_same_single : Dn.Env → Res R := mkF 2 2 b__law_same_single
def b__law_same : Dn.Env → SR := sSeq (sAsg 2 (eOpN fLst (aCons (toV (eOpN fTup (aCons (toV (eVar 0)) (aCons (toV (eVar 1)) (aNil))))) (aNil))))
    (sSeq (sFor (gNm 3) (eRg1 (toV (eC (.int 100000)))) (sSeq (sIf (tBoolD (eOp2 fEq (toV (eOp1 fLen (ePk 2))) (toV (eC (.int 0))))) (sRet (eC (.bool true))) (sNil))
    (sSeq (sAsgG (gTp 2 (gsCons (gNm 4) (gsCons (gNm 5) (gsNil)))) (toV (ePop 2)))
    (sIf (tTru (toV (eOp1 (fP isTup) (ePk 5)))) (sSeq (sIf (tOrD (tNotD (tTru (toV (eOp1 (fP isTup) (ePk 4))))) (tBoolD (eOp2 fNe (toV (eOp1 fLen (ePk 4))) (toV (eOp1 fLen (ePk 5)))))) (sRet (eC (.bool false))) (sNil))
    (sFor (gNm 6) (eRg1 (toV (eOp1 fLen (ePk 5)))) (sApp 2 (eOpN fTup (aCons (toV (eIxV 4 (toV (eVar 6)))) (aCons (toV (eIxV 5 (toV (eVar 6)))) (aNil))))))) (sIf (tNotD (tTru (toV (eCall 2 d__law_same_single (aCons (toV (eVar 4)) (aCons (toV (eVar 5)) (aNil))))))) (sRet (eC (.bool false))) (sNil))))))
    (sRet (eC (.bool false))))
def d__law_same : Dn.Env → Res R := mkF 2 7 b__law_same
def b__law_names : Dn.Env → SR := sSeq (sAsg 3 (eC (.str "abcdefghijklmnopqrstuvwxyz")))
    (sSeq (sAsg 4 (eC (.str "0123456789abcdefghijklmnopqrstuvwxyz")))
    (sSeq (sAsg 5 (eCall 4 d__law_row (aCons (toV (eVar 0)) (aCons (toV (eVar 1)) (aCons (toV (eC (.int 10))) (aCons (toV (eC (.int 55440))) (aNil)))))))
    (sSeq (sAsg 6 (eOp2 fMod (toV (eOp1 fInt (toV (eIxV 5 (toV (eC (.int 2))))))) (toV (eC (.int 3)))))
    (sSeq (sAsg 7 (eOp2 fMod (toV (eOp1 fInt (toV (eIxV 5 (toV (eC (.int 0))))))) (toV (eOp2 fIx (toV (eOpN fLst (aCons (toV (eC (.int 676))) (aCons (toV (eC (.int 676))) (aCons (toV (eC (.int 40))) (aNil)))))) (toV (eVar 6))))))
    (sSeq (sAsg 8 (eOp2 fIx (toV (eOpN fLst (aCons (toV (eC (.int 1))) (aCons (toV (eC (.int 3))) (aCons (toV (eC (.int 5))) (aCons (toV (eC (.int 7))) (aCons (toV (eC (.int 27))) (aCons (toV (eC (.int 51))) (aCons (toV (eC (.int 101))) (aCons (toV (eC (.int 675))) (aNil))))))))))) (toV (eOp2 fMod (toV (eOp1 fInt (toV (eIxV 5 (toV (eC (.int 1))))))) (toV (eC (.int 8)))))))
    (sSeq (sAsg 9 (eM1 fJoin (toV (eC (.str ""))) (toV (eLc [15] (eIt (toV (eSlV 5 (oSome (toV (eC (.int 4)))) (oSome (toV (eOp2 fAdd (toV (eC (.int 4))) (toV (eOp2 fMod (toV (eOp1 fInt (toV (eIxV 5 (toV (eC (.int 3))))))) (toV (eC (.int 6))))))))))) (gNm 15) (tTrue) (eIxV 4 (toV (eOp2 fMod (toV (eOp1 fInt (ePk 15))) (toV (eC (.int 36))))))))))
    (sSeq (sAsg 10 (eOpN fLst (aNil)))
    (sSeq (sFor (gNm 11) (eRg1 (toV (eVar 2))) (sSeq (sAsg 12 (eOp2 fMod (toV (eOp1 fInt (toV (eOp2 fAdd (toV (eVar 7)) (toV (eOp2 fMul (toV (eVar 11)) (toV (eVar 8)))))))) (toV (eC (.int 676)))))
    (sSeq (sAsg 13 (eIxV 3 (toV (eOp2 fFdiv (toV (eVar 12)) (toV (eC (.int 26)))))))
    (sSeq (sAsg 14 (eIxV 3 (toV (eOp2 fMod (toV (eOp1 fInt (ePk 12))) (toV (eC (.int 26)))))))
    (sIf (tBoolD (eOp2 fEq (toV (eVar 6)) (toV (eC (.int 0))))) (sApp 10 (eOp2 fAdd (toV (eOp2 fAdd (toV (eVar 13)) (toV (eVar 14)))) (toV (eSlV 9 (oNone) (oSome (toV (eOp2 fMod (toV (eOp1 fInt (toV (eOp2 fAdd (toV (eVar 11)) (toV (eIxV 5 (toV (eC (.int 9))))))))) (toV (eC (.int 6)))))))))) (sIf (tBoolD (eOp2 fEq (toV (eVar 6)) (toV (eC (.int 1))))) (sApp 10 (eOp2 fAdd (toV (eOp2 fAdd (toV (eOp2 fAdd (toV (eC (.str "q"))) (toV (eVar 9)))) (toV (eVar 13)))) (toV (eVar 14)))) (sIf (tBoolD (eOp2 fLt (toV (eVar 12)) (toV (eC (.int 26))))) (sApp 10 (eVar 14)) (sApp 10 (eOp2 fAdd (toV (eVar 14)) (toV (eVar 13)))))))))))
    (sRet (eVar 10))))))))))
def d__law_names : Dn.Env → Res R := mkF 3 16 b__law_names
def b__law_order : Dn.Env → SR := sSeq (sAsg 1 (eOp1 fLstRg (toV (eOp1 fLen (ePk 0)))))
    (sSeq (sFor (gNm 2) (eRg1 (toV (eOp1 fLen (ePk 0)))) (sSeq (sAsg 3 (eOp2 fMod (toV (eOp1 fInt (toV (eIxV 0 (toV (eVar 2)))))) (toV (eOp2 fAdd (toV (eVar 2)) (toV (eC (.int 1)))))))
    (sSeq (sAsg 4 (eIxV 1 (toV (eVar 2))))
    (sSeq (sSetL 1 (toV (eIxV 1 (toV (eVar 3)))) (toV (eVar 2)))
    (sSetL 1 (toV (eVar 4)) (toV (eVar 3)))))))
    (sRet (eOp1 fTuple (ePk 1))))
def d__law_order : Dn.Env → Res R := mkF 1 5 b__law_order
def b__law_sums : Dn.Env → SR := sSeq (sAsg 1 (eDic0))
    (sSeq (sFor (gTp 2 (gsCons (gNm 2) (gsCons (gNm 3) (gsNil)))) (eIt (toV (eVar 0))) (sSetD 1 (toV (eOp2 fAdd (toV (eDget 1 (toV (eVar 2)) (toV (eC (.int 0))))) (toV (eVar 3)))) (toV (eVar 2))))
    (sRet (eOp1 fTuple (toV (eLc [2] (eIt (toV (eOp1 fSortedD (ePk 1)))) (gNm 2) (tTrue) (eOpN fTup (aCons (toV (eVar 2)) (aCons (toV (eDix 1 (toV (eVar 2)))) (aNil)))))))))
def d__law_sums : Dn.Env → Res R := mkF 1 4 b__law_sums
def b__law_due : Dn.Env → SR := sSeq (sAsg 2 (eOp1 fSum (toV (eLc [9] (eIt (toV (eVar 0))) (gNm 9) (tTrue) (eIxV 9 (toV (eC (.int 1))))))))
    (sSeq (sIf (tBoolD (eOp2 fEq (toV (eVar 2)) (toV (eC (.int 0))))) (sRet (eOp1 fTuple (toV (eLc [9] (eIt (toV (eVar 0))) (gNm 9) (tTrue) (eOpN fTup (aCons (toV (eIxV 9 (toV (eC (.int 0))))) (aCons (toV (eC (.int 0))) (aNil)))))))) (sNil))
    (sSeq (sAsg 3 (eLc [9] (eIt (toV (eVar 0))) (gNm 9) (tTrue) (eOp2 fFdiv (toV (eOp2 fMul (toV (eVar 1)) (toV (eIxV 9 (toV (eC (.int 1))))))) (toV (eVar 2)))))
    (sSeq (sAsg 4 (eLc [7] (eRg1 (toV (eOp1 fLen (ePk 0)))) (gNm 7) (tTrue) (eOp2 fSub (toV (eOp2 fMul (toV (eVar 1)) (toV (eOp2 fIx (toV (eIxV 0 (toV (eVar 7)))) (toV (eC (.int 1))))))) (toV (eOp2 fMul (toV (eIxV 3 (toV (eVar 7)))) (toV (eVar 2)))))))
    (sSeq (sAsg 5 (eOp2 fSub (toV (eVar 1)) (toV (eOp1 fSum (ePk 3)))))
    (sSeq (sAsg 6 (eOpN fLst (aNil)))
    (sSeq (sFor (gNm 7) (eRg1 (toV (eOp1 fLen (ePk 0)))) (sSeq (sAsg 8 (eOp1 fLen (toV (eLc [10] (eRg1 (toV (eOp1 fLen (ePk 0)))) (gNm 10) (tOrD (tBoolD (eOp2 fGt (toV (eIxV 4 (toV (eVar 10)))) (toV (eIxV 4 (toV (eVar 7)))))) (tAndD (tBoolD (eOp2 fEq (toV (eIxV 4 (toV (eVar 10)))) (toV (eIxV 4 (toV (eVar 7)))))) (tBoolD (eOp2 fLt (toV (eVar 10)) (toV (eVar 7)))))) (eVar 10)))))
    (sApp 6 (eOpN fTup (aCons (toV (eOp2 fIx (toV (eIxV 0 (toV (eVar 7)))) (toV (eC (.int 0))))) (aCons (toV (eOp2 fAdd (toV (eIxV 3 (toV (eVar 7)))) (toV (eOp1 fInt (toV (eOp2 fLt (toV (eVar 8)) (toV (eVar 5)))))))) (aNil)))))))
    (sRet (eOp1 fTuple (ePk 6)))))))))
def d__law_due : Dn.Env → Res R := mkF 2 11 b__law_due
def b__law_joined : Dn.Env → SR := sTryO (sRet (eCall 2 d_joined_shares (aCons (toV (eVar 0)) (aCons (toV (eVar 1)) (aNil))))) (h1 "BadWear" .none)
def d__law_joined : Dn.Env → Res R := mkF 2 2 b__law_joined
def b__law_refused : Dn.Env → SR := sSeq (sTryR 2 (sDrop (eCall 2 d_joined_shares (aCons (toV (eVar 0)) (aCons (toV (eVar 1)) (aNil))))) (h1 "BadWear" (.bool true)))
    (sRet (eC (.bool false)))
def d__law_refused : Dn.Env → Res R := mkF 2 3 b__law_refused
def b__law_shares : Dn.Env → SR := sSeq (sAsg 4 (eCall 4 d__law_row (aCons (toV (eVar 0)) (aCons (toV (eVar 1)) (aCons (toV (eC (.int 25))) (aCons (toV (eC (.int 27720))) (aNil)))))))
    (sSeq (sAsg 5 (eCall 4 d__law_row (aCons (toV (eVar 0)) (aCons (toV (eOp2 fAdd (toV (eVar 1)) (toV (eC (.int 1))))) (aCons (toV (eC (.int 24))) (aCons (toV (eVar 3)) (aNil)))))))
    (sSeq (sAsg 6 (eCall 1 d__law_order (aCons (toV (eCall 4 d__law_row (aCons (toV (eVar 0)) (aCons (toV (eOp2 fAdd (toV (eVar 1)) (toV (eC (.int 2))))) (aCons (toV (eC (.int 24))) (aCons (toV (eC (.int 5040))) (aNil))))))) (aNil))))
    (sSeq (sAsg 7 (eOp2 fAdd (toV (eC (.int 2))) (toV (eOp2 fMod (toV (eOp1 fInt (toV (eIxV 4 (toV (eC (.int 24))))))) (toV (eC (.int 3)))))))
    (sSeq (sAsg 8 (eOpN fLst (aNil)))
    (sSeq (sFor (gNm 9) (eIt (toV (eVar 6))) (sIf (tBoolD (eOp2 fEq (toV (eOp2 fMod (toV (eOp1 fInt (toV (eIxV 4 (toV (eVar 9)))))) (toV (eVar 7)))) (toV (eC (.int 0))))) (sApp 8 (eOpN fTup (aCons (toV (eIxV 2 (toV (eVar 9)))) (aCons (toV (eIxV 5 (toV (eVar 9)))) (aNil))))) (sNil)))
    (sRet (eOp1 fTuple (ePk 8))))))))
def d__law_shares : Dn.Env → Res R := mkF 4 10 b__law_shares
def b__law_grouped : Dn.Env → SR := sSeq (sAsg 3 (eCall 1 d__law_sums (aCons (toV (eOp2 fAdd (toV (eOp2 fAdd (toV (eVar 0)) (toV (eVar 1)))) (toV (eVar 2)))) (aNil))))
    (sSeq (sFor (gTp 2 (gsCons (gNm 4) (gsCons (gNm 5) (gsNil)))) (eIt (toV (eOpN fLst (aCons (toV (eOpN fTup (aCons (toV (eVar 0)) (aCons (toV (eVar 1)) (aNil))))) (aCons (toV (eOpN fTup (aCons (toV (eVar 1)) (aCons (toV (eVar 0)) (aNil))))) (aCons (toV (eOpN fTup (aCons (toV (eVar 1)) (aCons (toV (eVar 2)) (aNil))))) (aCons (toV (eOpN fTup (aCons (toV (eVar 2)) (aCons (toV (eVar 0)) (aNil))))) (aCons (toV (eOpN fTup (aCons (toV (eVar 0)) (aCons (toV (eOpN fTup (aNil))) (aNil))))) (aCons (toV (eOpN fTup (aCons (toV (eOpN fTup (aNil))) (aCons (toV (eVar 2)) (aNil))))) (aNil)))))))))) (sIf (tNotD (tTru (toV (eCall 2 d__law_same (aCons (toV (eCall 2 d__law_joined (aCons (toV (eVar 4)) (aCons (toV (eVar 5)) (aNil))))) (aCons (toV (eCall 1 d__law_sums (aCons (toV (eOp2 fAdd (toV (eVar 4)) (toV (eVar 5)))) (aNil)))) (aNil))))))) (sRet (eC (.bool false))) (sNil)))
    (sSeq (sIf (tNotD (tTru (toV (eCall 2 d__law_same (aCons (toV (eCall 2 d__law_joined (aCons (toV (eCall 1 d__law_sums (aCons (toV (eOp2 fAdd (toV (eVar 0)) (toV (eVar 1)))) (aNil)))) (aCons (toV (eVar 2)) (aNil))))) (aCons (toV (eVar 3)) (aNil))))))) (sRet (eC (.bool false))) (sNil))
    (sSeq (sIf (tNotD (tTru (toV (eCall 2 d__law_same (aCons (toV (eCall 2 d__law_joined (aCons (toV (eCall 2 d__law_joined (aCons (toV (eVar 2)) (aCons (toV (eVar 0)) (aNil))))) (aCons (toV (eVar 1)) (aNil))))) (aCons (toV (eVar 3)) (aNil))))))) (sRet (eC (.bool false))) (sNil))
    (sRet (eCall 2 d__law_same (aCons (toV (eCall 2 d__law_joined (aCons (toV (eVar 0)) (aCons (toV (eCall 2 d__law_joined (aCons (toV (eVar 1)) (aCons (toV (eVar 2)) (aNil))))) (aNil))))) (aCons (toV (eVar 3)) (aNil))))))))
def d__law_grouped : Dn.Env → Res R := mkF 3 6 b__law_grouped
def b__law_bounds : Dn.Env → SR := sSeq (sAsg 4 (eOp2 fAdd (toV (eVar 1)) (toV (eOp1 fTuple (toV (eLc [13] (eIt (toV (eSlV 0 (oNone) (oSome (toV (eC (.int 24))))))) (gNm 13) (tBoolD (eOp2 fNotIn (toV (eVar 13)) (toV (eLc [14] (eIt (toV (eVar 1))) (gNm 14) (tTrue) (eIxV 14 (toV (eC (.int 0)))))))) (eOpN fTup (aCons (toV (eVar 13)) (aCons (toV (eC (.int 0))) (aNil))))))))))
    (sSeq (sAsg 5 (eCall 2 d__law_joined (aCons (toV (eSlV 4 (oNone) (oSome (toV (eOp2 fSub (toV (eC (.int 24))) (toV (eOp2 fMod (toV (eOp1 fInt (toV (eIxV 3 (toV (eC (.int 0))))))) (toV (eC (.int 12)))))))))) (aCons (toV (eVar 2)) (aNil)))))
    (sSeq (sIf (tNotD (tTru (toV (eCall 2 d__law_same (aCons (toV (eVar 5)) (aCons (toV (eCall 1 d__law_sums (aCons (toV (eOp2 fAdd (toV (eSlV 4 (oNone) (oSome (toV (eOp2 fSub (toV (eC (.int 24))) (toV (eOp2 fMod (toV (eOp1 fInt (toV (eIxV 3 (toV (eC (.int 0))))))) (toV (eC (.int 12)))))))))) (toV (eVar 2)))) (aNil)))) (aNil))))))) (sRet (eC (.bool false))) (sNil))
    (sSeq (sIf (tOrD (tNotD (tTru (toV (eCall 2 d__law_same (aCons (toV (eCall 2 d__law_joined (aCons (toV (eVar 4)) (aCons (toV (eVar 2)) (aNil))))) (aCons (toV (eCall 1 d__law_sums (aCons (toV (eOp2 fAdd (toV (eVar 4)) (toV (eVar 2)))) (aNil)))) (aNil))))))) (tNotD (tTru (toV (eCall 2 d__law_refused (aCons (toV (eVar 4)) (aCons (toV (eOp2 fAdd (toV (eVar 2)) (toV (eOpN fTup (aCons (toV (eOpN fTup (aCons (toV (eIxV 0 (toV (eC (.int 24))))) (aCons (toV (eC (.int 1))) (aNil))))) (aNil)))))) (aNil)))))))) (sRet (eC (.bool false))) (sNil))
    (sSeq (sIf (tNotD (tTru (toV (eCall 2 d__law_refused (aCons (toV (eOpN fTup (aCons (toV (eOpN fTup (aCons (toV (eIxV 0 (toV (eC (.int 24))))) (aCons (toV (eC (.int 0))) (aNil))))) (aNil)))) (aCons (toV (eVar 4)) (aNil))))))) (sRet (eC (.bool false))) (sNil))
    (sSeq (sAsg 6 (eIxV 0 (toV (eOp2 fMod (toV (eOp1 fInt (toV (eIxV 3 (toV (eC (.int 1))))))) (toV (eC (.int 25)))))))
    (sSeq (sAsg 7 (eOp2 fMod (toV (eOp1 fInt (toV (eOp2 fMul (toV (eIxV 3 (toV (eC (.int 2))))) (toV (eC (.int 180))))))) (toV (eC (.int 5000000)))))
    (sSeq (sAsg 8 (eOp2 fMod (toV (eOp1 fInt (toV (eOp2 fMul (toV (eIxV 3 (toV (eC (.int 3))))) (toV (eC (.int 180))))))) (toV (eC (.int 5000000)))))
    (sSeq (sFor (gNm 9) (eIt (toV (eOpN fLst (aCons (toV (eOp2 fSub (toV (eOp2 fSub (toV (eC (.int 10000000))) (toV (eVar 7)))) (toV (eVar 8)))) (aCons (toV (eOp2 fSub (toV (eOp2 fSub (toV (eC (.int 10000001))) (toV (eVar 7)))) (toV (eVar 8)))) (aNil)))))) (sSeq (sAsg 10 (eCall 1 d__law_sums (aCons (toV (eOpN fTup (aCons (toV (eOpN fTup (aCons (toV (eVar 6)) (aCons (toV (eVar 7)) (aNil))))) (aCons (toV (eOpN fTup (aCons (toV (eIxV 0 (toV (eC (.int 0))))) (aCons (toV (eC (.int 0))) (aNil))))) (aCons (toV (eOpN fTup (aCons (toV (eVar 6)) (aCons (toV (eVar 8)) (aNil))))) (aNil)))))) (aNil))))
    (sSeq (sAsg 11 (eCall 1 d__law_sums (aCons (toV (eOpN fTup (aCons (toV (eOpN fTup (aCons (toV (eVar 6)) (aCons (toV (eVar 8)) (aNil))))) (aCons (toV (eOpN fTup (aCons (toV (eVar 6)) (aCons (toV (eVar 9)) (aNil))))) (aNil))))) (aNil))))
    (sIf (tBoolD (eOp2 fEq (toV (eOp2 fAdd (toV (eOp2 fAdd (toV (eVar 7)) (toV (eVar 8)))) (toV (eVar 9)))) (toV (eC (.int 10000000))))) (sSeq (sAsg 12 (eCall 1 d__law_sums (aCons (toV (eOpN fTup (aCons (toV (eOpN fTup (aCons (toV (eVar 6)) (aCons (toV (eC (.int 10000000))) (aNil))))) (aCons (toV (eOpN fTup (aCons (toV (eIxV 0 (toV (eC (.int 0))))) (aCons (toV (eC (.int 0))) (aNil))))) (aNil))))) (aNil))))
    (sSeq (sIf (tNotD (tTru (toV (eCall 2 d__law_same (aCons (toV (eCall 2 d__law_joined (aCons (toV (eVar 10)) (aCons (toV (eOpN fTup (aCons (toV (eOpN fTup (aCons (toV (eVar 6)) (aCons (toV (eVar 9)) (aNil))))) (aNil)))) (aNil))))) (aCons (toV (eVar 12)) (aNil))))))) (sRet (eC (.bool false))) (sNil))
    (sIf (tNotD (tTru (toV (eCall 2 d__law_same (aCons (toV (eCall 2 d__law_joined (aCons (toV (eOpN fTup (aCons (toV (eOpN fTup (aCons (toV (eIxV 0 (toV (eC (.int 0))))) (aCons (toV (eC (.int 0))) (aNil))))) (aNil)))) (aCons (toV (eCall 2 d__law_joined (aCons (toV (eOpN fTup (aCons (toV (eOpN fTup (aCons (toV (eVar 6)) (aCons (toV (eVar 7)) (aNil))))) (aNil)))) (aCons (toV (eVar 11)) (aNil))))) (aNil))))) (aCons (toV (eVar 12)) (aNil))))))) (sRet (eC (.bool false))) (sNil)))) (sIf (tNotD (tTru (toV (eCall 2 d__law_refused (aCons (toV (eVar 10)) (aCons (toV (eOpN fTup (aCons (toV (eOpN fTup (aCons (toV (eVar 6)) (aCons (toV (eVar 9)) (aNil))))) (aNil)))) (aNil))))))) (sRet (eC (.bool false))) (sIf (tAndD (tBoolD (eOp2 fLe (toV (eOp2 fIx (toV (eIxV 11 (toV (eC (.int 0))))) (toV (eC (.int 1))))) (toV (eC (.int 10000000))))) (tNotD (tTru (toV (eCall 2 d__law_refused (aCons (toV (eOpN fTup (aCons (toV (eOpN fTup (aCons (toV (eVar 6)) (aCons (toV (eVar 7)) (aNil))))) (aNil)))) (aCons (toV (eVar 11)) (aNil)))))))) (sRet (eC (.bool false))) (sNil)))))))
    (sRet (eC (.bool true)))))))))))
def d__law_bounds : Dn.Env → Res R := mkF 4 15 b__law_bounds
def b__law_worn : Dn.Env → SR := sSeq (sAsg 3 (eCall 4 d__law_row (aCons (toV (eVar 0)) (aCons (toV (eC (.int 11))) (aCons (toV (eC (.int 3))) (aCons (toV (eC (.int 9))) (aNil)))))))
    (sSeq (sAsg 4 (eOpN fLst (aNil)))
    (sSeq (sFor (gNm 5) (eRg1 (toV (eC (.int 3)))) (sSeq (sAsg 8 (eCall 4 d__law_row (aCons (toV (eVar 0)) (aCons (toV (eOp2 fAdd (toV (eC (.int 12))) (toV (eVar 5)))) (aCons (toV (eIxV 3 (toV (eVar 5)))) (aCons (toV (eC (.int 600000))) (aNil)))))))
    (sApp 4 (eOp1 fTuple (toV (eLc [9] (eIt (toV (eVar 8))) (gNm 9) (tTrue) (eOpN fTup (aCons (toV (eIxV 1 (toV (eOp2 fMod (toV (eOp1 fInt (ePk 9))) (toV (eC (.int 6))))))) (aCons (toV (eOp2 fMod (toV (eOp1 fInt (toV (eOp2 fFdiv (toV (eVar 9)) (toV (eC (.int 6))))))) (toV (eC (.int 100001))))) (aNil))))))))))
    (sSeq (sAsg 6 (eCall 2 d__law_joined (aCons (toV (eCall 2 d__law_joined (aCons (toV (eCall 1 d_wear_by_owner (aCons (toV (eIxV 4 (toV (eC (.int 0))))) (aNil)))) (aCons (toV (eCall 1 d_wear_by_owner (aCons (toV (eIxV 4 (toV (eC (.int 1))))) (aNil)))) (aNil))))) (aCons (toV (eCall 1 d_wear_by_owner (aCons (toV (eIxV 4 (toV (eC (.int 2))))) (aNil)))) (aNil)))))
    (sSeq (sAsg 7 (eCall 1 d__law_sums (aCons (toV (eOp2 fAdd (toV (eOp2 fAdd (toV (eIxV 4 (toV (eC (.int 0))))) (toV (eIxV 4 (toV (eC (.int 1))))))) (toV (eIxV 4 (toV (eC (.int 2))))))) (aNil))))
    (sSeq (sIf (tOrD (tNotD (tTru (toV (eCall 2 d__law_same (aCons (toV (eVar 6)) (aCons (toV (eVar 7)) (aNil))))))) (tNotD (tTru (toV (eCall 2 d__law_same (aCons (toV (eCall 1 d_wear_by_owner (aCons (toV (eOp2 fAdd (toV (eOp2 fAdd (toV (eIxV 4 (toV (eC (.int 2))))) (toV (eIxV 4 (toV (eC (.int 0))))))) (toV (eIxV 4 (toV (eC (.int 1))))))) (aNil)))) (aCons (toV (eVar 7)) (aNil)))))))) (sRet (eC (.bool false))) (sNil))
    (sRet (eCall 2 d__law_same (aCons (toV (eCall 2 d_charge (aCons (toV (eVar 6)) (aCons (toV (eVar 2)) (aNil))))) (aCons (toV (eCall 2 d__law_due (aCons (toV (eVar 7)) (aCons (toV (eVar 2)) (aNil))))) (aNil))))))))))
def d__law_worn : Dn.Env → Res R := mkF 3 10 b__law_worn
def b_law : Dn.Env → SR := sSeq (sAsg 1 (eOp1 fAbs (toV (eCall 2 d__law_cell (aCons (toV (eVar 0)) (aCons (toV (eC (.int 0))) (aNil)))))))
    (sSeq (sAsg 2 (eCall 3 d__law_names (aCons (toV (eVar 0)) (aCons (toV (eC (.int 1))) (aCons (toV (eC (.int 25))) (aNil))))))
    (sSeq (sAsg 3 (eOp2 fIx (toV (eOpN fLst (aCons (toV (eC (.int 4))) (aCons (toV (eC (.int 1001))) (aCons (toV (eC (.int 3333334))) (aNil)))))) (toV (eOp2 fMod (toV (eOp1 fInt (ePk 1))) (toV (eC (.int 3)))))))
    (sSeq (sAsg 4 (eLc [6] (eIt (toV (eOpN fLst (aCons (toV (eC (.int 2))) (aCons (toV (eC (.int 5))) (aCons (toV (eC (.int 8))) (aNil))))))) (gNm 6) (tTrue) (eCall 4 d__law_shares (aCons (toV (eVar 0)) (aCons (toV (eVar 6)) (aCons (toV (eVar 2)) (aCons (toV (eVar 3)) (aNil))))))))
    (sSeq (sAsg 5 (eCall 4 d__law_row (aCons (toV (eVar 0)) (aCons (toV (eC (.int 15))) (aCons (toV (eC (.int 6))) (aCons (toV (eC (.int 27720))) (aNil)))))))
    (sSeq (sIf (tNotD (tTru (toV (eCall 3 d__law_grouped (aCons (toV (eIxV 4 (toV (eC (.int 0))))) (aCons (toV (eIxV 4 (toV (eC (.int 1))))) (aCons (toV (eIxV 4 (toV (eC (.int 2))))) (aNil)))))))) (sRet (eC (.bool false))) (sNil))
    (sSeq (sIf (tNotD (tTru (toV (eCall 4 d__law_bounds (aCons (toV (eVar 2)) (aCons (toV (eIxV 4 (toV (eC (.int 0))))) (aCons (toV (eIxV 4 (toV (eC (.int 1))))) (aCons (toV (eVar 5)) (aNil))))))))) (sRet (eC (.bool false))) (sNil))
    (sRet (eCall 3 d__law_worn (aCons (toV (eVar 0)) (aCons (toV (eVar 2)) (aCons (toV (eOp2 fMod (toV (eOp1 fInt (toV (eOp2 fAdd (toV (eOp2 fMul (toV (eIxV 5 (toV (eC (.int 4))))) (toV (eC (.int 40000))))) (toV (eIxV 5 (toV (eC (.int 5))))))))) (toV (eC (.int 1000000001))))) (aNil))))))))))))
def d_law : Dn.Env → Res R := mkF 1 7 b_law
end
end Law
set_option Elab.async false
set_option linter.all false
set_option maxRecDepth 100000
set_option maxHeartbeats 1000000
/-! Dm1: plain Lean about dens: evaluation by simp, loops by rules -/
namespace Dn
open PySem L2

/-! ### evaluation -/
section
variable {α β : Type} {ρ : Dn.Env} {s t : Dn.Env → SR} {i j : Nat} {a b : Dn.Env → Res D} {m : Dn.Env → Res R} {tb tc : Dn.Env → Res Bool} {f : D → D → Option R}
@[simp] theorem gS_zero {s : Sl} {r : Dn.Env} : gS (s :: r) 0 = s := id rfl
@[simp] theorem gS_succ {s : Sl} {r : Dn.Env} {i : Nat} : gS (s :: r) (i + 1) = gS r i := id rfl
@[simp] theorem sS_zero {s t : Sl} {r : Dn.Env} : sS (s :: r) 0 t = t :: r := id rfl
@[simp] theorem sS_succ {s t : Sl} {r : Dn.Env} {i : Nat} : sS (s :: r) (i + 1) t = s :: sS r i t := id rfl
@[simp] theorem toD_val {d : D} : (R.val d).toD = d := id rfl
@[simp] theorem toD_fresh {c : Cell} : (R.fresh c).toD = c.toD := id rfl
@[simp] theorem toD_lst {xs : List D} : (Cell.lst xs).toD = .list xs := id rfl
@[simp] theorem sl_val {d : D} : (R.val d).sl = .val d := id rfl
@[simp] theorem sl_fresh {c : Cell} : (R.fresh c).sl = .own c := id rfl
theorem ite_b {γ : Sort _} {c : Bool} {x y : γ} : (match c with | true => x | false => y) = if c = true then x else y := by cases c <;> rfl
def toVk (r : Res R) : Res D := bindR r fun r ρ1 => .ok r.toD ρ1
@[simp] theorem toVk_ok {r : R} : toVk (.ok r ρ) = .ok r.toD ρ := id rfl
@[simp] theorem toVk_exc {c : Str} : toVk (.exc c ρ) = .exc c ρ := id rfl
@[simp] theorem toV_ap : toV m ρ = toVk (m ρ) := id rfl
def o2b (f : D → D → Option R) (x : D) (r : Res D) : Res R := bindR r fun y ρ2 => optR (f x y) ρ2
@[simp] theorem o2b_ok {x y : D} : o2b f x (.ok y ρ) = optR (f x y) ρ := id rfl
@[simp] theorem o2b_exc {x : D} {c : Str} : o2b f x (.exc c ρ) = .exc c ρ := id rfl
def o2a (f : D → D → Option R) (b : Dn.Env → Res D) (r : Res D) : Res R := bindR r fun x ρ1 => o2b f x (b ρ1)
@[simp] theorem o2a_ok {x : D} : o2a f b (.ok x ρ) = o2b f x (b ρ) := id rfl
@[simp] theorem o2a_exc {c : Str} : o2a f b (.exc c ρ) = .exc c ρ := id rfl
@[simp] theorem eOp2_ap : eOp2 f a b ρ = o2a f b (a ρ) := id rfl
def o1 (f : D → Option R) (r : Res D) : Res R := bindR r fun x ρ1 => optR (f x) ρ1
@[simp] theorem o1_ok {f : D → Option R} {x : D} : o1 f (.ok x ρ) = optR (f x) ρ := id rfl
@[simp] theorem o1_exc {f : D → Option R} {c : Str} : o1 f (.exc c ρ) = .exc c ρ := id rfl
@[simp] theorem eOp1_ap {f : D → Option R} : eOp1 f a ρ = o1 f (a ρ) := id rfl
def oN (f : List D → Option R) (r : Res (List D)) : Res R := bindR r fun x ρ1 => optR (f x) ρ1
@[simp] theorem oN_ok {f : List D → Option R} {x : List D} : oN f (.ok x ρ) = optR (f x) ρ := id rfl
@[simp] theorem oN_exc {f : List D → Option R} {c : Str} : oN f (.exc c ρ) = .exc c ρ := id rfl
@[simp] theorem eOpN_ap {f : List D → Option R} {a : Dn.Env → Res (List D)} : eOpN f a ρ = oN f (a ρ) := id rfl
@[simp] theorem eVar_ap : eVar i ρ = match gS ρ i with
  | .val d => .ok (.val d) ρ
  | .own c => .ok (.val c.toD) (sS ρ i (.val c.toD))
  | _ => .bad := id rfl
@[simp] theorem ePk_ap : ePk i ρ = match gS ρ i with
  | .val d => .ok d ρ
  | .own c => .ok c.toD ρ
  | .bor c => .ok c.toD ρ
  | .emp => .bad := id rfl
@[simp] theorem eC_ap {d : D} : eC d ρ = .ok (.val d) ρ := id rfl
@[simp] theorem aNil_ap : aNil ρ = .ok [] ρ := id rfl
def ac2 (x : D) (r : Res (List D)) : Res (List D) := bindR r fun xs ρ2 => .ok (x :: xs) ρ2
@[simp] theorem ac2_ok {x : D} {xs : List D} : ac2 x (.ok xs ρ) = .ok (x :: xs) ρ := id rfl
@[simp] theorem ac2_exc {x : D} {c : Str} : ac2 x (.exc c ρ) = .exc c ρ := id rfl
def ac1 (m : Dn.Env → Res (List D)) (r : Res D) : Res (List D) := bindR r fun x ρ1 => ac2 x (m ρ1)
@[simp] theorem ac1_ok {m : Dn.Env → Res (List D)} {x : D} : ac1 m (.ok x ρ) = ac2 x (m ρ) := id rfl
@[simp] theorem ac1_exc {m : Dn.Env → Res (List D)} {c : Str} : ac1 m (.exc c ρ) = .exc c ρ := id rfl
@[simp] theorem aCons_ap {r : Dn.Env → Res (List D)} : aCons a r ρ = ac1 r (a ρ) := id rfl
@[simp] theorem asB_b {c : Bool} : asB (.val (.bool c)) = some c := id rfl
def tBk (r : Res R) : Res Bool := bindR r fun r ρ1 => optR (asB r) ρ1
@[simp] theorem tBk_ok {r : R} : tBk (.ok r ρ) = optR (asB r) ρ := id rfl
@[simp] theorem tBk_exc {c : Str} : tBk (.exc c ρ) = .exc c ρ := id rfl
@[simp] theorem tBoolD_ap : tBoolD m ρ = tBk (m ρ) := id rfl
def tAk (t : Dn.Env → Res Bool) (r : Res Bool) : Res Bool := bindR r fun c ρ1 => if c = true then t ρ1 else .ok false ρ1
@[simp] theorem tAk_ok {c : Bool} : tAk tc (.ok c ρ) = if c = true then tc ρ else .ok false ρ := id rfl
@[simp] theorem tAk_exc {c : Str} : tAk tc (.exc c ρ) = .exc c ρ := id rfl
@[simp] theorem tAndD_ap : tAndD tb tc ρ = tAk tc (tb ρ) := by
  unfold tAndD tAk; congr; funext c ρ1; cases c <;> rfl
def tOk (t : Dn.Env → Res Bool) (r : Res Bool) : Res Bool := bindR r fun c ρ1 => if c = true then .ok true ρ1 else t ρ1
@[simp] theorem tOk_ok {c : Bool} : tOk tc (.ok c ρ) = if c = true then .ok true ρ else tc ρ := id rfl
@[simp] theorem tOk_exc {c : Str} : tOk tc (.exc c ρ) = .exc c ρ := id rfl
@[simp] theorem tOrD_ap : tOrD tb tc ρ = tOk tc (tb ρ) := by
  unfold tOrD tOk; congr; funext c ρ1; cases c <;> rfl
def tNk (r : Res Bool) : Res Bool := bindR r fun c ρ1 => .ok (!c) ρ1
@[simp] theorem tNk_ok {c : Bool} : tNk (.ok c ρ) = .ok (!c) ρ := id rfl
@[simp] theorem tNk_exc {c : Str} : tNk (.exc c ρ) = .exc c ρ := id rfl
@[simp] theorem tNotD_ap : tNotD tb ρ = tNk (tb ρ) := id rfl
def andR (r : R) (k : Dn.Env → Res R) (ρ : Dn.Env) : Res R := match r with | .val (.bool c) => if c = true then k ρ else .ok (.val (.bool false)) ρ | _ => .bad
def orR (r : R) (k : Dn.Env → Res R) (ρ : Dn.Env) : Res R := match r with | .val (.bool c) => if c = true then .ok (.val (.bool true)) ρ else k ρ | _ => .bad
@[simp] theorem andR_b {c : Bool} {k : Dn.Env → Res R} : andR (.val (.bool c)) k ρ = if c = true then k ρ else .ok (.val (.bool false)) ρ := id rfl
@[simp] theorem orR_b {c : Bool} {k : Dn.Env → Res R} : orR (.val (.bool c)) k ρ = if c = true then .ok (.val (.bool true)) ρ else k ρ := id rfl
variable {x y : Dn.Env → Res R}
def eAk (y : Dn.Env → Res R) (r : Res R) : Res R := bindR r fun r ρ1 => andR r y ρ1
@[simp] theorem eAk_ok {r : R} : eAk y (.ok r ρ) = andR r y ρ := id rfl
@[simp] theorem eAk_exc {c : Str} : eAk y (.exc c ρ) = .exc c ρ := id rfl
@[simp] theorem eAndD_ap : eAndD x y ρ = eAk y (x ρ) := by
  unfold eAndD eAk; congr; funext r ρ1
  unfold andR
  cases r with
  | fresh c => rfl
  | val d => cases d with
    | bool b => cases b <;> rfl
    | _ => rfl
def eOk (y : Dn.Env → Res R) (r : Res R) : Res R := bindR r fun r ρ1 => orR r y ρ1
@[simp] theorem eOk_ok {r : R} : eOk y (.ok r ρ) = orR r y ρ := id rfl
@[simp] theorem eOk_exc {c : Str} : eOk y (.exc c ρ) = .exc c ρ := id rfl
@[simp] theorem eOrD_ap : eOrD x y ρ = eOk y (x ρ) := by
  unfold eOrD eOk; congr; funext r ρ1
  unfold orR
  cases r with
  | fresh c => rfl
  | val d => cases d with
    | bool b => cases b <;> rfl
    | _ => rfl
def notR (r : R) (ρ : Dn.Env) : Res R := match r with | .val (.bool c) => .ok (.val (.bool (!c))) ρ | _ => .bad
@[simp] theorem notR_b {c : Bool} : notR (.val (.bool c)) ρ = .ok (.val (.bool (!c))) ρ := id rfl
def eNk (r : Res R) : Res R := bindR r fun r ρ1 => notR r ρ1
@[simp] theorem eNk_ok {r : R} : eNk (.ok r ρ) = notR r ρ := id rfl
@[simp] theorem eNk_exc {c : Str} : eNk (.exc c ρ) = .exc c ρ := id rfl
@[simp] theorem eNotD_ap : eNotD x ρ = eNk (x ρ) := by
  rfl
def eIk (x y : Dn.Env → Res R) (r : Res Bool) : Res R := bindR r fun c ρ1 => if c = true then x ρ1 else y ρ1
@[simp] theorem eIk_ok {c : Bool} : eIk x y (.ok c ρ) = if c = true then x ρ else y ρ := id rfl
@[simp] theorem eIk_exc {c : Str} : eIk x y (.exc c ρ) = .exc c ρ := id rfl
@[simp] theorem eIfD_ap : eIfD tb x y ρ = eIk x y (tb ρ) := by
  unfold eIfD eIk; congr; funext c ρ1; cases c <;> rfl
def ch4 (g : D → D → Option R) (y : D) (c : Dn.Env → Res D) : Dn.Env → Res R := fun ρ => o2b g y (c ρ)
@[simp] theorem ch4_ap {g : D → D → Option R} {y : D} {c : Dn.Env → Res D} : ch4 g y c ρ = o2b g y (c ρ) := id rfl
def ch3 (g : D → D → Option R) (y : D) (c : Dn.Env → Res D) (r : Res R) : Res R := bindR r fun r ρ3 => andR r (ch4 g y c) ρ3
@[simp] theorem ch3_ok {g : D → D → Option R} {y : D} {c : Dn.Env → Res D} {r : R} : ch3 g y c (.ok r ρ) = andR r (ch4 g y c) ρ := id rfl
def ch2 (f g : D → D → Option R) (x : D) (c : Dn.Env → Res D) (r : Res D) : Res R := bindR r fun y ρ2 => ch3 g y c (optR (f x y) ρ2)
@[simp] theorem ch2_ok {f g : D → D → Option R} {x y : D} {c : Dn.Env → Res D} : ch2 f g x c (.ok y ρ) = ch3 g y c (optR (f x y) ρ) := id rfl
@[simp] theorem ch2_exc {f g : D → D → Option R} {x : D} {c : Dn.Env → Res D} {z : Str} : ch2 f g x c (.exc z ρ) = .exc z ρ := id rfl
def ch1 (f g : D → D → Option R) (b c : Dn.Env → Res D) (r : Res D) : Res R := bindR r fun x ρ1 => ch2 f g x c (b ρ1)
@[simp] theorem ch1_ok {f g : D → D → Option R} {x : D} {b c : Dn.Env → Res D} : ch1 f g b c (.ok x ρ) = ch2 f g x c (b ρ) := id rfl
@[simp] theorem ch1_exc {f g : D → D → Option R} {b c : Dn.Env → Res D} {z : Str} : ch1 f g b c (.exc z ρ) = .exc z ρ := id rfl
@[simp] theorem eChain_ap {f g : D → D → Option R} {a b c : Dn.Env → Res D} : eChain f g a b c ρ = ch1 f g b c (a ρ) := by
  unfold eChain ch1 ch2 ch3 ch4; congr; funext x ρ1; congr; funext y ρ2; congr; funext r ρ3
  unfold andR o2b
  cases r with
  | fresh c => rfl
  | val d => cases d with
    | bool b => cases b <;> rfl
    | _ => rfl
def tTk (r : Res D) : Res Bool := bindR r fun d ρ1 => optR (truD d) ρ1
@[simp] theorem tTk_ok {d : D} : tTk (.ok d ρ) = optR (truD d) ρ := id rfl
@[simp] theorem tTk_exc {c : Str} : tTk (.exc c ρ) = .exc c ρ := id rfl
@[simp] theorem tTru_ap : tTru a ρ = tTk (a ρ) := id rfl
@[simp] theorem truD_bool {c : Bool} : truD (.bool c) = some c := id rfl
@[simp] theorem truD_int {i : Int} : truD (.int i) = some (i != 0) := id rfl
@[simp] theorem truD_non : truD .none = some false := id rfl
@[simp] theorem truD_list {ds : List D} : truD (.list ds) = some (!ds.isEmpty) := id rfl
@[simp] theorem truD_tuple {ds : List D} : truD (.tuple ds) = some (!ds.isEmpty) := id rfl
@[simp] theorem sSeq_ap : sSeq s t ρ = bindS (s ρ) t := id rfl
@[simp] theorem sNil_ap : sNil ρ = .nx ρ := id rfl
def sIk (s t : Dn.Env → SR) (r : Res Bool) : SR := bindRS r fun c ρ1 => if c = true then s ρ1 else t ρ1
@[simp] theorem sIk_ok {c : Bool} : sIk s t (.ok c ρ) = if c = true then s ρ else t ρ := id rfl
@[simp] theorem sIk_exc {c : Str} : sIk s t (.exc c ρ) = .exc c ρ := id rfl
@[simp] theorem sIf_ap : sIf tb s t ρ = sIk s t (tb ρ) := by
  unfold sIf sIk; congr; funext c ρ1; cases c <;> rfl
def sRk (r : Res R) : SR := bindRS r fun r ρ1 => .ret r ρ1
@[simp] theorem sRk_ok {r : R} : sRk (.ok r ρ) = .ret r ρ := id rfl
@[simp] theorem sRk_exc {c : Str} : sRk (.exc c ρ) = .exc c ρ := id rfl
@[simp] theorem sRet_ap : sRet m ρ = sRk (m ρ) := id rfl
@[simp] theorem sRetN_ap : sRetN ρ = .ret (.val .none) ρ := id rfl
def sDk (r : Res R) : SR := bindRS r fun _ ρ1 => .nx ρ1
@[simp] theorem sDk_ok {r : R} : sDk (.ok r ρ) = .nx ρ := id rfl
@[simp] theorem sDk_exc {c : Str} : sDk (.exc c ρ) = .exc c ρ := id rfl
@[simp] theorem sDrop_ap : sDrop m ρ = sDk (m ρ) := id rfl
def sAk (i : Nat) (r : Res R) : SR := bindRS r fun r ρ1 => putR i r ρ1
@[simp] theorem sAk_ok {r : R} : sAk i (.ok r ρ) = putR i r ρ := id rfl
@[simp] theorem sAk_exc {c : Str} : sAk i (.exc c ρ) = .exc c ρ := id rfl
@[simp] theorem sAsg_ap : sAsg i m ρ = sAk i (m ρ) := id rfl
theorem putR_ap {r : R} : putR i r ρ = match gS ρ i with
  | .bor _ => .bad
  | _ => .nx (sS ρ i r.sl) := id rfl
def ofO (o : Option Dn.Env) : SR := match o with
  | some ρ2 => .nx ρ2
  | none => .bad
@[simp] theorem ofO_some : ofO (some ρ) = .nx ρ := id rfl
def sGk (g : D → Dn.Env → Option Dn.Env) (r : Res D) : SR := bindRS r fun d ρ1 => ofO (g d ρ1)
@[simp] theorem sGk_ok {g : D → Dn.Env → Option Dn.Env} {d : D} : sGk g (.ok d ρ) = ofO (g d ρ) := id rfl
@[simp] theorem sGk_exc {g : D → Dn.Env → Option Dn.Env} {c : Str} : sGk g (.exc c ρ) = .exc c ρ := id rfl
@[simp] theorem sAsgG_ap {g : D → Dn.Env → Option Dn.Env} : sAsgG g a ρ = sGk g (a ρ) := id rfl
def sP2 (i j : Nat) (ds : List D) (ρ : Dn.Env) : SR := match ds with
  | [x, y] => bindS (putR i (.val x) ρ) (putR j (.val y))
  | _ => .bad
@[simp] theorem sP2_2 {x y : D} : sP2 i j [x, y] ρ = bindS (putR i (.val x) ρ) (putR j (.val y)) := id rfl
def sPk (i j : Nat) (r : Res (List D)) : SR := bindRS r fun ds ρ1 => sP2 i j ds ρ1
@[simp] theorem sPk_ok {ds : List D} : sPk i j (.ok ds ρ) = sP2 i j ds ρ := id rfl
@[simp] theorem sPk_exc {c : Str} : sPk i j (.exc c ρ) = .exc c ρ := id rfl
@[simp] theorem sPar_ap {m : Dn.Env → Res (List D)} : sPar i j m ρ = sPk i j (m ρ) := by
  rfl
theorem gNm_ap {d : D} : gNm i d ρ = match gS ρ i with
  | .bor _ => none
  | _ => some (sS ρ i (.val d)) := id rfl
@[simp] theorem gTp_ap {n : Nat} {g : List D → Dn.Env → Option Dn.Env} {ds : List D} : gTp n g (.tuple ds) ρ = if ds.length = n then g ds ρ else none := id rfl
@[simp] theorem gsNil_ap : gsNil [] ρ = some ρ := id rfl
def gcK (h : List D → Dn.Env → Option Dn.Env) (ds : List D) (o : Option Dn.Env) : Option Dn.Env := o.bind fun ρ1 => h ds ρ1
@[simp] theorem gcK_some {h : List D → Dn.Env → Option Dn.Env} {ds : List D} : gcK h ds (some ρ) = h ds ρ := id rfl
@[simp] theorem gsCons_ap {g : D → Dn.Env → Option Dn.Env} {h : List D → Dn.Env → Option Dn.Env} {d : D} {ds : List D} : gsCons g h (d :: ds) ρ = gcK h ds (g d ρ) := by
  show (match g d ρ with | some ρ1 => h ds ρ1 | none => none) = _
  cases g d ρ <;> rfl
def sFk (g : D → Dn.Env → Option Dn.Env) (s : Dn.Env → SR) (r : Res (List D)) : SR := bindRS r fun ds ρ1 => forL g s ds ρ1
@[simp] theorem sFk_ok {g : D → Dn.Env → Option Dn.Env} {ds : List D} : sFk g s (.ok ds ρ) = forL g s ds ρ := id rfl
@[simp] theorem sFk_exc {g : D → Dn.Env → Option Dn.Env} {c : Str} : sFk g s (.exc c ρ) = .exc c ρ := id rfl
@[simp] theorem sFor_ap {g : D → Dn.Env → Option Dn.Env} {m : Dn.Env → Res (List D)} : sFor g m s ρ = sFk g s (m ρ) := id rfl
theorem sWhile_ap : sWhile tb s ρ = whileL tb s fuel ρ := rfl
def itk (r : Res D) : Res (List D) := bindR r fun d ρ1 => optR (iterD d) ρ1
@[simp] theorem itk_ok {d : D} : itk (.ok d ρ) = optR (iterD d) ρ := id rfl
@[simp] theorem itk_exc {c : Str} : itk (.exc c ρ) = .exc c ρ := id rfl
@[simp] theorem eIt_ap : eIt a ρ = itk (a ρ) := id rfl
@[simp] theorem iterD_list {ds : List D} : iterD (.list ds) = some ds := id rfl
@[simp] theorem iterD_tuple {ds : List D} : iterD (.tuple ds) = some ds := id rfl
@[simp] theorem iterD_str {z : Str} : iterD (.str z) = some (z.cps.toList.map fun c => .str ⟨#[c]⟩) := id rfl
def rg1k (r : Res D) : Res (List D) := bindR r fun d ρ1 => optR (rg1 d) ρ1
@[simp] theorem rg1k_ok {d : D} : rg1k (.ok d ρ) = optR (rg1 d) ρ := id rfl
@[simp] theorem rg1k_exc {c : Str} : rg1k (.exc c ρ) = .exc c ρ := id rfl
@[simp] theorem eRg1_ap : eRg1 a ρ = rg1k (a ρ) := id rfl
def rgA : List D → Option (List D)
  | [a, b] => rg2 a b
  | _ => none
@[simp] theorem rgA_2 {a b : D} : rgA [a, b] = rg2 a b := id rfl
def rg2k (r : Res (List D)) : Res (List D) := bindR r fun d ρ1 => optR (rgA d) ρ1
@[simp] theorem rg2k_ok {d : List D} : rg2k (.ok d ρ) = optR (rgA d) ρ := id rfl
@[simp] theorem rg2k_exc {c : Str} : rg2k (.exc c ρ) = .exc c ρ := id rfl
@[simp] theorem eRg2_ap {m : Dn.Env → Res (List D)} : eRg2 m ρ = rg2k (m ρ) := by
  unfold eRg2 rg2k; congr; funext ds ρ1
  match ds with
  | [] => rfl
  | [_] => rfl
  | [_, _] => rfl
  | _ :: _ :: _ :: _ => rfl
theorem rg1_ok {n : Int} (h1 : -4611686018427387904 ≤ n) (h2 : n < 4611686018427387904) : rg1 (.int n) = some (rgD 0 n.toNat) := by
  show (if inB n = true then _ else _) = _
  rw [if_pos]
  unfold inB
  exact decide_eq_true ⟨h1, h2⟩
theorem rg2_ok {a b : Int} (h1 : -4611686018427387904 ≤ a) (h2 : a < 4611686018427387904) (h3 : -4611686018427387904 ≤ b) (h4 : b < 4611686018427387904) : rg2 (.int a) (.int b) = some (rgD a (b - a).toNat) := by
  show (if inB a = true ∧ inB b = true then _ else _) = _
  rw [if_pos]
  unfold inB
  exact ⟨decide_eq_true ⟨h1, h2⟩, decide_eq_true ⟨h3, h4⟩⟩
@[simp] theorem oNone_ap : oNone ρ = .ok none ρ := id rfl
@[simp] theorem asI_int {i : Int} : asI (.int i) = some (some i) := id rfl
def osk (r : Res D) : Res (Option Int) := bindR r fun d ρ1 => optR (asI d) ρ1
@[simp] theorem osk_ok {d : D} : osk (.ok d ρ) = optR (asI d) ρ := id rfl
@[simp] theorem oSome_ap : oSome a ρ = osk (a ρ) := id rfl
def sl4 (lo hi : Option Int) (r : Res D) : Res R := bindR r fun x ρ3 => optR (fSl x lo hi) ρ3
@[simp] theorem sl4_ok {lo hi : Option Int} {x : D} : sl4 lo hi (.ok x ρ) = optR (fSl x lo hi) ρ := id rfl
def sl3 (i : Nat) (lo : Option Int) (r : Res (Option Int)) : Res R := bindR r fun hi ρ2 => sl4 lo hi (ePk i ρ2)
@[simp] theorem sl3_ok {lo hi : Option Int} : sl3 i lo (.ok hi ρ) = sl4 lo hi (ePk i ρ) := id rfl
def sl2 (i : Nat) (mh : Dn.Env → Res (Option Int)) (r : Res (Option Int)) : Res R := bindR r fun lo ρ1 => sl3 i lo (mh ρ1)
@[simp] theorem sl2_ok {lo : Option Int} {mh : Dn.Env → Res (Option Int)} : sl2 i mh (.ok lo ρ) = sl3 i lo (mh ρ) := id rfl
def sl1 (i : Nat) (ml mh : Dn.Env → Res (Option Int)) (ρ : Dn.Env) (r : Res D) : Res R := bindR r fun _ _ => sl2 i mh (ml ρ)
@[simp] theorem sl1_ok {ml mh : Dn.Env → Res (Option Int)} {x : D} {ρ' : Dn.Env} : sl1 i ml mh ρ (.ok x ρ') = sl2 i mh (ml ρ) := id rfl
@[simp] theorem eSlV_ap {ml mh : Dn.Env → Res (Option Int)} : eSlV i ml mh ρ = sl1 i ml mh ρ (ePk i ρ) := id rfl
def sm3 (x : D) (lo : Option Int) (r : Res (Option Int)) : Res R := bindR r fun hi ρ2 => optR (fSl x lo hi) ρ2
@[simp] theorem sm3_ok {x : D} {lo hi : Option Int} : sm3 x lo (.ok hi ρ) = optR (fSl x lo hi) ρ := id rfl
def sm2 (x : D) (mh : Dn.Env → Res (Option Int)) (r : Res (Option Int)) : Res R := bindR r fun lo ρ1 => sm3 x lo (mh ρ1)
@[simp] theorem sm2_ok {x : D} {lo : Option Int} {mh : Dn.Env → Res (Option Int)} : sm2 x mh (.ok lo ρ) = sm3 x lo (mh ρ) := id rfl
def sm1 (ml mh : Dn.Env → Res (Option Int)) (r : Res D) : Res R := bindR r fun x ρ0 => sm2 x mh (ml ρ0)
@[simp] theorem sm1_ok {ml mh : Dn.Env → Res (Option Int)} {x : D} : sm1 ml mh (.ok x ρ) = sm2 x mh (ml ρ) := id rfl
@[simp] theorem eSl_ap {ml mh : Dn.Env → Res (Option Int)} : eSl a ml mh ρ = sm1 ml mh (a ρ) := id rfl
def ix3 (y : D) (r : Res D) : Res R := bindR r fun x ρ2 => optR (fIx x y) ρ2
@[simp] theorem ix3_ok {x y : D} : ix3 y (.ok x ρ) = optR (fIx x y) ρ := id rfl
def ix2 (i : Nat) (r : Res D) : Res R := bindR r fun y ρ1 => ix3 y (ePk i ρ1)
@[simp] theorem ix2_ok {y : D} : ix2 i (.ok y ρ) = ix3 y (ePk i ρ) := id rfl
@[simp] theorem ix2_exc {c : Str} : ix2 i (.exc c ρ) = .exc c ρ := id rfl
def ix1 (i : Nat) (a : Dn.Env → Res D) (ρ : Dn.Env) (r : Res D) : Res R := bindR r fun _ _ => ix2 i (a ρ)
@[simp] theorem ix1_ok {x : D} {ρ' : Dn.Env} : ix1 i a ρ (.ok x ρ') = ix2 i (a ρ) := id rfl
@[simp] theorem eIxV_ap : eIxV i a ρ = ix1 i a ρ (ePk i ρ) := id rfl
def ofCall (r : Res R) (ρ : Dn.Env) : Res R := match r with
  | .ok r _ => .ok r ρ
  | .exc c _ => .exc c ρ
  | .bad => .bad
@[simp] theorem ofCall_ok {r : R} {ρ' : Dn.Env} : ofCall (.ok r ρ') ρ = .ok r ρ := id rfl
@[simp] theorem ofCall_exc {c : Str} {ρ' : Dn.Env} : ofCall (.exc c ρ') ρ = .exc c ρ := id rfl
def clk (n : Nat) (f : Dn.Env → Res R) (r : Res (List D)) : Res R := bindR r fun ds ρ1 => if ds.length = n then ofCall (f (vals ds)) ρ1 else .bad
@[simp] theorem clk_ok {n : Nat} {f : Dn.Env → Res R} {ds : List D} : clk n f (.ok ds ρ) = if ds.length = n then ofCall (f (vals ds)) ρ else .bad := id rfl
@[simp] theorem clk_exc {n : Nat} {f : Dn.Env → Res R} {c : Str} : clk n f (.exc c ρ) = .exc c ρ := id rfl
@[simp] theorem eCall_ap {n : Nat} {f : Dn.Env → Res R} {m : Dn.Env → Res (List D)} : eCall n f m ρ = clk n f (m ρ) := id rfl
@[simp] theorem vals_nil : vals [] = [] := id rfl
@[simp] theorem vals_cons {d : D} {ds : List D} : vals (d :: ds) = .val d :: vals ds := id rfl
@[simp] theorem lstAt_own {xs : List D} : lstAt (.own (.lst xs)) = some xs := id rfl
@[simp] theorem lstAt_bor {xs : List D} : lstAt (.bor (.lst xs)) = some xs := id rfl
@[simp] theorem lstTo_own {c : Cell} {xs : List D} : lstTo (.own c) xs = .own (.lst xs) := id rfl
@[simp] theorem lstTo_bor {c : Cell} {xs : List D} : lstTo (.bor c) xs = .bor (.lst xs) := id rfl
@[simp] theorem dicAt_own {xs : List (Key × D)} : dicAt (.own (.dic xs)) = some xs := id rfl
@[simp] theorem dicTo_own {c : Cell} {xs : List (Key × D)} : dicTo (.own c) xs = .own (.dic xs) := id rfl
def ap2 (i : Nat) (r : R) (s : Sl) (ρ : Dn.Env) : SR := match lstAt s with
  | some xs => if xs.length < 16777216 then .nx (sS ρ i (lstTo s (xs ++ [r.toD]))) else .bad
  | none => .bad
@[simp] theorem ap2_own {r : R} {xs : List D} : ap2 i r (.own (.lst xs)) ρ = if xs.length < 16777216 then .nx (sS ρ i (.own (.lst (xs ++ [r.toD])))) else .bad := id rfl
@[simp] theorem ap2_bor {r : R} {xs : List D} : ap2 i r (.bor (.lst xs)) ρ = if xs.length < 16777216 then .nx (sS ρ i (.bor (.lst (xs ++ [r.toD])))) else .bad := id rfl
def ap1 (i : Nat) (r : Res R) : SR := bindRS r fun r ρ1 => ap2 i r (gS ρ1 i) ρ1
@[simp] theorem ap1_ok {r : R} : ap1 i (.ok r ρ) = ap2 i r (gS ρ i) ρ := id rfl
@[simp] theorem ap1_exc {c : Str} : ap1 i (.exc c ρ) = .exc c ρ := id rfl
def apG (i : Nat) (k : Dn.Env → SR) (s : Sl) (ρ : Dn.Env) : SR := match lstAt s with
  | none => .bad
  | some _ => k ρ
@[simp] theorem apG_own {k : Dn.Env → SR} {xs : List D} : apG i k (.own (.lst xs)) ρ = k ρ := id rfl
@[simp] theorem apG_bor {k : Dn.Env → SR} {xs : List D} : apG i k (.bor (.lst xs)) ρ = k ρ := id rfl
def apK (i : Nat) (m : Dn.Env → Res R) : Dn.Env → SR := fun ρ => ap1 i (m ρ)
@[simp] theorem apK_ap : apK i m ρ = ap1 i (m ρ) := id rfl
@[simp] theorem sApp_ap : sApp i m ρ = apG i (apK i m) (gS ρ i) ρ := id rfl
def popS (i : Nat) (s : Sl) (ρ : Dn.Env) : Res R := match lstAt s with
  | some xs => match xs.getLast? with
    | some d => .ok (.val d) (sS ρ i (lstTo s xs.dropLast))
    | none => .bad
  | none => .bad
@[simp] theorem popS_own {xs : List D} {d : D} : popS i (.own (.lst (xs ++ [d]))) ρ = .ok (.val d) (sS ρ i (.own (.lst xs))) := by
  unfold popS
  simp
@[simp] theorem popS_bor {xs : List D} {d : D} : popS i (.bor (.lst (xs ++ [d]))) ρ = .ok (.val d) (sS ρ i (.bor (.lst xs))) := by
  unfold popS
  simp
@[simp] theorem ePop_ap : ePop i ρ = popS i (gS ρ i) ρ := id rfl
def ex2 (i : Nat) (r : R) (s : Sl) (ρ : Dn.Env) : SR := match lstAt s, r with
  | some xs, .fresh (.lst ys) => if xs.length + ys.length ≤ 16777216 then .nx (sS ρ i (lstTo s (xs ++ ys))) else .bad
  | _, _ => .bad
@[simp] theorem ex2_own {xs ys : List D} : ex2 i (.fresh (.lst ys)) (.own (.lst xs)) ρ = if xs.length + ys.length ≤ 16777216 then .nx (sS ρ i (.own (.lst (xs ++ ys)))) else .bad := id rfl
@[simp] theorem ex2_bor {xs ys : List D} : ex2 i (.fresh (.lst ys)) (.bor (.lst xs)) ρ = if xs.length + ys.length ≤ 16777216 then .nx (sS ρ i (.bor (.lst (xs ++ ys)))) else .bad := id rfl
def ex1 (i : Nat) (r : Res R) : SR := bindRS r fun r ρ1 => ex2 i r (gS ρ1 i) ρ1
@[simp] theorem ex1_ok {r : R} : ex1 i (.ok r ρ) = ex2 i r (gS ρ i) ρ := id rfl
def exK (i : Nat) (m : Dn.Env → Res R) : Dn.Env → SR := fun ρ => ex1 i (m ρ)
@[simp] theorem exK_ap : exK i m ρ = ex1 i (m ρ) := id rfl
@[simp] theorem sExt_ap : sExt i m ρ = apG i (exK i m) (gS ρ i) ρ := id rfl
def st3 (i : Nat) (x k : D) (s : Sl) (ρ : Dn.Env) : SR := match lstAt s, k with
  | some xs, .int n => match ixN xs.length n with
    | some j => .nx (sS ρ i (lstTo s (xs.set j x)))
    | none => .bad
  | _, _ => .bad
theorem ixN_get {n : Nat} {p : Int} (h0 : 0 ≤ p) (h1 : p < n) : ixN n p = some p.toNat := by
  unfold ixN
  rw [if_pos h0, if_pos h1]
@[simp] theorem st3_own {xs : List D} {x : D} {p : Int} (h0 : 0 ≤ p) (h1 : p < xs.length) : st3 i x (.int p) (.own (.lst xs)) ρ = .nx (sS ρ i (.own (.lst (xs.set p.toNat x)))) := by
  show (match ixN xs.length p with | some j => SR.nx (sS ρ i (.own (.lst (xs.set j x)))) | none => .bad) = _
  rw [ixN_get h0 h1]
@[simp] theorem st3_bor {xs : List D} {x : D} {p : Int} (h0 : 0 ≤ p) (h1 : p < xs.length) : st3 i x (.int p) (.bor (.lst xs)) ρ = .nx (sS ρ i (.bor (.lst (xs.set p.toNat x)))) := by
  show (match ixN xs.length p with | some j => SR.nx (sS ρ i (.bor (.lst (xs.set j x)))) | none => .bad) = _
  rw [ixN_get h0 h1]
def st2 (i : Nat) (x : D) (r : Res D) : SR := bindRS r fun k ρ2 => st3 i x k (gS ρ2 i) ρ2
@[simp] theorem st2_ok {x k : D} : st2 i x (.ok k ρ) = st3 i x k (gS ρ i) ρ := id rfl
def stK (i : Nat) (x : D) (b : Dn.Env → Res D) : Dn.Env → SR := fun ρ => st2 i x (b ρ)
@[simp] theorem stK_ap {x : D} : stK i x b ρ = st2 i x (b ρ) := id rfl
def st1 (i : Nat) (b : Dn.Env → Res D) (r : Res D) : SR := bindRS r fun x ρ1 => apG i (stK i x b) (gS ρ1 i) ρ1
@[simp] theorem st1_ok {x : D} : st1 i b (.ok x ρ) = apG i (stK i x b) (gS ρ i) ρ := id rfl
@[simp] theorem st1_exc {c : Str} : st1 i b (.exc c ρ) = .exc c ρ := id rfl
@[simp] theorem sSetL_ap : sSetL i a b ρ = st1 i b (a ρ) := id rfl
def dt3 (i : Nat) (x k : D) (s : Sl) (ρ : Dn.Env) : SR := match dicAt s, keyD k with
  | some kvs, some q => if kvs.length < 16777216 then .nx (sS ρ i (dicTo s (putD kvs q x))) else .bad
  | _, _ => .bad
def dpt (i : Nat) (x : D) (o : Option Key) (kvs : List (Key × D)) (ρ : Dn.Env) : SR := match o with
  | some q => if kvs.length < 16777216 then .nx (sS ρ i (.own (.dic (putD kvs q x)))) else .bad
  | none => .bad
@[simp] theorem dpt_some {x : D} {q : Key} {kvs : List (Key × D)} : dpt i x (some q) kvs ρ = if kvs.length < 16777216 then .nx (sS ρ i (.own (.dic (putD kvs q x)))) else .bad := id rfl
@[simp] theorem dt3_own {kvs : List (Key × D)} {x k : D} : dt3 i x k (.own (.dic kvs)) ρ = dpt i x (keyD k) kvs ρ := by
  show (match some kvs, keyD k with | some kvs, some q => if kvs.length < 16777216 then SR.nx (sS ρ i (.own (.dic (putD kvs q x)))) else .bad | _, _ => .bad) = _
  cases keyD k <;> rfl
def dt2 (i : Nat) (x : D) (r : Res D) : SR := bindRS r fun k ρ2 => dt3 i x k (gS ρ2 i) ρ2
@[simp] theorem dt2_ok {x k : D} : dt2 i x (.ok k ρ) = dt3 i x k (gS ρ i) ρ := id rfl
def dtK (i : Nat) (x : D) (b : Dn.Env → Res D) : Dn.Env → SR := fun ρ => dt2 i x (b ρ)
@[simp] theorem dtK_ap {x : D} : dtK i x b ρ = dt2 i x (b ρ) := id rfl
def dtG (i : Nat) (k : Dn.Env → SR) (s : Sl) (ρ : Dn.Env) : SR := match dicAt s with
  | none => .bad
  | some _ => k ρ
@[simp] theorem dtG_own {k : Dn.Env → SR} {kvs : List (Key × D)} : dtG i k (.own (.dic kvs)) ρ = k ρ := id rfl
def dt1 (i : Nat) (b : Dn.Env → Res D) (r : Res D) : SR := bindRS r fun x ρ1 => dtG i (dtK i x b) (gS ρ1 i) ρ1
@[simp] theorem dt1_ok {x : D} : dt1 i b (.ok x ρ) = dtG i (dtK i x b) (gS ρ i) ρ := id rfl
@[simp] theorem dt1_exc {c : Str} : dt1 i b (.exc c ρ) = .exc c ρ := id rfl
@[simp] theorem sSetD_ap : sSetD i a b ρ = dt1 i b (a ρ) := id rfl
@[simp] theorem eDic0_ap : eDic0 ρ = .ok (.fresh (.dic [])) ρ := id rfl
def di3 (neg : Bool) (ds : List (D × D)) (o : Option Key) (ρ : Dn.Env) : Res R := match o with
  | some q => .ok (.val (.bool (if neg then !(lookD ds q).isSome else (lookD ds q).isSome))) ρ
  | none => .bad
@[simp] theorem di3_pos {ds : List (D × D)} {q : Key} : di3 false ds (some q) ρ = .ok (.val (.bool (lookD ds q).isSome)) ρ := id rfl
@[simp] theorem di3_neg {ds : List (D × D)} {q : Key} : di3 true ds (some q) ρ = .ok (.val (.bool (!(lookD ds q).isSome))) ρ := id rfl
def di2 (neg : Bool) (k : D) (r : Res D) : Res R := bindR r fun d ρ2 => match d, keyD k with
  | .dict ds, some q => .ok (.val (.bool (if neg then !(lookD ds q).isSome else (lookD ds q).isSome))) ρ2
  | _, _ => .bad
@[simp] theorem di2_ok {neg : Bool} {k : D} {ds : List (D × D)} : di2 neg k (.ok (.dict ds) ρ) = di3 neg ds (keyD k) ρ := by
  show (match PyData.dict ds, keyD k with | .dict ds, some q => Res.ok (R.val (.bool (if neg then !(lookD ds q).isSome else (lookD ds q).isSome))) ρ | _, _ => .bad) = _
  cases keyD k <;> rfl
def di1 (neg : Bool) (i : Nat) (r : Res D) : Res R := bindR r fun k ρ1 => di2 neg k (ePk i ρ1)
@[simp] theorem di1_ok {neg : Bool} {k : D} : di1 neg i (.ok k ρ) = di2 neg k (ePk i ρ) := id rfl
@[simp] theorem eDin_ap {neg : Bool} : eDin neg i a ρ = di1 neg i (a ρ) := id rfl
@[simp] theorem sRaise_ap {c : Str} : sRaise c ρ = .exc c ρ := id rfl
@[simp] theorem bindS_ite {c : Prop} [Decidable c] {x y : SR} {k : Dn.Env → SR} : bindS (if c then x else y) k = if c then bindS x k else bindS y k := by split <;> rfl
@[simp] theorem bindRS_ite {c : Prop} [Decidable c] {x y : Res α} {k : α → Dn.Env → SR} : bindRS (if c then x else y) k = if c then bindRS x k else bindRS y k := by split <;> rfl
@[simp] theorem bindR_ite {c : Prop} [Decidable c] {x y : Res α} {k : α → Dn.Env → Res β} : bindR (if c then x else y) k = if c then bindR x k else bindR y k := by split <;> rfl
def isBor : Sl → Bool
  | .bor _ => true
  | _ => false
@[simp] theorem isBor_emp : isBor .emp = false := id rfl
@[simp] theorem isBor_val {d : D} : isBor (.val d) = false := id rfl
@[simp] theorem isBor_own {c : Cell} : isBor (.own c) = false := id rfl
def putS (s : Sl) (i : Nat) (r : Sl) (ρ : Dn.Env) : SR := match s with
  | .bor _ => .bad
  | _ => .nx (sS ρ i r)
@[simp] theorem putS_emp {r : Sl} {ρ : Dn.Env} : putS .emp i r ρ = .nx (sS ρ i r) := id rfl
@[simp] theorem putS_val {d : D} {r : Sl} {ρ : Dn.Env} : putS (.val d) i r ρ = .nx (sS ρ i r) := id rfl
@[simp] theorem putS_own {c : Cell} {r : Sl} {ρ : Dn.Env} : putS (.own c) i r ρ = .nx (sS ρ i r) := id rfl
theorem putS_nb {s : Sl} {r : Sl} {ρ : Dn.Env} (h : isBor s = false) : putS s i r ρ = .nx (sS ρ i r) := by cases s <;> first | rfl | cases h
@[simp] theorem putR_val {r : R} {ρ : Dn.Env} : putR i r ρ = putS (gS ρ i) i r.sl ρ := by
  rw [putR_ap]
  cases e : gS ρ i <;> rfl
def gNmS (s : Sl) (i : Nat) (r : Sl) (ρ : Dn.Env) : Option Dn.Env := match s with
  | .bor _ => none
  | _ => some (sS ρ i r)
@[simp] theorem gNmS_emp {r : Sl} {ρ : Dn.Env} : gNmS .emp i r ρ = some (sS ρ i r) := id rfl
@[simp] theorem gNmS_val {d : D} {r : Sl} {ρ : Dn.Env} : gNmS (.val d) i r ρ = some (sS ρ i r) := id rfl
@[simp] theorem gNmS_own {c : Cell} {r : Sl} {ρ : Dn.Env} : gNmS (.own c) i r ρ = some (sS ρ i r) := id rfl
theorem gNmS_nb {s : Sl} {r : Sl} {ρ : Dn.Env} (h : isBor s = false) : gNmS s i r ρ = some (sS ρ i r) := by cases s <;> first | rfl | cases h
@[simp] theorem gNm_val {d : D} {ρ : Dn.Env} : gNm i d ρ = gNmS (gS ρ i) i (.val d) ρ := by
  rw [gNm_ap]
  cases e : gS ρ i <;> rfl
@[simp] theorem toVk_ite {c : Prop} [Decidable c] {x y : Res R} : toVk (if c then x else y) = if c then toVk x else toVk y := by split <;> rfl
@[simp] theorem tBk_ite {c : Prop} [Decidable c] {x y : Res R} : tBk (if c then x else y) = if c then tBk x else tBk y := by split <;> rfl
@[simp] theorem sRk_ite {c : Prop} [Decidable c] {x y : Res R} : sRk (if c then x else y) = if c then sRk x else sRk y := by split <;> rfl
@[simp] theorem sAk_ite {c : Prop} [Decidable c] {x y : Res R} : sAk i (if c then x else y) = if c then sAk i x else sAk i y := by split <;> rfl
@[simp] theorem ap1_ite {c : Prop} [Decidable c] {x y : Res R} : ap1 i (if c then x else y) = if c then ap1 i x else ap1 i y := by split <;> rfl
@[simp] theorem sIk_ite {c : Prop} [Decidable c] {x y : Res Bool} : sIk s t (if c then x else y) = if c then sIk s t x else sIk s t y := by split <;> rfl
@[simp] theorem o1_ite {c : Prop} [Decidable c] {x y : Res D} {f : D → Option R} : o1 f (if c then x else y) = if c then o1 f x else o1 f y := by split <;> rfl
@[simp] theorem o2a_ite {c : Prop} [Decidable c] {x y : Res D} : o2a f b (if c then x else y) = if c then o2a f b x else o2a f b y := by split <;> rfl
@[simp] theorem ite_and {c : Prop} [Decidable c] {b : Bool} : (if c then Res.ok (R.val (.bool b)) ρ else .ok (.val (.bool false)) ρ) = .ok (.val (.bool (decide c && b))) ρ := by by_cases h : c <;> simp [h]
@[simp] theorem ite_or {c : Prop} [Decidable c] {b : Bool} : (if c then Res.ok (R.val (.bool true)) ρ else .ok (.val (.bool b)) ρ) = .ok (.val (.bool (decide c || b))) ρ := by by_cases h : c <;> simp [h]
@[simp] theorem ite_andT {c : Prop} [Decidable c] {b : Bool} : (if c then Res.ok b ρ else .ok false ρ) = .ok (decide c && b) ρ := by by_cases h : c <;> simp [h]
@[simp] theorem ite_orT {c : Prop} [Decidable c] {b : Bool} : (if c then Res.ok true ρ else .ok b ρ) = .ok (decide c || b) ρ := by by_cases h : c <;> simp [h]
@[simp] theorem toD_dic {kvs : List (Key × D)} : (Cell.dic kvs).toD = .dict (kvs.map fun p => (kd p.1, p.2)) := id rfl
@[simp] theorem keyD_int {i : Int} : keyD (.int i) = some (.inl i) := id rfl
@[simp] theorem keyD_str {z : Str} : keyD (.str z) = some (.inr z) := id rfl
@[simp] theorem kd_inl {i : Int} : kd (.inl i) = .int i := id rfl
@[simp] theorem kd_inr {z : Str} : kd (.inr z) = .str z := id rfl
/-! ### primitive operations -/
variable {p q : Int} {xs ys : List D} {ns : List Int} {v w : Str}
@[simp] theorem fAdd_int : fAdd (.int p) (.int q) = some (.val (.int (p + q))) := id rfl
@[simp] theorem fSub_int : fSub (.int p) (.int q) = some (.val (.int (p - q))) := id rfl
@[simp] theorem fNeg_int : fNeg (.int p) = some (.val (.int (-p))) := id rfl
@[simp] theorem fMul_r (h1 : -18446744073709551616 < q) (h2 : q < 18446744073709551616) : fMul (.int p) (.int q) = some (.val (.int (p * q))) := by
  show (if mulOk p q = true then _ else _) = _
  rw [if_pos]
  unfold mulOk
  rw [Bool.or_eq_true, Bool.or_eq_true]
  exact .inr (decide_eq_true ⟨h1, h2⟩)
@[simp] theorem fMul_l (h1 : -18446744073709551616 < p) (h2 : p < 18446744073709551616) : fMul (.int p) (.int q) = some (.val (.int (p * q))) := by
  show (if mulOk p q = true then _ else _) = _
  rw [if_pos]
  unfold mulOk
  rw [Bool.or_eq_true, Bool.or_eq_true]
  exact .inl (.inr (decide_eq_true ⟨h1, h2⟩))
@[simp] theorem fFdiv_pos (h1 : 0 < q) (h2 : q < 1073741824) : fFdiv (.int p) (.int q) = some (.val (.int (p / q))) := by
  show (if divOk q = true then _ else _) = _
  rw [if_pos, zdiv_pos h1]
  unfold divOk
  rw [Bool.or_eq_true]
  exact .inl (decide_eq_true ⟨by omega, by omega⟩)
@[simp] theorem fMod_pos (h1 : 0 < q) : fMod (.int p) (.int q) = some (.val (.int (p % q))) := by
  show (if q ≠ 0 then _ else _) = _
  rw [if_pos (by omega), zmod_pos h1]
@[simp] theorem fPow_ok (h1 : 0 ≤ q) (h2 : q ≤ 1000000) (h3 : -18446744073709551616 < p) (h4 : p < 18446744073709551616) : fPow (.int p) (.int q) = some (.val (.int (p ^ q.toNat))) := by
  show (if 0 ≤ q ∧ q ≤ 1000000 ∧ p.natAbs < 2 ^ 64 then _ else _) = _
  rw [if_pos ⟨h1, h2, by omega⟩]
@[simp] theorem fLt_int : fLt (.int p) (.int q) = some (.val (.bool (decide (p < q)))) := id rfl
@[simp] theorem fLe_int : fLe (.int p) (.int q) = some (.val (.bool (decide (p ≤ q)))) := id rfl
@[simp] theorem fGt_int : fGt (.int p) (.int q) = some (.val (.bool (decide (q < p)))) := id rfl
@[simp] theorem fGe_int : fGe (.int p) (.int q) = some (.val (.bool (decide (q ≤ p)))) := id rfl
@[simp] theorem fEq_int : fEq (.int p) (.int q) = some (.val (.bool (decide (p = q)))) := by
  show (if eqOk _ _ = true then _ else _) = _
  rw [if_pos (show eqOk (.int p) (.int q) = true from rfl)]
  rfl
@[simp] theorem fNe_int : fNe (.int p) (.int q) = some (.val (.bool (!decide (p = q)))) := by
  show (if eqOk _ _ = true then _ else _) = _
  rw [if_pos (show eqOk (.int p) (.int q) = true from rfl)]
  rfl
@[simp] theorem fEq_bool {p q : Bool} : fEq (.bool p) (.bool q) = some (.val (.bool (p == q))) := id rfl
@[simp] theorem fNe_bool {p q : Bool} : fNe (.bool p) (.bool q) = some (.val (.bool (!(p == q)))) := id rfl
@[simp] theorem fEq_str : fEq (.str v) (.str w) = some (.val (.bool (decide (v = w)))) := by
  show (if eqOk _ _ = true then _ else _) = _
  rw [if_pos (show eqOk (.str v) (.str w) = true from rfl)]
  rfl
@[simp] theorem fNe_str : fNe (.str v) (.str w) = some (.val (.bool (!decide (v = w)))) := by
  show (if eqOk _ _ = true then _ else _) = _
  rw [if_pos (show eqOk (.str v) (.str w) = true from rfl)]
  rfl
@[simp] theorem fIs_non {d : D} : fIs d .none = some (.val (.bool (isNon d))) := id rfl
@[simp] theorem fIsNot_non {d : D} : fIsNot d .none = some (.val (.bool (!isNon d))) := id rfl
@[simp] theorem fP_ap {k : D → Bool} {d : D} : fP k d = some (.val (.bool (k d))) := id rfl
@[simp] theorem fLen_list : fLen (.list xs) = some (.val (.int xs.length)) := id rfl
@[simp] theorem fLen_tuple : fLen (.tuple xs) = some (.val (.int xs.length)) := id rfl
@[simp] theorem fInt_int : fInt (.int p) = some (.val (.int p)) := id rfl
@[simp] theorem fAbs_int : fAbs (.int p) = some (.val (.int (if p < 0 then -p else p))) := id rfl
@[simp] theorem fTuple_list : fTuple (.list xs) = some (.val (.tuple xs)) := id rfl
@[simp] theorem fTuple_tuple : fTuple (.tuple xs) = some (.val (.tuple xs)) := id rfl
@[simp] theorem fList_list : fList (.list xs) = some (.fresh (.lst xs)) := id rfl
@[simp] theorem fList_tuple : fList (.tuple xs) = some (.fresh (.lst xs)) := id rfl
@[simp] theorem fTup_ok (h : xs.length ≤ 16777216) : fTup xs = some (.val (.tuple xs)) := if_pos h
@[simp] theorem fLst_ok (h : xs.length ≤ 16777216) : fLst xs = some (.fresh (.lst xs)) := if_pos h
@[simp] theorem fAdd_list (h : xs.length + ys.length ≤ 16777216) : fAdd (.list xs) (.list ys) = some (.fresh (.lst (xs ++ ys))) := if_pos h
@[simp] theorem fAdd_tuple (h : xs.length + ys.length ≤ 16777216) : fAdd (.tuple xs) (.tuple ys) = some (.val (.tuple (xs ++ ys))) := if_pos h
@[simp] theorem fAdd_str (h : v.length + w.length ≤ 16777216) : fAdd (.str v) (.str w) = some (.val (.str (v ++ w))) := if_pos h
def nth {α : Type} (xs : List α) (i : Nat) (d : α) : α := xs.getD i d
theorem nth_lt {α : Type} {xs : List α} {i : Nat} {d : α} (h : i < xs.length) : nth xs i d = xs[i] := by
  unfold nth
  rw [List.getD_eq_getElem?_getD, List.getElem?_eq_getElem h]
  rfl
theorem nth_mem {α : Type} {xs : List α} {i : Nat} {d : α} (h : i < xs.length) : nth xs i d ∈ xs := by rw [nth_lt h]; exact List.getElem_mem h
@[simp] theorem nth_zero {α : Type} {x : α} {xs : List α} {d : α} : nth (x :: xs) 0 d = x := id rfl
@[simp] theorem nth_succ {α : Type} {x : α} {xs : List α} {i : Nat} {d : α} : nth (x :: xs) (i + 1) d = nth xs i d := id rfl
theorem atI_get {α : Type} {xs : List α} {d : α} (h0 : 0 ≤ p) (h1 : p < xs.length) : atI xs p = some (nth xs p.toNat d) := by
  unfold atI ixN
  rw [if_pos h0, if_pos h1, Option.bind_some, List.getElem?_eq_getElem (by omega), nth_lt (by omega)]
@[simp] theorem fIx_list (h0 : 0 ≤ p) (h1 : p < xs.length) : fIx (.list xs) (.int p) = some (.val (nth xs p.toNat .none)) := by
  show (atI xs p).map R.val = _
  rw [atI_get (d := .none) h0 h1]
  rfl
@[simp] theorem fIx_tuple (h0 : 0 ≤ p) (h1 : p < xs.length) : fIx (.tuple xs) (.int p) = some (.val (nth xs p.toNat .none)) := by
  show (atI xs p).map R.val = _
  rw [atI_get (d := .none) h0 h1]
  rfl
theorem nth_map {α : Type} {f : α → D} {xs : List α} {n : Nat} {d : α} (h : n < xs.length) : nth (xs.map f) n .none = f (nth xs n d) := by
  rw [nth_lt h, nth_lt (by rw [List.length_map]; exact h), List.getElem_map]
@[simp high] theorem fIx_ints (h0 : 0 ≤ p) (h1 : p < ns.length) : fIx (.list (ns.map .int)) (.int p) = some (.val (.int (nth ns p.toNat 0))) := by
  rw [fIx_list h0 (by rw [List.length_map]; exact h1), nth_map (d := 0) (by omega)]
@[simp high] theorem fIx_tints (h0 : 0 ≤ p) (h1 : p < ns.length) : fIx (.tuple (ns.map .int)) (.int p) = some (.val (.int (nth ns p.toNat 0))) := by
  rw [fIx_tuple h0 (by rw [List.length_map]; exact h1), nth_map (d := 0) (by omega)]
theorem fIx_str (h0 : 0 ≤ p) (h1 : p < v.length) (h2 : v.length ≤ 16777216) : fIx (.str v) (.int p) = some (.val (.str ⟨#[nth v.cps.toList p.toNat 0]⟩)) := by
  show (if v.length ≤ 16777216 then _ else _) = _
  rw [if_pos h2, atI_get (d := 0) h0 (by rw [Array.length_toList]; exact h1)]
  rfl
theorem atI_last {α : Type} {xs : List α} {d : α} (h1 : xs ≠ []) : atI xs (-1) = some (xs.getLastD d) := by
  have h : 0 < xs.length := List.length_pos_iff.mpr h1
  unfold atI ixN
  rw [if_neg (by omega), if_pos (by omega), Option.bind_some, List.getLastD_eq_getLast?, List.getLast?_eq_getElem?, List.getElem?_eq_getElem (by omega), List.getElem?_eq_getElem (by omega)]
  show some _ = some (xs[xs.length - 1])
  congr 1
  congr 1
  omega
theorem fIx_tlast (h : ns ≠ []) : fIx (.tuple (ns.map .int)) (.int (-1)) = some (.val (.int (nth ns (ns.length - 1) 0))) := by
  have h0 := List.length_pos_iff.mpr h
  show (atI (ns.map PyData.int) (-1)).map R.val = _
  rw [atI_last (d := .none) (by simpa using h), List.getLastD_eq_getLast?, List.getLast?_eq_getElem?, List.length_map, List.getElem?_map, List.getElem?_eq_getElem (by omega), nth_lt (by omega)]
  rfl
@[simp] theorem sIx_none {n d : Nat} : HT.sIx n d none = d := id rfl
theorem sIx_nn {n d : Nat} {v : Int} (h : 0 ≤ v) : HT.sIx n d (some v) = min v.toNat n := by
  show (if v < 0 then _ else _) = _
  rw [if_neg (by omega)]
@[simp] theorem cut_lo (h : 0 ≤ p) : cutD xs (some p) none = xs.drop p.toNat := by
  unfold cutD
  rw [sIx_nn h, sIx_none]
  by_cases c : p.toNat ≤ xs.length
  · rw [Nat.min_eq_left c, List.take_of_length_le (by rw [List.length_drop]; omega)]
  · rw [Nat.min_eq_right (by omega), List.drop_of_length_le (Nat.le_refl _), List.drop_of_length_le (by omega), List.take_nil]
@[simp] theorem cut_hi (h : 0 ≤ p) : cutD xs none (some p) = xs.take p.toNat := by
  unfold cutD
  rw [sIx_nn h, sIx_none, List.drop_zero, Nat.sub_zero]
  by_cases c : p.toNat ≤ xs.length
  · rw [Nat.min_eq_left c]
  · rw [Nat.min_eq_right (by omega), List.take_of_length_le (Nat.le_refl _), List.take_of_length_le (by omega)]
@[simp] theorem cut_both (h0 : 0 ≤ p) (h1 : 0 ≤ q) : cutD xs (some p) (some q) = (xs.take q.toNat).drop p.toNat := by
  unfold cutD
  rw [sIx_nn h0, sIx_nn h1]
  apply List.ext_getElem?
  intro k
  rw [List.getElem?_drop, List.getElem?_take, List.getElem?_take, List.getElem?_drop]
  by_cases a : p.toNat ≤ xs.length
  · rw [Nat.min_eq_left a]
    by_cases b : q.toNat ≤ xs.length
    · rw [Nat.min_eq_left b]
      by_cases c : k < q.toNat - p.toNat
      · rw [if_pos c, if_pos (by omega)]
      · rw [if_neg c, if_neg (by omega)]
    · rw [Nat.min_eq_right (by omega)]
      by_cases c : k < xs.length - p.toNat
      · rw [if_pos c, if_pos (by omega)]
      · rw [if_neg c]
        split
        · rw [List.getElem?_eq_none (by omega)]
        · rfl
  · rw [Nat.min_eq_right (a := p.toNat) (b := xs.length) (by omega), List.getElem?_eq_none (i := xs.length + k) (by omega), List.getElem?_eq_none (i := p.toNat + k) (by omega)]
    simp
@[simp] theorem fSl_list {lo hi : Option Int} : fSl (.list xs) lo hi = some (.fresh (.lst (cutD xs lo hi))) := id rfl
@[simp] theorem fSl_tuple {lo hi : Option Int} : fSl (.tuple xs) lo hi = some (.val (.tuple (cutD xs lo hi))) := id rfl
@[simp] theorem fSl_str {lo hi : Option Int} (h : v.length ≤ 16777216) : fSl (.str v) lo hi = some (.val (.str (cutS v lo hi))) := if_pos h
end

theorem seq_nx {P : SR → Prop} {s t : Dn.Env → SR} {ρ ρ1 : Dn.Env} (h : s ρ = .nx ρ1) (h2 : P (t ρ1)) : P (sSeq s t ρ) := by
  rw [sSeq_ap, h]
  exact h2
theorem if_yes {P : SR → Prop} {c : Dn.Env → Res Bool} {s t : Dn.Env → SR} {ρ ρ1 : Dn.Env} (h : c ρ = .ok true ρ1) (h2 : P (s ρ1)) : P (sIf c s t ρ) := by
  rw [sIf_ap, h]
  exact h2
theorem if_no {P : SR → Prop} {c : Dn.Env → Res Bool} {s t : Dn.Env → SR} {ρ ρ1 : Dn.Env} (h : c ρ = .ok false ρ1) (h2 : P (t ρ1)) : P (sIf c s t ρ) := by
  rw [sIf_ap, h]
  exact h2
theorem if_yes' {P : SR → Prop} {c : Dn.Env → Res Bool} {s t : Dn.Env → SR} {ρ : Dn.Env} (h : c ρ = .ok true ρ) (h2 : P (s ρ)) : P (sIf c s t ρ) := if_yes h h2
theorem if_no' {P : SR → Prop} {c : Dn.Env → Res Bool} {s t : Dn.Env → SR} {ρ : Dn.Env} (h : c ρ = .ok false ρ) (h2 : P (t ρ)) : P (sIf c s t ρ) := if_no h h2
theorem if_by {P : SR → Prop} {c : Dn.Env → Res Bool} {s t : Dn.Env → SR} {ρ ρ1 : Dn.Env} {b : Bool} (h : c ρ = .ok b ρ1) (h1 : b = true → P (s ρ1)) (h2 : b = false → P (t ρ1)) : P (sIf c s t ρ) := by
  cases b
  · exact if_no h (h2 rfl)
  · exact if_yes h (h1 rfl)
theorem for_of {P : SR → Prop} {g : D → Dn.Env → Option Dn.Env} {m : Dn.Env → Res (List D)} {s : Dn.Env → SR} {ρ ρ1 : Dn.Env} {ds : List D} (h : m ρ = .ok ds ρ1) (h2 : P (forL g s ds ρ1)) : P (sFor g m s ρ) := by
  rw [sFor_ap, h]
  exact h2

/-! ### a def's result -/
def Ret (n : Nat) (r : R) (s : SR) : Prop := ∃ ρ, s = .ret r ρ ∧ n ≤ ρ.length
def Exc (n : Nat) (c : Str) (s : SR) : Prop := ∃ ρ, s = .exc c ρ ∧ n ≤ ρ.length
@[simp] theorem Ret_ret {n : Nat} {r r' : R} {ρ : Dn.Env} : Ret n r (.ret r' ρ) ↔ r' = r ∧ n ≤ ρ.length := by
  constructor
  · rintro ⟨ρ', h, l⟩
    cases h
    exact ⟨rfl, l⟩
  · rintro ⟨rfl, l⟩
    exact ⟨_, rfl, l⟩
@[simp] theorem Exc_exc {n : Nat} {c c' : Str} {ρ : Dn.Env} : Exc n c (.exc c' ρ) ↔ c' = c ∧ n ≤ ρ.length := by
  constructor
  · rintro ⟨ρ', h, l⟩
    cases h
    exact ⟨rfl, l⟩
  · rintro ⟨rfl, l⟩
    exact ⟨_, rfl, l⟩
def ExRet {α : Type} (n : Nat) (φ : α → Prop) (f : α → R) (s : SR) : Prop := ∃ x, φ x ∧ Ret n (f x) s
theorem ExRet_of {α : Type} {n : Nat} {φ : α → Prop} {f : α → R} {ρ : Dn.Env} (x : α) (h : φ x) (l : n ≤ ρ.length) : ExRet n φ f (.ret (f x) ρ) := ⟨x, h, Ret_ret.mpr ⟨rfl, l⟩⟩
theorem ExRet_ret {α : Type} {n : Nat} {φ : α → Prop} {f : α → R} {r : R} {s : SR} {ρ : Dn.Env} (e : s = .ret r ρ) (x : α) (h : φ x) (er : r = f x) (l : n ≤ ρ.length) : ExRet n φ f s := by
  rw [e, er]
  exact ExRet_of x h l
theorem backA_vals : ∀ (ds : List D) (ρ : Dn.Env), ds.length ≤ ρ.length → backA (vals ds) ρ = some (vals ds)
  | [], _, _ => rfl
  | d :: ds, [], h => by simp at h
  | d :: ds, s :: ρ, h => by
    show (backA (vals ds) ρ).map _ = _
    rw [backA_vals ds ρ (by simpa using h)]
    rfl
theorem vals_len (ds : List D) : (vals ds).length = ds.length := List.length_map _
theorem mkF_ret {n m : Nat} {b : Dn.Env → SR} {ds : List D} {r : R} (hl : ds.length = n) (h : Ret n r (b (vals ds ++ List.replicate (m - n) .emp))) : mkF n m b (vals ds) = .ok r (vals ds) := by
  obtain ⟨ρ, e, l⟩ := h
  unfold mkF
  rw [if_pos (by rw [vals_len, hl]), e]
  show (match backA (vals ds) ρ with | some a => Res.ok r a | none => .bad) = _
  rw [backA_vals ds ρ (by omega)]
theorem mkF_exc {n m : Nat} {b : Dn.Env → SR} {ds : List D} {c : Str} (hl : ds.length = n) (h : Exc n c (b (vals ds ++ List.replicate (m - n) .emp))) : mkF n m b (vals ds) = .exc c (vals ds) := by
  obtain ⟨ρ, e, l⟩ := h
  unfold mkF
  rw [if_pos (by rw [vals_len, hl]), e]
  show (match backA (vals ds) ρ with | some a => Res.exc c a | none => .bad) = _
  rw [backA_vals ds ρ (by omega)]

theorem mkF_ex {α : Type} {n m : Nat} {b : Dn.Env → SR} {ds : List D} {φ : α → Prop} {f : α → R} (hl : ds.length = n) (h : ExRet n φ f (b (vals ds ++ List.replicate (m - n) .emp))) : ∃ x, φ x ∧ mkF n m b (vals ds) = .ok (f x) (vals ds) := by
  obtain ⟨x, hx, q⟩ := h
  exact ⟨x, hx, mkF_ret hl q⟩
/-! ### loops -/
/-- behind a turn: J holds of what goes on, P of what ends the loop -/
def FL (P : SR → Prop) (k : Dn.Env → SR) (J : Dn.Env → Prop) : SR → Prop
  | .nx ρ => J ρ
  | .cnt ρ => J ρ
  | .brk ρ => P (k ρ)
  | .ret r ρ => P (.ret r ρ)
  | .exc c ρ => P (.exc c ρ)
  | .bad => P .bad
section
variable {P : SR → Prop} {k : Dn.Env → SR} {J : Dn.Env → Prop} {ρ : Dn.Env} {g : D → Dn.Env → Option Dn.Env} {b : Dn.Env → SR}
@[simp] theorem FL_nx : FL P k J (.nx ρ) ↔ J ρ := .rfl
@[simp] theorem FL_cnt : FL P k J (.cnt ρ) ↔ J ρ := .rfl
@[simp] theorem FL_brk : FL P k J (.brk ρ) ↔ P (k ρ) := .rfl
@[simp] theorem FL_ret {r : R} : FL P k J (.ret r ρ) ↔ P (.ret r ρ) := .rfl
@[simp] theorem FL_exc {c : Str} : FL P k J (.exc c ρ) ↔ P (.exc c ρ) := .rfl
theorem FL_of {s : SR} (h : s = .nx ρ) (j : J ρ) : FL P k J s := by rw [h]; exact j
theorem for_rule (I : List D → Dn.Env → Prop) : ∀ {ds : List D} {ρ : Dn.Env}, I ds ρ → (∀ d r ρ, I (d :: r) ρ → ∃ ρ1, g d ρ = some ρ1 ∧ FL P k (I r) (b ρ1)) → (∀ ρ, I [] ρ → P (k ρ)) → P (bindS (forL g b ds ρ) k)
  | [], ρ, h, _, he => he ρ h
  | d :: r, ρ, h, hs, he => by
    obtain ⟨ρ1, e, q⟩ := hs d r ρ h
    unfold forL
    rw [e]
    dsimp only
    cases eb : b ρ1 with
    | nx ρ2 => rw [eb] at q; exact for_rule I q hs he
    | cnt ρ2 => rw [eb] at q; exact for_rule I q hs he
    | brk ρ2 => rw [eb] at q; exact q
    | ret r ρ2 => rw [eb] at q; exact q
    | exc c ρ2 => rw [eb] at q; exact q
    | bad => rw [eb] at q; exact q
theorem bindS_id (s : SR) : bindS s .nx = s := by cases s <;> rfl
/-- the loop as a def's last statement -/
theorem for_last (I : List D → Dn.Env → Prop) {ds : List D} {ρ : Dn.Env} (h : I ds ρ) (hs : ∀ d r ρ, I (d :: r) ρ → ∃ ρ1, g d ρ = some ρ1 ∧ FL P .nx (I r) (b ρ1)) (he : ∀ ρ, I [] ρ → P (.nx ρ)) : P (forL g b ds ρ) := by
  rw [← bindS_id (forL g b ds ρ)]
  exact for_rule I h hs he
/-- by the place -/
theorem for_ix (I : Nat → Dn.Env → Prop) {ds : List D} {ρ : Dn.Env} (h : I 0 ρ) (hs : ∀ i (hi : i < ds.length) ρ, I i ρ → ∃ ρ1, g ds[i] ρ = some ρ1 ∧ FL P k (I (i + 1)) (b ρ1)) (he : ∀ ρ, I ds.length ρ → P (k ρ)) : P (bindS (forL g b ds ρ) k) := by
  refine for_rule (fun r ρ => ∃ i, i ≤ ds.length ∧ r = ds.drop i ∧ I i ρ) ⟨0, Nat.zero_le _, rfl, h⟩ (fun d r ρ ⟨i, hi, e, z⟩ => ?_) (fun ρ ⟨i, hi, e, z⟩ => ?_)
  · have hi2 : i < ds.length := by
      have := congrArg List.length e
      rw [List.length_cons, List.length_drop] at this
      omega
    rw [List.drop_eq_getElem_cons hi2] at e
    cases e
    obtain ⟨ρ1, e1, q⟩ := hs i hi2 ρ z
    refine ⟨ρ1, e1, ?_⟩
    cases eb : b ρ1 <;> rw [eb] at q
    case nx ρ2 => exact ⟨i + 1, hi2, rfl, q⟩
    case cnt ρ2 => exact ⟨i + 1, hi2, rfl, q⟩
    all_goals exact q
  · have : i = ds.length := by
      have := congrArg List.length e
      rw [List.length_nil, List.length_drop] at this
      omega
    subst this
    exact he ρ z
theorem rgD_len {lo : Int} {n : Nat} : (rgD lo n).length = n := by simp [rgD]
theorem rgD_get {lo : Int} {n i : Nat} (h : i < (rgD lo n).length) : (rgD lo n)[i] = .int (lo + i) := by simp [rgD]
theorem for_rg (I : Nat → Dn.Env → Prop) {lo : Int} {n : Nat} {ρ : Dn.Env} (h : I 0 ρ) (hs : ∀ i, i < n → ∀ ρ, I i ρ → ∃ ρ1, g (.int (lo + i)) ρ = some ρ1 ∧ FL P k (I (i + 1)) (b ρ1)) (he : ∀ ρ, I n ρ → P (k ρ)) : P (bindS (forL g b (rgD lo n) ρ) k) :=
  for_ix I h (fun i hi ρ z => by rw [rgD_get hi]; exact hs i (by rw [rgD_len] at hi; exact hi) ρ z) (fun ρ z => he ρ (by rw [rgD_len] at z; exact z))
theorem for_lrg (I : Nat → Dn.Env → Prop) {lo : Int} {n : Nat} {ρ : Dn.Env} (h : I 0 ρ) (hs : ∀ i, i < n → ∀ ρ, I i ρ → ∃ ρ1, g (.int (lo + i)) ρ = some ρ1 ∧ FL P .nx (I (i + 1)) (b ρ1)) (he : ∀ ρ, I n ρ → P (.nx ρ)) : P (forL g b (rgD lo n) ρ) := by
  rw [← bindS_id (forL g b (rgD lo n) ρ)]
  exact for_rg I h hs he
theorem while_rule {t : Dn.Env → Res Bool} (I : Nat → Dn.Env → Prop) : ∀ {n m : Nat} {ρ : Dn.Env}, m < n → I m ρ → (∀ m ρ, I m ρ → ∃ c ρ1, t ρ = .ok c ρ1 ∧ (c = false → P (k ρ1)) ∧ (c = true → FL P k (fun ρ' => ∃ m', m' < m ∧ I m' ρ') (b ρ1))) → P (bindS (whileL t b n ρ) k)
  | 0, m, ρ, hm, _, _ => absurd hm (Nat.not_lt_zero _)
  | n + 1, m, ρ, hm, h, hs => by
    obtain ⟨c, ρ1, e, h0, h1⟩ := hs m ρ h
    unfold whileL
    rw [e]
    cases c with
    | false => exact h0 rfl
    | true =>
      have q := h1 rfl
      show P (bindS (match b ρ1 with
        | .nx ρ2 => whileL t b n ρ2
        | .cnt ρ2 => whileL t b n ρ2
        | .brk ρ2 => .nx ρ2
        | .ret r ρ2 => .ret r ρ2
        | .exc c ρ2 => .exc c ρ2
        | .bad => .bad) k)
      cases eb : b ρ1 with
      | nx ρ2 =>
        rw [eb] at q
        obtain ⟨m', hm', z⟩ := q
        exact while_rule I (by omega) z hs
      | cnt ρ2 =>
        rw [eb] at q
        obtain ⟨m', hm', z⟩ := q
        exact while_rule I (by omega) z hs
      | brk ρ2 => rw [eb] at q; exact q
      | ret r ρ2 => rw [eb] at q; exact q
      | exc c ρ2 => rw [eb] at q; exact q
      | bad => rw [eb] at q; exact q
theorem swhile_rule {t : Dn.Env → Res Bool} (I : Nat → Dn.Env → Prop) {m : Nat} {ρ : Dn.Env} (hm : m < 1000000000000000000) (h : I m ρ) (hs : ∀ m ρ, I m ρ → ∃ c ρ1, t ρ = .ok c ρ1 ∧ (c = false → P (k ρ1)) ∧ (c = true → FL P k (fun ρ' => ∃ m', m' < m ∧ I m' ρ') (b ρ1))) : P (bindS (sWhile t b ρ) k) := by
  rw [sWhile_ap]
  exact while_rule I (n := fuel) (by rw [fuel_eq]; exact hm) h hs
end
end Dn
set_option Elab.async false
set_option linter.all false
set_option maxRecDepth 100000
/-! Dm2: texts -/
namespace Dn
open PySem L2
open PySem.Builtin.Str (occurrences subAt)
theorem sub1 (w : Str) (c i : Nat) : subAt w ⟨#[c]⟩ i = true ↔ w.cps.toList[i]? = some c := by
  obtain ⟨⟨l⟩⟩ := w
  unfold subAt
  rw [beq_iff_eq]
  show (l.toArray).extract i (i + 1) = #[c] ↔ l[i]? = some c
  simp only [List.extract_toArray]
  rw [← Array.toList_inj]
  simp only [List.extract_eq_drop_take]
  show (l.drop i).take (i + 1 - i) = [c] ↔ _
  rw [show i + 1 - i = 1 by omega]
  by_cases h : i < l.length
  · rw [List.drop_eq_getElem_cons h, List.getElem?_eq_getElem h, List.take_succ_cons, List.take_zero]
    simp only [List.cons.injEq, and_true, Option.some.injEq]
  · rw [List.drop_of_length_le (by omega), List.getElem?_eq_none (by omega)]
    simp
theorem in1 (w : Str) (c : Nat) : (!(occurrences w ⟨#[c]⟩ 0 w.length 1).isEmpty) = decide (c ∈ w.cps.toList) := by
  rw [Bool.eq_iff_iff, StrLaws.found_iff, decide_eq_true_iff]
  constructor
  · rintro ⟨i, _, h⟩
    exact List.mem_of_getElem? ((sub1 w c i).mp h)
  · intro h
    obtain ⟨i, hi, e⟩ := List.getElem_of_mem h
    refine ⟨i, ?_, (sub1 w c i).mpr (by rw [List.getElem?_eq_getElem hi, e])⟩
    show i + 1 ≤ w.length
    have : w.cps.toList.length = w.length := rfl
    omega
theorem fIn1 (w : Str) (c : Nat) : fIn (.str ⟨#[c]⟩) (.str w) = some (.val (.bool (decide (c ∈ w.cps.toList)))) := by
  show some (R.val (.bool (!(occurrences w ⟨#[c]⟩ 0 w.length 1).isEmpty))) = _
  rw [in1]
theorem fNotIn1 (w : Str) (c : Nat) : fNotIn (.str ⟨#[c]⟩) (.str w) = some (.val (.bool (!decide (c ∈ w.cps.toList)))) := by
  show some (R.val (.bool (!(!(occurrences w ⟨#[c]⟩ 0 w.length 1).isEmpty)))) = _
  rw [in1]
theorem str_lit (s : String) : (Str.ofString s).cps.toList = s.toList.map Char.toNat := by rw [Str.ofString_eq_toList]
@[simp] theorem fLen_str {v : Str} (h : v.length ≤ 16777216) : fLen (.str v) = some (.val (.int v.length)) := if_pos h
@[simp] theorem truD_str {v : Str} (h : v.length ≤ 16777216) : truD (.str v) = some ((v.length : Int) != 0) := if_pos h
@[simp] theorem fStr_int {i : Int} (h : i.natAbs.log2 < 1920) : fStr (.int i) = some (.val (.str (toString i))) := if_pos h
@[simp] theorem len1 {c : Nat} : Str.length ⟨#[c]⟩ = 1 := id rfl
theorem ext_str {v w : Str} (h : v.cps.toList = w.cps.toList) : v = w := by
  obtain ⟨⟨a⟩⟩ := v; obtain ⟨⟨b⟩⟩ := w
  simp at h
  rw [h]
/-! ### dicts -/
theorem look_some {kvs : List (Key × D)} {q : Key} : (lookD (kvs.map fun p => (kd p.1, p.2)) q).isSome = kvs.any fun p => decide (p.1 = q) := by
  rw [lookD_map]
  unfold lookC
  induction kvs with
  | nil => rfl
  | cons p r ih =>
    rw [List.find?_cons, List.any_cons]
    cases h : decide (p.1 = q) with
    | true => rfl
    | false => exact ih
theorem put_new {kvs : List (Key × D)} {q : Key} {d : D} (h : (kvs.any fun p => decide (p.1 = q)) = false) : putD kvs q d = kvs ++ [(q, d)] := by
  unfold putD
  rw [if_neg (by rw [h]; decide)]
/-! ### str(n) -/
def digits (n : Nat) : List Nat := (Nat.toDigits 10 n).map Char.toNat
theorem str_nat (n : Nat) : (toString (n : Int) : Str).cps.toList = digits n := by
  rw [str_lit]
  show (Nat.repr n).toList.map _ = _
  rw [Nat.toList_repr]
  rfl
theorem str_int {i : Int} (h : 0 ≤ i) : (toString i : Str).cps.toList = digits i.toNat := by
  have := str_nat i.toNat
  rw [Int.toNat_of_nonneg h] at this
  exact this
theorem digits_mem {n c : Nat} (h : c ∈ digits n) : 48 ≤ c ∧ c ≤ 57 := by
  obtain ⟨d, hd, rfl⟩ := List.mem_map.mp h
  have := Nat.isDigit_of_mem_toDigits (by decide) (by decide) hd
  unfold Char.isDigit at this
  simp at this
  exact ⟨this.1, this.2⟩
theorem digits_le {n k : Nat} (h : 0 < k) : (digits n).length ≤ k ↔ n < 10 ^ k := by
  unfold digits
  rw [List.length_map]
  exact Nat.length_toDigits_le_iff (by decide) h
theorem log_small {i : Int} (h : i.natAbs < 2 ^ 1000) : i.natAbs.log2 < 1920 := by
  by_cases c : i.natAbs = 0
  · rw [c]; decide
  · have := (Nat.log2_lt c).mpr h
    omega
end Dn
set_option Elab.async false
set_option linter.all false
set_option maxRecDepth 100000
/-! Dm3: equality by value, weights, plain data; a def's end without return -/
namespace Dn
open PySem L2
def same1 : D → D → Bool
  | .none, .none => true
  | .bool a, .bool b => a == b
  | .int a, .int b => decide (a = b)
  | .str a, .str b => decide (a = b)
  | _, _ => false
mutual
def wt : D → Nat
  | .tuple xs => 1 + wtL xs
  | _ => 1
def wtL : List D → Nat
  | [] => 0
  | x :: r => wt x + wtL r
end
mutual
def sameD : D → D → Bool
  | .tuple xs, .tuple ys => sameL xs ys
  | .tuple _, _ => false
  | _, .tuple _ => false
  | .none, b => same1 .none b
  | .bool a, b => same1 (.bool a) b
  | .int a, b => same1 (.int a) b
  | .str a, b => same1 (.str a) b
  | .list _, _ => false
  | .dict _, _ => false
def sameL : List D → List D → Bool
  | [], [] => true
  | x :: xs, y :: ys => sameD x y && sameL xs ys
  | _, _ => false
end
theorem sameD_1 (a b : D) (ha : isTup a = false) (hb : isTup b = false) : sameD a b = same1 a b := by
  cases a <;> cases b <;> first | (cases ha; done) | (cases hb; done) | simp [sameD, same1]
theorem wt_pos (d : D) : 1 ≤ wt d := by cases d <;> simp [wt]
theorem wtL_app : ∀ (xs ys : List D), wtL (xs ++ ys) = wtL xs + wtL ys
  | [], ys => by simp [wtL]
  | x :: xs, ys => by
    show wt x + wtL (xs ++ ys) = wt x + wtL xs + wtL ys
    rw [wtL_app xs ys]
    omega
def pr (p : D × D) : D := .tuple [p.1, p.2]
def wS (st : List (D × D)) : Nat := wtL (st.map (·.1))
def okS (st : List (D × D)) : Bool := st.all fun p => sameD p.1 p.2
theorem wS_len (st : List (D × D)) : st.length ≤ wS st := by
  induction st with
  | nil => exact Nat.zero_le _
  | cons p r ih =>
    have := wt_pos p.1
    show r.length + 1 ≤ wt p.1 + wS r
    omega
theorem sameL_len : ∀ {xs ys : List D}, sameL xs ys = true → xs.length = ys.length
  | [], [], _ => rfl
  | [], _ :: _, h => by simp [sameL] at h
  | _ :: _, [], h => by simp [sameL] at h
  | x :: xs, y :: ys, h => by
    simp [sameL] at h
    rw [List.length_cons, List.length_cons, sameL_len h.2]
theorem sameL_zip : ∀ {xs ys : List D}, xs.length = ys.length → sameL xs ys = (xs.zip ys).all fun p => sameD p.1 p.2
  | [], [], _ => rfl
  | [], _ :: _, h => by cases h
  | _ :: _, [], h => by cases h
  | x :: xs, y :: ys, h => by
    rw [List.zip_cons_cons, List.all_cons, ← sameL_zip (by simpa using h)]
    rfl
mutual
def plainD : D → Bool
  | .tuple xs => plainL xs
  | .list _ => false
  | .dict _ => false
  | _ => true
def plainL : List D → Bool
  | [] => true
  | x :: xs => plainD x && plainL xs
end
theorem plainL_all : ∀ xs : List D, plainL xs = xs.all plainD
  | [] => rfl
  | x :: xs => by
    rw [List.all_cons, ← plainL_all xs]
    rfl
theorem wtL_len : ∀ l : List D, l.length ≤ wtL l
  | [] => Nat.zero_le _
  | d :: r => by
    have := wt_pos d
    have := wtL_len r
    show r.length + 1 ≤ wt d + wtL r
    omega

/-- a def that ends without return -/
def Nxt (n : Nat) (s : SR) : Prop := ∃ ρ, s = .nx ρ ∧ n ≤ ρ.length
@[simp] theorem Nxt_nx {n : Nat} {ρ : Dn.Env} : Nxt n (.nx ρ) ↔ n ≤ ρ.length := by
  constructor
  · rintro ⟨ρ', h, l⟩
    cases h
    exact l
  · exact fun l => ⟨_, rfl, l⟩
theorem mkF_nxt {n m : Nat} {b : Dn.Env → SR} {ds : List D} (hl : ds.length = n) (h : Nxt n (b (vals ds ++ List.replicate (m - n) .emp))) : mkF n m b (vals ds) = .ok (.val .none) (vals ds) := by
  obtain ⟨ρ, e, l⟩ := h
  unfold mkF
  rw [if_pos (by rw [vals_len, hl]), e]
  show (match backA (vals ds) ρ with | some a => Res.ok (R.val .none) a | none => .bad) = _
  rw [backA_vals ds ρ (by omega)]
/-! ### try -/
def tryK (i : Nat) (h : Str → Option (Option D)) : SR → SR
  | .exc c ρ1 => match h c with
    | some (some v) => if i < ρ1.length ∧ okV v = true then .ret (.val v) ρ1 else .bad
    | some none => .exc c ρ1
    | none => .bad
  | r => r
section
variable {i : Nat} {h : Str → Option (Option D)} {ρ : Dn.Env} {b : Dn.Env → SR} {r : R} {v : D}
@[simp] theorem sTryR_ap : sTryR i b h ρ = tryK i h (b ρ) := by
  unfold sTryR tryK
  cases b ρ <;> rfl
@[simp] theorem tryK_nx : tryK i h (.nx ρ) = .nx ρ := id rfl
@[simp] theorem tryK_ret : tryK i h (.ret r ρ) = .ret r ρ := id rfl
theorem tryK_h1 {c : Str} (hv : okV v = true) (hl : i < ρ.length) : tryK i (h1 c v) (.exc c ρ) = .ret (.val v) ρ := by
  show (match (if c = c then some (some v) else none : Option (Option D)) with
    | some (some v) => if i < ρ.length ∧ okV v = true then SR.ret (.val v) ρ else .bad
    | some none => .exc c ρ
    | none => .bad) = _
  rw [if_pos rfl]
  exact if_pos ⟨hl, hv⟩
end
/-! ### numbers -/
def Bd (k : Nat) (p : Int) : Prop := p.natAbs < 2 ^ k
theorem Bd.log {k : Nat} {p : Int} (h : Bd k p) (hk : 0 < k) : p.natAbs.log2 < k := by
  by_cases c : p.natAbs = 0
  · rw [c]; exact hk
  · exact (Nat.log2_lt c).mpr h
theorem Bd.mono {a b : Nat} {p : Int} (h : Bd a p) (hab : a ≤ b) : Bd b p := Nat.lt_of_lt_of_le h (Nat.pow_le_pow_right (by decide) hab)
theorem Bd.neg {a : Nat} {p : Int} (h : Bd a p) : Bd a (-p) := by
  unfold Bd at *
  rw [Int.natAbs_neg]
  exact h
theorem Bd.mul {a b : Nat} {p q : Int} (h1 : Bd a p) (h2 : Bd b q) : Bd (a + b) (p * q) := by
  unfold Bd at *
  rw [Int.natAbs_mul, Nat.pow_add]
  exact Nat.mul_lt_mul'' h1 h2
theorem Bd.add {a : Nat} {p q : Int} (h1 : Bd a p) (h2 : Bd a q) : Bd (a + 1) (p + q) := by
  unfold Bd at *
  have : (p + q).natAbs ≤ p.natAbs + q.natAbs := Int.natAbs_add_le ..
  rw [Nat.pow_succ]
  omega
theorem Bd.sub {a : Nat} {p q : Int} (h1 : Bd a p) (h2 : Bd a q) : Bd (a + 1) (p - q) := by
  rw [Int.sub_eq_add_neg]
  exact h1.add h2.neg
theorem Bd.le {a : Nat} {p q : Int} (h : Bd a q) (hl : p.natAbs ≤ q.natAbs) : Bd a p := Nat.lt_of_le_of_lt hl h
theorem fMul_bd {a b : Nat} {p q : Int} (h1 : Bd a p) (h2 : Bd b q) (hab : a + b ≤ 900000) : fMul (.int p) (.int q) = some (.val (.int (p * q))) := by
  refine if_pos ?_
  unfold mulOk
  rw [Bool.or_eq_true, Bool.or_eq_true]
  have x := (h1.mono (Nat.le_succ a)).log (Nat.succ_pos _)
  have y := (h2.mono (Nat.le_succ b)).log (Nat.succ_pos _)
  exact .inl (.inl (decide_eq_true (by omega)))
theorem fFdiv_bd {a : Nat} {p q : Int} (h1 : 0 < q) (h2 : Bd a q) (ha : a ≤ 9000) : fFdiv (.int p) (.int q) = some (.val (.int (p / q))) := by
  show (if divOk q = true then _ else _) = _
  rw [if_pos, zdiv_pos h1]
  unfold divOk
  rw [Bool.or_eq_true]
  refine .inr (decide_eq_true ⟨h1, ?_⟩)
  by_cases c : a = 0
  · subst c
    have : q.natAbs < 1 := h2
    omega
  · exact Nat.lt_of_lt_of_le (h2.log (by omega)) ha
theorem fFdiv_neg {p q : Int} (h1 : q < 0) (h2 : -1073741824 < q) : fFdiv (.int p) (.int q) = some (.val (.int (p.fdiv q))) := by
  show (if divOk q = true then _ else _) = _
  rw [if_pos]
  · rfl
  unfold divOk
  rw [Bool.or_eq_true]
  exact .inl (decide_eq_true ⟨by omega, by omega⟩)
end Dn
set_option Elab.async false
set_option linter.all false
set_option maxRecDepth 100000
set_option maxHeartbeats 1000000
/-! Dm4: comprehensions -/
namespace Dn
open PySem L2
@[simp] theorem wipeE_nil {ρ : Dn.Env} : wipeE ρ [] = ρ := id rfl
@[simp] theorem wipeE_cons {ρ : Dn.Env} {v : Nat} {vs : List Nat} : wipeE ρ (v :: vs) = sS (wipeE ρ vs) v .emp := id rfl
@[simp] theorem restE_nil {ρ ρ0 : Dn.Env} : restE ρ ρ0 [] = ρ := id rfl
@[simp] theorem restE_cons {ρ ρ0 : Dn.Env} {v : Nat} {vs : List Nat} : restE ρ ρ0 (v :: vs) = sS (restE ρ ρ0 vs) v (gS ρ0 v) := id rfl
def pureS : Sl → Bool
  | .emp => true
  | .val _ => true
  | _ => false
@[simp] theorem pureS_emp : pureS .emp = true := id rfl
@[simp] theorem pureS_val {d : D} : pureS (.val d) = true := id rfl
@[simp] theorem pureAt_nil {ρ : Dn.Env} : pureAt ρ [] = true := id rfl
@[simp] theorem pureAt_cons {ρ : Dn.Env} {v : Nat} {vs : List Nat} : pureAt ρ (v :: vs) = (pureS (gS ρ v) && pureAt ρ vs) := by
  show ((match gS ρ v with | .emp => true | .val _ => true | _ => false) && pureAt ρ vs) = _
  unfold pureS
  cases gS ρ v <;> rfl
section
variable {ρr : Dn.Env} {vs : List Nat} {g : D → Dn.Env → Option Dn.Env} {t : Dn.Env → Res Bool} {e : Dn.Env → Res R} {ρw ρ ρ1 : Dn.Env} {mi : Dn.Env → Res (List D)} {p : D → Bool} {f : D → D}
theorem lcL_eq : ∀ (ds acc : List D), (∀ d ∈ ds, ∃ ρ1 ρ2, g d ρw = some ρ1 ∧ t ρ1 = .ok (p d) ρ2 ∧ (p d = false → wipeE ρ2 vs = ρw) ∧ (p d = true → ∃ r ρ3, e ρ2 = .ok r ρ3 ∧ r.toD = f d ∧ wipeE ρ3 vs = ρw)) →
    acc.length + ds.length ≤ 16777216 → lcL vs g t e ds ρw acc = .ok (acc ++ (ds.filter p).map f) ρw
  | [], acc, _, _ => by
    rw [List.filter_nil, List.map_nil, List.append_nil]
    rfl
  | d :: ds, acc, h, hl => by
    obtain ⟨ρ1, ρ2, e1, e2, e3, e4⟩ := h d (List.mem_cons_self ..)
    have hl' : acc.length + (ds.length + 1) ≤ 16777216 := hl
    have ih := lcL_eq ds
    unfold lcL
    rw [e1]
    dsimp only
    rw [e2]
    cases hp : p d with
    | false =>
      show lcL vs g t e ds (wipeE ρ2 vs) acc = _
      rw [e3 hp, ih acc (fun d hd => h d (List.mem_cons_of_mem _ hd)) (by omega), List.filter_cons_of_neg (by rw [hp]; decide)]
    | true =>
      obtain ⟨r, ρ3, f1, f2, f3⟩ := e4 hp
      show bindR (noX (e ρ2)) _ = _
      rw [f1]
      show (if acc.length < 16777216 then lcL vs g t e ds (wipeE ρ3 vs) (acc ++ [r.toD]) else .bad) = _
      rw [if_pos (by omega), f3, f2, ih (acc ++ [f d]) (fun d hd => h d (List.mem_cons_of_mem _ hd)) (by rw [List.length_append, List.length_singleton]; omega), List.filter_cons_of_pos hp, List.map_cons, List.append_assoc]
      rfl
/-- [e for g in mi if t] -/
theorem lc_eq {ds : List D} (hi : mi ρ = .ok ds ρ1) (hp : pureAt ρ1 vs = true) (hw : wipeE ρ1 vs = ρw) (hd : ∀ d ∈ ds, ∃ ρ1 ρ2, g d ρw = some ρ1 ∧ t ρ1 = .ok (p d) ρ2 ∧ (p d = false → wipeE ρ2 vs = ρw) ∧ (p d = true → ∃ r ρ3, e ρ2 = .ok r ρ3 ∧ r.toD = f d ∧ wipeE ρ3 vs = ρw)) (hl : ds.length ≤ 16777216) (hr : restE ρw ρ1 vs = ρr) :
    eLc vs mi g t e ρ = .ok (.fresh (.lst ((ds.filter p).map f))) ρr := by
  rw [← hr]
  unfold eLc
  rw [hi]
  show (if pureAt ρ1 vs = true then bindR (lcL vs g t e ds (wipeE ρ1 vs) []) fun xs ρ2 => Res.ok (R.fresh (Cell.lst xs)) (restE ρ2 ρ1 vs) else .bad) = _
  rw [if_pos hp, hw, lcL_eq ds [] hd (by simpa using hl)]
  rfl
/-- [e for g in mi] -/
theorem lc_map {ds : List D} (hi : mi ρ = .ok ds ρ1) (hp : pureAt ρ1 vs = true) (hw : wipeE ρ1 vs = ρw) (hd : ∀ d ∈ ds, ∃ ρ1 r ρ3, g d ρw = some ρ1 ∧ e ρ1 = .ok r ρ3 ∧ r.toD = f d ∧ wipeE ρ3 vs = ρw) (hl : ds.length ≤ 16777216) (hr : restE ρw ρ1 vs = ρr) :
    eLc vs mi g tTrue e ρ = .ok (.fresh (.lst (ds.map f))) ρr := by
  rw [lc_eq (p := fun _ => true) (f := f) hi hp hw (fun d hm => ?_) hl hr, List.filter_eq_self.mpr (fun _ _ => rfl)]
  obtain ⟨ρ1, r, ρ3, a, b, c, w⟩ := hd d hm
  exact ⟨ρ1, ρ1, a, rfl, (fun z => by cases z), fun _ => ⟨r, ρ3, b, c, w⟩⟩
theorem asg_lc {i : Nat} {ds ds' : List D} (f : D → D) (hi : mi ρ = .ok ds ρ1) (hp : pureAt ρ1 vs = true) (hw : wipeE ρ1 vs = ρw) (hd : ∀ d ∈ ds, ∃ ρ1 r ρ3, g d ρw = some ρ1 ∧ e ρ1 = .ok r ρ3 ∧ r.toD = f d ∧ wipeE ρ3 vs = ρw) (hl : ds.length ≤ 16777216) (hr : restE ρw ρ1 vs = ρr) (hf : ds.map f = ds') (hb : isBor (gS ρr i) = false) :
    sAsg i (eLc vs mi g tTrue e) ρ = .nx (sS ρr i (.own (.lst ds'))) := by
  rw [sAsg_ap, lc_map hi hp hw hd hl hr, sAk_ok, putR_val, putS_nb hb, hf]
  rfl
end
end Dn
set_option Elab.async false
set_option linter.all false
set_option maxRecDepth 100000
/-! Dm5: evaluation of text methods, zip, enumerate, reversed; single signs in texts -/
namespace Dn
open PySem L2
open PySem.Builtin.Str (occurrences subAt lastOccurrence)
section
variable {ρ : Dn.Env} {a b : Dn.Env → Res D} {f : D → D → Option R} {v w : Str} {c : Nat}
def m1a (f : D → D → Option R) (b : Dn.Env → Res D) (r : Res D) : Res R := bindR r fun x ρ1 => if isStr x = true then o2b f x (b ρ1) else .bad
@[simp] theorem m1a_ok : m1a f b (.ok (.str v) ρ) = o2b f (.str v) (b ρ) := by
  unfold m1a
  rw [bindR_ok]
  exact if_pos rfl
@[simp] theorem eM1_ap : eM1 f a b ρ = m1a f b (a ρ) := id rfl
def zipk (r : Res (List D)) : Res (List D) := bindR r fun ds ρ1 => optR (zipA ds) ρ1
@[simp] theorem zipk_ok {ds : List D} : zipk (.ok ds ρ) = optR (zipA ds) ρ := id rfl
@[simp] theorem eZip_ap {m : Dn.Env → Res (List D)} : eZip m ρ = zipk (m ρ) := id rfl
@[simp] theorem zipA_2 {x y : D} : zipA [x, y] = zipD x y := id rfl
@[simp] theorem zipD_list {xs ys : List D} : zipD (.list xs) (.list ys) = some (List.zipWith pairD xs ys) := id rfl
@[simp] theorem zipD_tuple {xs ys : List D} : zipD (.tuple xs) (.tuple ys) = some (List.zipWith pairD xs ys) := id rfl
def enumk (r : Res D) : Res (List D) := bindR r fun ds ρ1 => optR (enumD ds) ρ1
@[simp] theorem enumk_ok {d : D} : enumk (.ok d ρ) = optR (enumD d) ρ := id rfl
@[simp] theorem eEnum_ap : eEnum a ρ = enumk (a ρ) := id rfl
@[simp] theorem enumD_list {xs : List D} : enumD (.list xs) = some (xs.zipIdx.map fun p => .tuple [.int (p.2 : Nat), p.1]) := id rfl
def revdk (r : Res D) : Res (List D) := bindR r fun ds ρ1 => optR (revdD ds) ρ1
@[simp] theorem revdk_ok {d : D} : revdk (.ok d ρ) = optR (revdD d) ρ := id rfl
@[simp] theorem eRevd_ap : eRevd a ρ = revdk (a ρ) := id rfl
@[simp] theorem revdD_list {xs : List D} : revdD (.list xs) = some xs.reverse := id rfl
@[simp] theorem revdD_tuple {xs : List D} : revdD (.tuple xs) = some xs.reverse := id rfl
@[simp] theorem fRev_list {xs : List D} : fRev (.list xs) = some (.fresh (.lst xs.reverse)) := id rfl
@[simp] theorem fRev_str (h : v.length ≤ 16777216) : fRev (.str v) = some (.val (.str (revS v))) := if_pos h
@[simp] theorem fFind_str : fFind (.str v) (.str w) = some (.val (.int (Txt.find v w))) := id rfl
@[simp] theorem fRfind_str : fRfind (.str v) (.str w) = some (.val (.int (Txt.rfind v w))) := id rfl
theorem fMulS_str {p : Int} (h1 : -4611686018427387904 ≤ p) (h2 : p < 4611686018427387904) (h3 : v.length * p.toNat ≤ 16777216) : fMulS (.str v) (.int p) = some (.val (.str (Txt.mul v p))) := if_pos ⟨h1, h2, h3⟩
theorem fMulS_tup {xs : List D} {p : Int} (h : xs ≠ []) (h1 : 1 ≤ p) (h2 : p ≤ 1000) (h3 : xs.length ≤ 1000) : fMulS (.tuple xs) (.int p) = some (.val (.tuple (List.replicate p.toNat xs).flatten)) := by
  show (if xs ≠ [] ∧ 2 ≤ p ∧ p ≤ 1000 ∧ xs.length ≤ 1000 then some (R.val (.tuple (List.replicate p.toNat xs).flatten)) else if xs ≠ [] ∧ p = 1 then some (R.val (.tuple xs)) else none) = _
  by_cases c : p = 1
  · subst c
    rw [if_neg (by omega), if_pos ⟨h, rfl⟩]
    simp
  · rw [if_pos ⟨h, by omega, h2, h3⟩]
theorem fMinD_ints {d : D} {ns : List Int} : fMinD d (.list (ns.map .int)) = some (if ns.length = 0 then .val d else .val (.int (minL ns))) := by
  show (intsD (ns.map .int)).map _ = _
  rw [intsD_map]
  rfl
theorem fMaxD_ints {d : D} {ns : List Int} : fMaxD d (.list (ns.map .int)) = some (if ns.length = 0 then .val d else .val (.int (maxL ns))) := by
  show (intsD (ns.map .int)).map _ = _
  rw [intsD_map]
  rfl
theorem fJoin_list {vs : List Str} (h : (vs.map (·.length)).sum + vs.length * v.length ≤ 16777216) : fJoin (.str v) (.list (vs.map .str)) = some (.val (.str (Txt.join v vs))) := by
  show (strsD (vs.map .str)).bind _ = _
  rw [strsD_map]
  exact if_pos h
theorem fJoin_tuple {vs : List Str} (h : (vs.map (·.length)).sum + vs.length * v.length ≤ 16777216) : fJoin (.str v) (.tuple (vs.map .str)) = some (.val (.str (Txt.join v vs))) := by
  show (strsD (vs.map .str)).bind _ = _
  rw [strsD_map]
  exact if_pos h
/-! ### a single sign -/
theorem at1 {i : Nat} : StrLaws.At w ⟨#[c]⟩ w.length i ↔ w.cps.toList[i]? = some c := by
  constructor
  · intro h; exact (sub1 w c i).mp h.2
  · intro h
    refine ⟨?_, (sub1 w c i).mpr h⟩
    have := (List.getElem?_eq_some_iff.mp h).1
    show i + 1 ≤ w.length
    exact this
theorem idx_of {l : List Nat} {i : Nat} (h : l[i]? = some c) (hn : ∀ k, k < i → l[k]? ≠ some c) : l.idxOf c = i := by
  induction l generalizing i with
  | nil => simp at h
  | cons x r ih =>
    rw [List.idxOf_cons]
    cases i with
    | zero => simp at h; simp [h]
    | succ i =>
      have hx : (x == c) = false := by
        have := hn 0 (by omega)
        simpa using this
      rw [hx]
      have := ih (i := i) (by simpa using h) fun k hk => by simpa using hn (k + 1) (by omega)
      simp [this]
theorem occ1 : (c ∉ w.cps.toList ∧ occurrences w ⟨#[c]⟩ 0 w.length 1 = []) ∨ (c ∈ w.cps.toList ∧ ∃ r, occurrences w ⟨#[c]⟩ 0 w.length 1 = w.cps.toList.idxOf c :: r) := by
  rcases StrLaws.occ_head w ⟨#[c]⟩ 1 (by decide) with ⟨e, h⟩ | ⟨i, r, e, h, hn⟩
  · refine .inl ⟨fun hm => ?_, e⟩
    obtain ⟨i, hi, ei⟩ := List.getElem_of_mem hm
    exact h i (at1.mpr (by rw [List.getElem?_eq_getElem hi, ei]))
  · refine .inr ⟨List.mem_of_getElem? (at1.mp h), r, ?_⟩
    rw [e, idx_of (at1.mp h) fun k hk z => hn k hk (at1.mpr z)]
theorem find1 : Txt.find w ⟨#[c]⟩ = if c ∈ w.cps.toList then (w.cps.toList.idxOf c : Int) else -1 := by
  unfold Txt.find
  rcases occ1 (w := w) (c := c) with ⟨h, e⟩ | ⟨h, r, e⟩
  · rw [e, if_neg h]
  · rw [e, if_pos h]
theorem fIndexS1 (h : c ∈ w.cps.toList) : fIndexS (.str w) (.str ⟨#[c]⟩) = some (.val (.int (w.cps.toList.idxOf c : Int))) := by
  show (match occurrences w ⟨#[c]⟩ 0 w.length 1 with | i :: _ => some (R.val (.int (i : Nat))) | [] => none) = _
  rcases occ1 (w := w) (c := c) with ⟨h', e⟩ | ⟨_, r, e⟩
  · exact absurd h h'
  · rw [e]
theorem last1 : lastOccurrence w ⟨#[c]⟩ 0 w.length = if c ∈ w.cps.toList then some (w.length - 1 - w.cps.toList.reverse.idxOf c) else none := by
  rw [StrLaws.last_eq]
  have key := StrLaws.last_run w ⟨#[c]⟩ w.length (List.range' 0 (w.length + 1 - 0)) [] none (fun _ z => nomatch z) (fun _ z => nomatch z) (by simpa using List.pairwise_lt_range' (s := 0) (n := w.length + 1))
  cases hr : (forIn (List.range' 0 (w.length + 1 - 0)) none (StrLaws.lastBody w ⟨#[c]⟩ w.length)).run with
  | none =>
    rw [hr] at key
    rw [if_neg]
    intro hm
    obtain ⟨i, hi, ei⟩ := List.getElem_of_mem hm
    refine key i ?_ (at1.mpr (by rw [List.getElem?_eq_getElem hi, ei]))
    have hl : w.cps.toList.length = w.length := rfl
    simp
    omega
  | some a =>
    rw [hr] at key
    have ha := at1.mp key.1
    have hl : w.cps.toList.length = w.length := rfl
    have hlt := (List.getElem?_eq_some_iff.mp ha).1
    rw [if_pos (List.mem_of_getElem? ha)]
    have : w.cps.toList.reverse.idxOf c = w.length - 1 - a := by
      refine idx_of ?_ fun k hk z => ?_
      · rw [List.getElem?_reverse (by omega), ← ha]
        congr 1
        omega
      · rw [List.getElem?_reverse (by omega)] at z
        exact key.2 (w.cps.toList.length - 1 - k) (by rw [List.nil_append, List.mem_range'_1]; omega) (by omega) (at1.mpr z)
    rw [this]
    congr 1
    omega
theorem rfind1 : Txt.rfind w ⟨#[c]⟩ = if c ∈ w.cps.toList then ((w.length - 1 - w.cps.toList.reverse.idxOf c : Nat) : Int) else -1 := by
  unfold Txt.rfind
  rw [last1]
  by_cases h : c ∈ w.cps.toList
  · rw [if_pos h, if_pos h]
  · rw [if_neg h, if_neg h]
theorem join0 : ∀ vs : List Str, (Txt.join Str.empty vs).cps.toList = (vs.map fun v => v.cps.toList).flatten
  | [] => by rw [show Txt.join Str.empty [] = Str.join Str.empty [] from StrLaws.glued_eq_join _ _]; rfl
  | [v] => by
    rw [show Txt.join Str.empty [v] = Str.join Str.empty [v] from StrLaws.glued_eq_join _ _]
    show v.cps.toList = _
    simp
  | v :: w :: r => by
    have ih := join0 (w :: r)
    rw [show Txt.join Str.empty (w :: r) = Str.join Str.empty (w :: r) from StrLaws.glued_eq_join _ _] at ih
    rw [show Txt.join Str.empty (v :: w :: r) = Str.join Str.empty (v :: w :: r) from StrLaws.glued_eq_join _ _]
    show (v ++ Str.empty ++ Str.join Str.empty (w :: r)).cps.toList = _
    rw [Str.append_empty, Str.cps_append, Array.toList_append, ih]
    simp
theorem mul1 {p : Int} : (Txt.mul ⟨#[c]⟩ p).cps.toList = List.replicate p.toNat c := by
  unfold Txt.mul
  by_cases h : p < 1
  · rw [if_pos h, show p.toNat = 0 by omega]; rfl
  · rw [if_neg h]
    by_cases h1 : p = 1
    · subst h1; rfl
    · rw [if_neg (by simp [h1, Str.length])]
      have aux : ∀ (n : Nat) (acc : Array Nat), ((List.replicate n #[c]).foldl (fun (x y : Array Nat) => x ++ y) acc).toList = acc.toList ++ List.replicate n c := by
        intro n
        induction n with
        | zero => intro acc; simp
        | succ n ih => intro acc; rw [List.replicate_succ, List.foldl_cons, ih, List.replicate_succ]; simp
      have := aux p.toNat #[]
      simpa using this

theorem fAll_map {α : Type} {L : List α} {q : α → Bool} : fAll (.list (L.map fun x => .bool (q x))) = some (.val (.bool (L.all q))) := by
  have e : L.map (fun x => PyData.bool (q x)) = (L.map q).map .bool := by rw [List.map_map]; rfl
  rw [e]
  show (boolsD ((L.map q).map .bool)).map _ = _
  rw [boolsD_map]
  simp [List.all_map, Function.comp_def]
theorem fAny_map {α : Type} {L : List α} {q : α → Bool} : fAny (.list (L.map fun x => .bool (q x))) = some (.val (.bool (L.any q))) := by
  have e : L.map (fun x => PyData.bool (q x)) = (L.map q).map .bool := by rw [List.map_map]; rfl
  rw [e]
  show (boolsD ((L.map q).map .bool)).map _ = _
  rw [boolsD_map]
  simp [List.any_map, Function.comp_def]
theorem seq_for {P : SR → Prop} {g : D → Dn.Env → Option Dn.Env} {m : Dn.Env → Res (List D)} {s t : Dn.Env → SR} {ρ ρ1 : Dn.Env} {ds : List D} (h : m ρ = .ok ds ρ1) (h2 : P (bindS (forL g s ds ρ1) t)) : P (sSeq (sFor g m s) t ρ) := by
  rw [sSeq_ap, sFor_ap, h, sFk_ok]
  exact h2
/-! ### comprehensions over typed items -/
theorem lcL_ty {α : Type} {vs : List Nat} {g : D → Dn.Env → Option Dn.Env} {t : Dn.Env → Res Bool} {e : Dn.Env → Res R} {ρw : Dn.Env} {inj f : α → D} {p : α → Bool} : ∀ (L : List α) (acc : List D), (∀ x ∈ L, ∃ ρ1 ρ2, g (inj x) ρw = some ρ1 ∧ t ρ1 = .ok (p x) ρ2 ∧ (p x = false → wipeE ρ2 vs = ρw) ∧ (p x = true → ∃ r ρ3, e ρ2 = .ok r ρ3 ∧ r.toD = f x ∧ wipeE ρ3 vs = ρw)) →
    acc.length + L.length ≤ 16777216 → lcL vs g t e (L.map inj) ρw acc = .ok (acc ++ (L.filter p).map f) ρw
  | [], acc, _, _ => by
    rw [List.filter_nil, List.map_nil, List.map_nil, List.append_nil]
    rfl
  | d :: ds, acc, h, hl => by
    obtain ⟨ρ1, ρ2, e1, e2, e3, e4⟩ := h d (List.mem_cons_self ..)
    have hl' : acc.length + (ds.length + 1) ≤ 16777216 := hl
    have ih := lcL_ty (vs := vs) (g := g) (t := t) (e := e) (ρw := ρw) (inj := inj) (f := f) (p := p) ds
    rw [List.map_cons]
    unfold lcL
    rw [e1]
    dsimp only
    rw [e2]
    cases hp : p d with
    | false =>
      show lcL vs g t e (ds.map inj) (wipeE ρ2 vs) acc = _
      rw [e3 hp, ih acc (fun d hd => h d (List.mem_cons_of_mem _ hd)) (by omega), List.filter_cons_of_neg (by rw [hp]; decide)]
    | true =>
      obtain ⟨r, ρ3, f1, f2, f3⟩ := e4 hp
      show bindR (noX (e ρ2)) _ = _
      rw [f1]
      show (if acc.length < 16777216 then lcL vs g t e (ds.map inj) (wipeE ρ3 vs) (acc ++ [r.toD]) else .bad) = _
      rw [if_pos (by omega), f3, f2, ih (acc ++ [f d]) (fun d hd => h d (List.mem_cons_of_mem _ hd)) (by rw [List.length_append, List.length_singleton]; omega), List.filter_cons_of_pos hp, List.map_cons, List.append_assoc]
      rfl
section
variable {α : Type} {vs : List Nat} {g : D → Dn.Env → Option Dn.Env} {t : Dn.Env → Res Bool} {e : Dn.Env → Res R} {ρ ρ1 ρw ρr : Dn.Env} {mi : Dn.Env → Res (List D)} {inj f : α → D} {p : α → Bool} {L : List α}
theorem lc_ty (hi : mi ρ = .ok (L.map inj) ρ1) (hp : pureAt ρ1 vs = true) (hw : wipeE ρ1 vs = ρw) (hd : ∀ x ∈ L, ∃ ρ1 ρ2, g (inj x) ρw = some ρ1 ∧ t ρ1 = .ok (p x) ρ2 ∧ (p x = false → wipeE ρ2 vs = ρw) ∧ (p x = true → ∃ r ρ3, e ρ2 = .ok r ρ3 ∧ r.toD = f x ∧ wipeE ρ3 vs = ρw))
    (hl : L.length ≤ 16777216) (hr : restE ρw ρ1 vs = ρr) : eLc vs mi g t e ρ = .ok (.fresh (.lst ((L.filter p).map f))) ρr := by
  rw [← hr]
  unfold eLc
  rw [hi]
  show (if pureAt ρ1 vs = true then bindR (lcL vs g t e (L.map inj) (wipeE ρ1 vs) []) fun xs ρ2 => Res.ok (R.fresh (Cell.lst xs)) (restE ρ2 ρ1 vs) else .bad) = _
  rw [if_pos hp, hw, lcL_ty L [] hd (by simpa using hl)]
  rfl
theorem lc_tym (hi : mi ρ = .ok (L.map inj) ρ1) (hp : pureAt ρ1 vs = true) (hw : wipeE ρ1 vs = ρw) (hd : ∀ x ∈ L, ∃ ρ1 r ρ3, g (inj x) ρw = some ρ1 ∧ e ρ1 = .ok r ρ3 ∧ r.toD = f x ∧ wipeE ρ3 vs = ρw)
    (hl : L.length ≤ 16777216) (hr : restE ρw ρ1 vs = ρr) : eLc vs mi g tTrue e ρ = .ok (.fresh (.lst (L.map f))) ρr := by
  rw [lc_ty (p := fun _ => true) (f := f) hi hp hw (fun d hm => ?_) hl hr, List.filter_eq_self.mpr (fun _ _ => rfl)]
  obtain ⟨ρ1, r, ρ3, a, b, c, w⟩ := hd d hm
  exact ⟨ρ1, ρ1, a, rfl, (fun z => by cases z), fun _ => ⟨r, ρ3, b, c, w⟩⟩
theorem lc_tyv (hi : mi ρ = .ok (L.map inj) ρ1) (hp : pureAt ρ1 vs = true) (hw : wipeE ρ1 vs = ρw) (hd : ∀ x ∈ L, ∃ ρ1, g (inj x) ρw = some ρ1 ∧ e ρ1 = .ok (.val (f x)) ρ1 ∧ wipeE ρ1 vs = ρw)
    (hl : L.length ≤ 16777216) (hr : restE ρw ρ1 vs = ρr) : eLc vs mi g tTrue e ρ = .ok (.fresh (.lst (L.map f))) ρr :=
  lc_tym hi hp hw (fun x hx => let ⟨ρ1, a, b, c⟩ := hd x hx; ⟨ρ1, _, ρ1, a, b, rfl, c⟩) hl hr
/-- the source leaves the slots as they are -/
theorem lc_t0 (hi : mi ρ = .ok (L.map inj) ρ) (hp : pureAt ρ vs = true) (hd : ∀ x ∈ L, ∃ ρ1, g (inj x) (wipeE ρ vs) = some ρ1 ∧ e ρ1 = .ok (.val (f x)) ρ1 ∧ wipeE ρ1 vs = wipeE ρ vs)
    (hl : L.length ≤ 16777216) (hr : restE (wipeE ρ vs) ρ vs = ρ) : eLc vs mi g tTrue e ρ = .ok (.fresh (.lst (L.map f))) ρ := lc_tyv hi hp rfl hd hl hr
theorem lc_tyf (hi : mi ρ = .ok (L.map inj) ρ1) (hp : pureAt ρ1 vs = true) (hw : wipeE ρ1 vs = ρw) (hd : ∀ x ∈ L, ∃ ρ1, g (inj x) ρw = some ρ1 ∧ t ρ1 = .ok (p x) ρ1 ∧ (p x = true → e ρ1 = .ok (.val (f x)) ρ1) ∧ wipeE ρ1 vs = ρw)
    (hl : L.length ≤ 16777216) (hr : restE ρw ρ1 vs = ρr) : eLc vs mi g t e ρ = .ok (.fresh (.lst ((L.filter p).map f))) ρr :=
  lc_ty hi hp hw (fun x hx => let ⟨ρ1, a, b, c, d⟩ := hd x hx; ⟨ρ1, ρ1, a, b, fun _ => d, fun q => ⟨_, ρ1, c q, rfl, d⟩⟩) hl hr
theorem lc_f0 (hi : mi ρ = .ok (L.map inj) ρ) (hp : pureAt ρ vs = true) (hd : ∀ x ∈ L, ∃ ρ1, g (inj x) (wipeE ρ vs) = some ρ1 ∧ t ρ1 = .ok (p x) ρ1 ∧ (p x = true → e ρ1 = .ok (.val (f x)) ρ1) ∧ wipeE ρ1 vs = wipeE ρ vs)
    (hl : L.length ≤ 16777216) (hr : restE (wipeE ρ vs) ρ vs = ρ) : eLc vs mi g t e ρ = .ok (.fresh (.lst ((L.filter p).map f))) ρ := lc_tyf hi hp rfl hd hl hr
end
end
section
variable {α : Type} {g : D → Dn.Env → Option Dn.Env} {b k : Dn.Env → SR} {P : SR → Prop} {inj : α → D} {ρ : Dn.Env} {L : List α}
theorem for_ty (I : List α → Dn.Env → Prop) (h0 : I [] ρ) (hs : ∀ done x rest ρ, L = done ++ x :: rest → I done ρ → ∃ ρ1, g (inj x) ρ = some ρ1 ∧ FL P k (I (done ++ [x])) (b ρ1)) (he : ∀ ρ, I L ρ → P (k ρ)) : P (bindS (forL g b (L.map inj) ρ) k) := by
  refine for_rule (fun r ρ => ∃ done todo, L = done ++ todo ∧ r = todo.map inj ∧ I done ρ) ⟨[], L, rfl, rfl, h0⟩ ?_ ?_
  · rintro d r ρ ⟨done, todo, e, er, hI⟩
    cases todo with
    | nil => cases er
    | cons x todo =>
      rw [List.map_cons] at er
      cases er
      obtain ⟨ρ1, e1, h1⟩ := hs done x todo ρ e hI
      refine ⟨ρ1, e1, ?_⟩
      have up : ∀ ρ, I (done ++ [x]) ρ → ∃ done' todo', L = done' ++ todo' ∧ todo.map inj = todo'.map inj ∧ I done' ρ := fun ρ h => ⟨done ++ [x], todo, by rw [e, List.append_assoc]; rfl, rfl, h⟩
      cases hb : b ρ1 with
      | nx ρ => rw [hb] at h1; exact up ρ h1
      | cnt ρ => rw [hb] at h1; exact up ρ h1
      | brk ρ => rw [hb] at h1; exact h1
      | ret r ρ => rw [hb] at h1; exact h1
      | exc c ρ => rw [hb] at h1; exact h1
      | bad => rw [hb] at h1; exact h1
  · rintro ρ ⟨done, todo, e, er, hI⟩
    have : todo = [] := by
      have := congrArg List.length er
      simp at this
      exact List.eq_nil_of_length_eq_zero this.symm
    subst this
    rw [List.append_nil] at e
    subst e
    exact he ρ hI
theorem for_tyl (I : List α → Dn.Env → Prop) (h0 : I [] ρ) (hs : ∀ done x rest ρ, L = done ++ x :: rest → I done ρ → ∃ ρ1, g (inj x) ρ = some ρ1 ∧ FL P .nx (I (done ++ [x])) (b ρ1)) (he : ∀ ρ, I L ρ → P (.nx ρ)) : P (forL g b (L.map inj) ρ) := by
  have := for_ty (k := .nx) I h0 hs he
  rwa [bindS_id] at this
end
end Dn
set_option Elab.async false
set_option linter.all false
set_option maxRecDepth 100000
/-! Dm6: evaluation of what Dn15 adds -/
namespace Dn
open PySem L2
section
variable {ρ : Dn.Env} {a b : Dn.Env → Res D} {f : D → D → Option R} {p q : Int} {i : Nat}
def enumAk (r : Res D) : Res (List D) := bindR r fun ds ρ1 => optR (enumA ds) ρ1
@[simp] theorem enumAk_ok {d : D} : enumAk (.ok d ρ) = optR (enumA d) ρ := id rfl
@[simp] theorem eEnumA_ap : eEnumA a ρ = enumAk (a ρ) := id rfl
@[simp] theorem enumA_list {xs : List D} : enumA (.list xs) = some (xs.zipIdx.map fun p => .tuple [.int (p.2 : Nat), p.1]) := id rfl
@[simp] theorem enumA_tuple {xs : List D} : enumA (.tuple xs) = some (xs.zipIdx.map fun p => .tuple [.int (p.2 : Nat), p.1]) := id rfl
@[simp] theorem fIsB_b {x y : Bool} : fIsB (.bool x) (.bool y) = some (.val (.bool (decide (x = y)))) := id rfl
@[simp] theorem fIsNotB_b {x y : Bool} : fIsNotB (.bool x) (.bool y) = some (.val (.bool (!decide (x = y)))) := id rfl
theorem divp {p q : Int} (h : 0 < q) (hp : p.natAbs < 2 ^ 1000) : Builtin.divisionGoesByPylong p q = false := by
  refine (divp_ok h ?_).2
  have : Builtin.Int.intBits p ≤ 1001 := by
    unfold Builtin.Int.intBits
    split
    · omega
    · have := log_small hp
      by_cases c : p.natAbs = 0
      · rw [c]; decide
      · have := (Nat.log2_lt c).mpr hp
        omega
  omega
theorem fDivmod_ok (h : 0 < q) (hp : p.natAbs < 2 ^ 1000) : fDivmod [.int p, .int q] = some (.val (.tuple [.int (p / q), .int (p % q)])) := if_pos ⟨h, divp h hp⟩
/-- xs[k] += e -/
def ag3 (i : Nat) (n : Int) (z : Option R) (s : Sl) (ρ : Dn.Env) : SR := match z, lstAt s with
  | some (.val z), some ys => if n < ys.length then .nx (sS ρ i (lstTo s (ys.set n.toNat z))) else .bad
  | _, _ => .bad
@[simp] theorem ag3_own {n : Int} {z : D} {ys : List D} (h : n < ys.length) : ag3 i n (some (.val z)) (.own (.lst ys)) ρ = .nx (sS ρ i (.own (.lst (ys.set n.toNat z)))) := if_pos h
def ag2 (i : Nat) (n : Int) (f : D → D → Option R) (x : D) (r : Res D) : SR := bindRS r fun y ρ2 => ag3 i n (f x y) (gS ρ2 i) ρ2
@[simp] theorem ag2_ok {n : Int} {x y : D} : ag2 i n f x (.ok y ρ) = ag3 i n (f x y) (gS ρ i) ρ := id rfl
def ag1 (i : Nat) (k : D) (f : D → D → Option R) (b : Dn.Env → Res D) (s : Sl) (ρ : Dn.Env) : SR := match lstAt s, k with
  | some xs, .int n => if 0 ≤ n then match xs[n.toNat]? with
      | some x => ag2 i n f x (b ρ)
      | none => .bad
    else .bad
  | _, _ => .bad
theorem ag1_own {n : Int} {xs : List D} {x : D} (h : 0 ≤ n) (hx : xs[n.toNat]? = some x) : ag1 i (.int n) f b (.own (.lst xs)) ρ = ag2 i n f x (b ρ) := by
  show (if 0 ≤ n then match xs[n.toNat]? with | some x => ag2 i n f x (b ρ) | none => .bad else .bad) = _
  rw [if_pos h, hx]
def ag0 (i : Nat) (f : D → D → Option R) (b : Dn.Env → Res D) (r : Res D) : SR := bindRS r fun k ρ1 => ag1 i k f b (gS ρ1 i) ρ1
@[simp] theorem ag0_ok {k : D} : ag0 i f b (.ok k ρ) = ag1 i k f b (gS ρ i) ρ := id rfl
def agK (i : Nat) (a : Dn.Env → Res D) (f : D → D → Option R) (b : Dn.Env → Res D) : Dn.Env → SR := fun ρ => ag0 i f b (a ρ)
@[simp] theorem agK_ap : agK i a f b ρ = ag0 i f b (a ρ) := id rfl
@[simp] theorem sAugL_ap : sAugL i a f b ρ = apG i (agK i a f b) (gS ρ i) ρ := by
  unfold sAugL apG
  cases lstAt (gS ρ i) with
  | none => rfl
  | some _ =>
    show bindRS (a ρ) _ = bindRS (a ρ) _
    congr 1
@[simp] theorem fAddI_int : fAddI (.int p) (.int q) = some (.val (.int (p + q))) := id rfl
@[simp] theorem fSubI_int : fSubI (.int p) (.int q) = some (.val (.int (p - q))) := id rfl
def an2 (i : Nat) (z : Option R) (s : Sl) (ρ : Dn.Env) : SR := match s, z with
  | .val _, some (.val z) => .nx (sS ρ i (.val z))
  | _, _ => .bad
@[simp] theorem an2_val {x z : D} : an2 i (some (.val z)) (.val x) ρ = .nx (sS ρ i (.val z)) := id rfl
def an1 (i : Nat) (f : D → D → Option R) (x : D) (r : Res D) : SR := bindRS r fun y ρ1 => an2 i (f x y) (gS ρ1 i) ρ1
@[simp] theorem an1_ok {x y : D} : an1 i f x (.ok y ρ) = an2 i (f x y) (gS ρ i) ρ := id rfl
def anS (i : Nat) (f : D → D → Option R) (b : Dn.Env → Res D) (s : Sl) (ρ : Dn.Env) : SR := match s with
  | .val x => an1 i f x (b ρ)
  | _ => .bad
@[simp] theorem anS_val {x : D} : anS i f b (.val x) ρ = an1 i f x (b ρ) := id rfl
@[simp] theorem sAugN_ap : sAugN i f b ρ = anS i f b (gS ρ i) ρ := by
  unfold sAugN anS
  cases gS ρ i <;> rfl
end
end Dn
set_option Elab.async false
set_option linter.all false
set_option maxRecDepth 100000
set_option maxHeartbeats 1000000
/-! Dm7: evaluation of d[k], d.get, try .. except -/
namespace Dn
open PySem
open L2 (Key)
section
variable {i : Nat} {a b : Dn.Env → Res D} {ρ ρ' : Dn.Env}
def dgE (q : Option Key) (x d : D) (ρ : Dn.Env) : Res R := match d, q with
  | .dict ds, some q => match lookD ds q with
    | some v => .ok (.val v) ρ
    | none => .ok (.val x) ρ
  | _, _ => .bad
@[simp] theorem dgE_own {kvs : List (Key × D)} {q : Key} {x : D} : dgE (some q) x (.dict (kvs.map fun p => (kd p.1, p.2))) ρ = .ok (.val ((lookC kvs q).getD x)) ρ := by
  show (match lookD (kvs.map fun p => (kd p.1, p.2)) q with | some v => Res.ok (R.val v) ρ | none => Res.ok (R.val x) ρ) = _
  rw [lookD_map]
  cases lookC kvs q <;> rfl
def dgD (k x : D) (r : Res D) : Res R := bindR r fun d ρ3 => dgE (keyD k) x d ρ3
@[simp] theorem dgD_ok {k x d : D} : dgD k x (.ok d ρ) = dgE (keyD k) x d ρ := id rfl
def dgC (i : Nat) (k : D) (r : Res D) : Res R := bindR r fun x ρ2 => dgD k x (ePk i ρ2)
@[simp] theorem dgC_ok {k x : D} : dgC i k (.ok x ρ) = dgD k x (ePk i ρ) := id rfl
def dgB (i : Nat) (b : Dn.Env → Res D) (r : Res D) : Res R := bindR r fun k ρ1 => dgC i k (b ρ1)
@[simp] theorem dgB_ok {k : D} : dgB i b (.ok k ρ) = dgC i k (b ρ) := id rfl
def dgF (i : Nat) (b : Dn.Env → Res D) (d : D) (r : Res D) : Res R := match d with
  | .dict _ => dgB i b r
  | _ => .bad
@[simp] theorem dgF_d {ds : List (D × D)} {r : Res D} : dgF i b (.dict ds) r = dgB i b r := id rfl
def dgA (i : Nat) (b : Dn.Env → Res D) (r : Res D) (r0 : Res D) : Res R := bindR r0 fun d0 _ => dgF i b d0 r
@[simp] theorem dgA_ok {d : D} {r : Res D} : dgA i b r (.ok d ρ) = dgF i b d r := id rfl
@[simp] theorem eDget_ap : eDget i a b ρ = dgA i b (a ρ) (ePk i ρ) := by
  unfold eDget dgA
  congr 1
def dxE (q : Option Key) (d : D) (ρ : Dn.Env) : Res R := match d, q with
  | .dict ds, some q => match lookD ds q with
    | some v => .ok (.val v) ρ
    | none => .bad
  | _, _ => .bad
@[simp] theorem dxE_own {kvs : List (Key × D)} {q : Key} {v : D} (h : lookC kvs q = some v) : dxE (some q) (.dict (kvs.map fun p => (kd p.1, p.2))) ρ = .ok (.val v) ρ := by
  show (match lookD (kvs.map fun p => (kd p.1, p.2)) q with | some v => Res.ok (R.val v) ρ | none => (Res.bad : Res R)) = _
  rw [lookD_map, h]
def dxD (k : D) (r : Res D) : Res R := bindR r fun d ρ3 => dxE (keyD k) d ρ3
@[simp] theorem dxD_ok {k d : D} : dxD k (.ok d ρ) = dxE (keyD k) d ρ := id rfl
def dxB (i : Nat) (r : Res D) : Res R := bindR r fun k ρ1 => dxD k (ePk i ρ1)
@[simp] theorem dxB_ok {k : D} : dxB i (.ok k ρ) = dxD k (ePk i ρ) := id rfl
def dxA (i : Nat) (r : Res D) (r0 : Res D) : Res R := bindR r0 fun _ _ => dxB i r
@[simp] theorem dxA_ok {d : D} {r : Res D} : dxA i r (.ok d ρ) = dxB i r := id rfl
@[simp] theorem eDix_ap : eDix i a ρ = dxA i (a ρ) (ePk i ρ) := by
  unfold eDix dxA dxB dxD dxE
  rfl
def tryO (h : Str → Option (Option D)) : SR → SR
  | .exc c ρ1 => match h c with
    | some (some v) => if okV v = true then .ret (.val v) ρ1 else .bad
    | some none => .exc c ρ1
    | none => .bad
  | r => r
@[simp] theorem sTryO_ap {bd : Dn.Env → SR} {h : Str → Option (Option D)} : sTryO bd h ρ = tryO h (bd ρ) := by
  unfold sTryO tryO
  cases bd ρ <;> rfl
@[simp] theorem tryO_nx {h : Str → Option (Option D)} : tryO h (.nx ρ) = .nx ρ := id rfl
@[simp] theorem tryO_ret {h : Str → Option (Option D)} {r : R} : tryO h (.ret r ρ) = .ret r ρ := id rfl
theorem tryO_h1 {c : Str} {v : D} (hv : okV v = true) : tryO (h1 c v) (.exc c ρ) = .ret (.val v) ρ := by
  unfold tryO h1
  simp [hv]
end
end Dn
set_option Elab.async false
set_option linter.all false
set_option maxRecDepth 100000
set_option maxHeartbeats 2000000
namespace Law
open Dn PySem
open L2 (Key)
theorem is_whole_eq (d : D) : d_is_whole [.val d] = .ok (.val (.bool (isInt d && !isBool d))) [.val d] := by
  refine mkF_ret (ds := [d]) rfl ?_
  simp [b_is_whole]
theorem is_whole_in_int (n a b : Int) : d_is_whole_in [.val (.int n), .val (.int a), .val (.int b)] = .ok (.val (.bool (decide (a ≤ n) && decide (n ≤ b)))) [.val (.int n), .val (.int a), .val (.int b)] := by
  refine mkF_ret (ds := [.int n, .int a, .int b]) rfl ?_
  have e := is_whole_eq (.int n)
  simp [b_is_whole_in, e, isInt, isBool]
theorem is_tuple_of_eq (d : D) (a b : Int) : d_is_tuple_of [.val d, .val (.int a), .val (.int b)] = .ok (.val (.bool (match d with | .tuple ds => decide (a ≤ ds.length) && decide ((ds.length : Int) ≤ b) | _ => false))) [.val d, .val (.int a), .val (.int b)] := by
  refine mkF_ret (ds := [d, .int a, .int b]) rfl ?_
  cases d <;> simp [b_is_tuple_of, isTup]
def isLet (c : Nat) : Bool := decide (97 ≤ c ∧ c ≤ 122)
def isDig (c : Nat) : Bool := decide (48 ≤ c ∧ c ≤ 57)
theorem mem_letters (c : Nat) : decide (c ∈ (Str.ofString "abcdefghijklmnopqrstuvwxyz").cps.toList) = isLet c := by
  rw [str_lit, Bool.eq_iff_iff, decide_eq_true_iff]
  unfold isLet
  rw [decide_eq_true_iff, show "abcdefghijklmnopqrstuvwxyz".toList.map Char.toNat = [97,98,99,100,101,102,103,104,105,106,107,108,109,110,111,112,113,114,115,116,117,118,119,120,121,122] by decide +kernel]
  simp
  omega
theorem mem_digits (c : Nat) : decide (c ∈ (Str.ofString "0123456789").cps.toList) = isDig c := by
  rw [str_lit, Bool.eq_iff_iff, decide_eq_true_iff]
  unfold isDig
  rw [decide_eq_true_iff, show "0123456789".toList.map Char.toNat = [48,49,50,51,52,53,54,55,56,57] by decide +kernel]
  simp
  omega
theorem ni_letters (c : Nat) : fNotIn (.str ⟨#[c]⟩) (.str (Str.ofString "abcdefghijklmnopqrstuvwxyz")) = some (.val (.bool (!isLet c))) := by rw [fNotIn1, mem_letters]
theorem ni_digits (c : Nat) : fNotIn (.str ⟨#[c]⟩) (.str (Str.ofString "0123456789")) = some (.val (.bool (!isDig c))) := by rw [fNotIn1, mem_digits]
def okCh (c : Nat) : Bool := isLet c || isDig c
def isNm (cs : List Nat) : Bool := decide (1 ≤ cs.length) && decide (cs.length ≤ 8) && isLet (nth cs 0 0) && cs.all okCh
def isName : D → Bool
  | .str z => isNm z.cps.toList
  | _ => false
def strOk : D → Bool
  | .str z => decide (z.length ≤ 16777216)
  | _ => true
theorem all_false {α : Type} {p : α → Bool} : ∀ {l : List α}, l.all p = false → ∃ pre x post, l = pre ++ x :: post ∧ (∀ y ∈ pre, p y = true) ∧ p x = false
  | [], h => by cases h
  | a :: l, h => by
    cases e : p a with
    | false => exact ⟨[], a, l, rfl, by simp, e⟩
    | true =>
      have h' : l.all p = false := by simpa [e] using h
      obtain ⟨pre, x, post, e1, e2, e3⟩ := all_false h'
      exact ⟨a :: pre, x, post, by rw [e1]; rfl, by simp; exact ⟨e, e2⟩, e3⟩
theorem is_name_eq (d : D) (h : strOk d = true) : d_is_name [.val d] = .ok (.val (.bool (isName d))) [.val d] := by
  refine mkF_ret (ds := [d]) rfl ?_
  cases d with
  | str z =>
    obtain ⟨⟨l⟩⟩ := z
    have h : l.length ≤ 16777216 := of_decide_eq_true h
    have el : Str.length ⟨⟨l⟩⟩ = l.length := rfl
    have e0 : isName (.str ⟨⟨l⟩⟩) = isNm l := rfl
    rw [e0]
    simp [b_is_name, isStr, h, el]
    by_cases h1 : 1 ≤ l.length
    · by_cases h2 : l.length ≤ 8
      · have e1 : ¬ ((l.length : Int) < 1) := by omega
        have e2 : ¬ (8 < (l.length : Int)) := by omega
        have e3 : fIx (.str ⟨⟨l⟩⟩) (.int 0) = some (.val (.str ⟨#[nth l 0 0]⟩)) := fIx_str (v := ⟨⟨l⟩⟩) (p := 0) (by omega) (by rw [el]; omega) h
        cases h3 : isLet (nth l 0 0) with
        | false =>
          have q : isNm l = false := by unfold isNm; rw [h3]; simp
          rw [q]
          simp [e1, e2, e3, ni_letters, h3]
        | true =>
          have q : isNm l = l.all okCh := by unfold isNm; rw [h3]; simp [h1, h2]
          rw [q]
          generalize hP : l.all okCh = P at *
          simp [e1, e2, e3, ni_letters, h3]
          rw [← hP] at *
          refine for_rule (P := Ret 1 (.val (.bool (l.all okCh)))) (fun r ρ => ∃ rest s, r = rest.map (fun c => .str ⟨#[c]⟩) ∧ l.all okCh = rest.all okCh ∧ isBor s = false ∧ ρ = [.val (.str ⟨⟨l⟩⟩), s]) ⟨l, .emp, rfl, rfl, rfl, rfl⟩ ?_ ?_
          · rintro d r ρ ⟨rest, s, e, a, n, rfl⟩
            cases rest with
            | nil => cases e
            | cons c rest =>
              rw [List.map_cons] at e
              cases e
              refine ⟨_, by simp; exact gNmS_nb n, ?_⟩
              cases hc : okCh c with
              | false =>
                have a' : l.all okCh = false := by rw [a]; simp [hc]
                have hc' := hc
                unfold okCh at hc'
                rw [Bool.or_eq_false_iff] at hc'
                rw [a']
                simp [ni_letters, ni_digits, hc'.1, hc'.2]
              | true =>
                have a' : l.all okCh = rest.all okCh := by rw [a]; simp [hc]
                have hc' := hc
                unfold okCh at hc'
                have q2 : (!isLet c && !isDig c) = false := by cases e1 : isLet c <;> cases e2 : isDig c <;> simp [e1, e2] at hc' ⊢
                simp [ni_letters, ni_digits, q2]
                exact ⟨rest, rfl, a'⟩
          · rintro ρ ⟨rest, s, e, a, n, rfl⟩
            cases rest with
            | nil =>
              rw [a]
              simp
            | cons c rest => cases e
      · simp [show ¬ ((l.length : Int) < 1) by omega, show (8 < (l.length : Int)) by omega, isNm, h2]
    · simp [show ((l.length : Int) < 1) by omega, isNm, h1]
  | _ => simp [b_is_name, isStr, isName]
end Law
set_option Elab.async false
set_option linter.all false
set_option maxRecDepth 100000
set_option maxHeartbeats 2000000
namespace Law
open Dn PySem
open L2 (Key)
def Rows (xs : List Int) (n : Nat) (L : Int) : Prop := xs.length = n ∧ ∀ x ∈ xs, 0 ≤ x ∧ x < L
theorem Rows.snoc {xs : List Int} {n : Nat} {L x : Int} (h : Rows xs n L) (h0 : 0 ≤ x) (h1 : x < L) : Rows (xs ++ [x]) (n + 1) L := by
  refine ⟨by rw [List.length_append, h.1]; rfl, fun y hy => ?_⟩
  rcases List.mem_append.mp hy with hy | hy
  · exact h.2 y hy
  · simp at hy; subst hy; exact ⟨h0, h1⟩
theorem Rows.ix {xs : List Int} {n : Nat} {L : Int} (h : Rows xs n L) (k : Int) (h0 : 0 ≤ k) (hk : k < n) : ∃ v : Int, (0 ≤ v ∧ v < L) ∧ fIx (.list (xs.map .int)) (.int k) = some (.val (.int v)) := by
  have hl : k < xs.length := by rw [h.1]; exact hk
  exact ⟨_, h.2 _ (nth_mem (d := 0) (by omega)), fIx_ints h0 hl⟩
theorem cell_eq (ns : List Int) (k : Int) (h : 0 ≤ k) : ∃ c, d__law_cell [.val (script ns), .val (.int k)] = .ok (.val (.int c)) [.val (script ns), .val (.int k)] := by
  by_cases c : k < ns.length
  · refine ⟨_, mkF_ret (ds := [script ns, .int k]) rfl (r := .val (.int (nth ns k.toNat 0))) ?_⟩
    simp [b__law_cell, script, c, h]
  · refine ⟨_, mkF_ret (ds := [script ns, .int k]) rfl (r := .val (.int 0)) ?_⟩
    simp [b__law_cell, script, c, h]
theorem row_eq (ns : List Int) (hns : ns.length ≤ 63) (place count limit : Int) (hp : 0 ≤ place) (hp2 : place < 1000000) (h0 : 0 ≤ count) (h1 : count ≤ 10000) (hL : 0 < limit) (hL2 : limit < 1073741824) :
    ∃ xs, Rows xs count.toNat limit ∧ d__law_row [.val (script ns), .val (.int place), .val (.int count), .val (.int limit)] = .ok (.val (.list (xs.map .int))) [.val (script ns), .val (.int place), .val (.int count), .val (.int limit)] := by
  have key : ExRet 4 (fun xs : List Int => Rows xs count.toNat limit) (fun xs => .val (.list (xs.map .int))) (b__law_row [.val (script ns), .val (.int place), .val (.int count), .val (.int limit), .emp, .emp, .emp, .emp, .emp, .emp, .emp]) := by
    obtain ⟨S, hS⟩ : ∃ S, S = script ns := ⟨_, rfl⟩
    have hl : fLen S = some (.val (.int ns.length)) := by rw [hS]; simp [script]
    have hx : 0 < ns.length → ∃ v : Int, fIx S (.int (place % ns.length)) = some (.val (.int v)) := fun h => by
      rw [hS]
      exact ⟨_, fIx_ints (Int.emod_nonneg _ (by omega)) (Int.emod_lt_of_pos _ (by omega))⟩
    have hm : 0 < ns.length → fMod (.int place) (.int ns.length) = some (.val (.int (place % ns.length))) := fun h => fMod_pos (by omega)
    rw [← hS]
    clear hS
    unfold b__law_row
    refine seq_nx (ρ1 := [.val S, .val (.int place), .val (.int count), .val (.int limit), .val (.int 0), .emp, .emp, .emp, .emp, .emp, .emp]) (by simp) ?_
    have s1 : ∃ c : Int, 0 ≤ c ∧ sIf (tBoolD (eOp2 fGt (toV (eOp1 fLen (ePk 0))) (toV (eC (.int 0))))) (sAsg 4 (eOp1 fAbs (toV (eOp1 fInt (toV (eIxV 0 (toV (eOp2 fMod (toV (eOp1 fInt (ePk 1))) (toV (eOp1 fLen (ePk 0))))))))))) (sNil) [.val S, .val (.int place), .val (.int count), .val (.int limit), .val (.int 0), .emp, .emp, .emp, .emp, .emp, .emp] = .nx [.val S, .val (.int place), .val (.int count), .val (.int limit), .val (.int c), .emp, .emp, .emp, .emp, .emp, .emp] := by
      by_cases c : 0 < ns.length
      · obtain ⟨v, hv⟩ := hx c
        have hm := hm c
        have c' : (0 : Int) < ns.length := by omega
        refine ⟨if v < 0 then -v else v, by split <;> omega, by simp [hl, hm, hv, c, c']⟩
      · exact ⟨0, Int.le_refl _, by simp [hl, c]⟩
    obtain ⟨c, hc, e1⟩ := s1
    refine seq_nx e1 ?_
    refine seq_nx (ρ1 := [.val S, .val (.int place), .val (.int count), .val (.int limit), .val (.int c), .val (.int 0), .emp, .emp, .emp, .emp, .emp]) (by simp) ?_
    have s2 : ∃ r : Int, 0 ≤ r ∧ sIf (tBoolD (eOp2 fGe (toV (eVar 4)) (toV (eOp2 fPow (toV (eC (.int 10))) (toV (eC (.int 18))))))) (sAsg 5 (eVar 4)) (sNil) [.val S, .val (.int place), .val (.int count), .val (.int limit), .val (.int c), .val (.int 0), .emp, .emp, .emp, .emp, .emp] = .nx [.val S, .val (.int place), .val (.int count), .val (.int limit), .val (.int c), .val (.int r), .emp, .emp, .emp, .emp, .emp] := by
      by_cases h : (10 : Int) ^ 18 ≤ c
      · exact ⟨c, hc, by simp at h; simp [h]⟩
      · exact ⟨0, Int.le_refl _, by simp at h; simp [show ¬ (1000000000000000000 ≤ c) by omega]⟩
    obtain ⟨r, hr, e2⟩ := s2
    refine seq_nx e2 ?_
    refine seq_nx (ρ1 := [.val S, .val (.int place), .val (.int count), .val (.int limit), .val (.int c), .val (.int r), .own (.lst []), .emp, .emp, .emp, .emp]) (by simp) ?_
    have e3 := rg1_ok (n := count) (by omega) (by omega)
    refine seq_for (by simp [e3]; exact ⟨rfl, rfl⟩) ?_
    refine for_rg (fun i ρ => ∃ (xs : List Int) (r : Int) (s7 s8 s9 s10 : Sl), Rows xs i limit ∧ isBor s7 = false ∧ isBor s8 = false ∧ isBor s9 = false ∧ isBor s10 = false ∧ ρ = [.val S, .val (.int place), .val (.int count), .val (.int limit), .val (.int c), .val (.int r), .own (.lst (xs.map .int)), s7, s8, s9, s10]) ⟨[], r, .emp, .emp, .emp, .emp, ⟨rfl, by simp⟩, rfl, rfl, rfl, rfl, rfl⟩ ?_ ?_
    · rintro i hi ρ ⟨xs, r, s7, s8, s9, s10, hxs, n7, n8, n9, n10, rfl⟩
      refine ⟨_, by simp; exact gNmS_nb n7, ?_⟩
      have hlen : xs.length < 16777216 := by rw [hxs.1]; omega
      by_cases hr : 0 < r
      · have q1 := fMod_pos (p := r) (q := limit) hL
        have q2 := fFdiv_pos (p := r) (q := limit) hL hL2
        refine FL_of (ρ := [.val S, .val (.int place), .val (.int count), .val (.int limit), .val (.int c), .val (.int (r / limit)), .own (.lst ((xs ++ [r % limit]).map .int)), .val (.int i), s8, s9, s10]) ?_ ⟨_, _, _, _, _, _, hxs.snoc (Int.emod_nonneg _ (by omega)) (Int.emod_lt_of_pos _ hL), rfl, n8, n9, n10, rfl⟩
        simp [hr, q1, q2, hlen]
      · refine if_no' (by simp [hr]) ?_
        have i0 : (i : Int) < 10000 := by omega
        have q1 := fMul_l (p := (i : Int)) (q := 69621) (by omega) (by omega)
        have q2 := fMul_l (p := place) (q := 40692) (by omega) (by omega)
        have q3 := fMul_r (p := c) (q := 48271) (by omega) (by omega)
        have q4 := fMod_pos (p := c * 48271 + i * 69621 + place * 40692 + 12345) (q := 2147483647) (by omega)
        have b4 : 0 ≤ (c * 48271 + i * 69621 + place * 40692 + 12345) % 2147483647 ∧ (c * 48271 + i * 69621 + place * 40692 + 12345) % 2147483647 < 2147483647 := ⟨Int.emod_nonneg _ (by omega), Int.emod_lt_of_pos _ (by omega)⟩
        obtain ⟨one, h1⟩ : ∃ x, x = (c * 48271 + i * 69621 + place * 40692 + 12345) % 2147483647 := ⟨_, rfl⟩
        rw [← h1] at q4 b4
        refine seq_nx (ρ1 := [.val S, .val (.int place), .val (.int count), .val (.int limit), .val (.int c), .val (.int r), .own (.lst (xs.map .int)), .val (.int i), .val (.int one), s9, s10]) (by simp [hr, q1, q2, q3, q4, putS_nb, n8]) ?_
        have q5 := fMul_l (p := one) (q := one) (by omega) (by omega)
        have q6 := fMul_r (p := c) (q := 16807) (by omega) (by omega)
        have q7 := fMul_l (p := (i : Int)) (q := 271) (by omega) (by omega)
        have q8 := fMod_pos (p := one * one + c * 16807 + i * 271) (q := 2147483629) (by omega)
        have b8 : 0 ≤ (one * one + c * 16807 + i * 271) % 2147483629 ∧ (one * one + c * 16807 + i * 271) % 2147483629 < 2147483629 := ⟨Int.emod_nonneg _ (by omega), Int.emod_lt_of_pos _ (by omega)⟩
        obtain ⟨two, h2⟩ : ∃ x, x = (one * one + c * 16807 + i * 271) % 2147483629 := ⟨_, rfl⟩
        rw [← h2] at q8 b8
        refine seq_nx (ρ1 := [.val S, .val (.int place), .val (.int count), .val (.int limit), .val (.int c), .val (.int r), .own (.lst (xs.map .int)), .val (.int i), .val (.int one), .val (.int two), s10]) (by simp [q5, q6, q7, q8, putS_nb, n9]) ?_
        have q9 := fMul_l (p := two) (q := two) (by omega) (by omega)
        have q10 := fMul_l (p := one) (q := 7) (by omega) (by omega)
        have q11 := fMod_pos (p := two * two + one * 7 + 1) (q := 2147483587) (by omega)
        obtain ⟨three, h3⟩ : ∃ x, x = (two * two + one * 7 + 1) % 2147483587 := ⟨_, rfl⟩
        rw [← h3] at q11
        refine seq_nx (ρ1 := [.val S, .val (.int place), .val (.int count), .val (.int limit), .val (.int c), .val (.int r), .own (.lst (xs.map .int)), .val (.int i), .val (.int one), .val (.int two), .val (.int three)]) (by simp [q9, q10, q11, putS_nb, n10]) ?_
        have q12 := fFdiv_pos (p := three) (q := 11) (by omega) (by omega)
        have q13 := fMod_pos (p := three / 11) (q := limit) hL
        refine FL_of (ρ := [.val S, .val (.int place), .val (.int count), .val (.int limit), .val (.int c), .val (.int r), .own (.lst ((xs ++ [three / 11 % limit]).map .int)), .val (.int i), .val (.int one), .val (.int two), .val (.int three)]) ?_ ⟨_, _, _, _, _, _, hxs.snoc (Int.emod_nonneg _ (by omega)) (Int.emod_lt_of_pos _ hL), rfl, rfl, rfl, rfl, rfl⟩
        simp [q12, q13, hlen]
    · rintro ρ ⟨xs, r, s7, s8, s9, s10, hxs, n7, n8, n9, n10, rfl⟩
      exact ExRet_ret (by simp; rfl) xs hxs rfl (by simp)
  obtain ⟨xs, h, e⟩ := key
  exact ⟨xs, h, mkF_ret (ds := [script ns, .int place, .int count, .int limit]) rfl e⟩
end Law
set_option Elab.async false
set_option linter.all false
set_option maxRecDepth 100000
set_option maxHeartbeats 2000000
namespace Law
open Dn PySem
open L2 (Key)
/-! ### the law's own same -/
theorem single_eq (x y : D) (hy : isTup y = false) (hp : plainD y = true) : d__law_same_single [.val x, .val y] = .ok (.val (.bool (sameD x y))) [.val x, .val y] := by
  refine mkF_ret (ds := [x, y]) rfl ?_
  cases y <;> first | (cases hy; done) | (cases hp; done) | (cases x <;> simp [sameD, same1, b__law_same_single, isNon, isBool, isInt, isStr, isTup])
theorem law_same_eq (a b : D) (h : wt b ≤ 90000) (hp : plainD b = true) : d__law_same [.val a, .val b] = .ok (.val (.bool (sameD a b))) [.val a, .val b] := by
  refine mkF_ret (ds := [a, b]) rfl ?_
  unfold b__law_same
  show Ret 2 _ (sSeq _ _ [.val a, .val b, .emp, .emp, .emp, .emp, .emp])
  refine seq_nx (ρ1 := [.val a, .val b, .own (.lst [pr (a, b)]), .emp, .emp, .emp, .emp]) (by simp [pr]) ?_
  have e1 := rg1_ok (n := 100000) (by decide) (by decide)
  rw [sSeq_ap, sFor_ap]
  simp [e1]
  refine for_rg (fun i ρ => ∃ (st : List (D × D)) (s3 s4 s5 s6 : Sl), sameD a b = okS st ∧ (∀ p ∈ st, plainD p.2 = true) ∧ wtL (st.map (·.2)) + i ≤ 90000 ∧ isBor s3 = false ∧ isBor s4 = false ∧ isBor s5 = false ∧ isBor s6 = false ∧ ρ = [.val a, .val b, .own (.lst (st.map pr)), s3, s4, s5, s6]) ?_ ?_ ?_
  · exact ⟨[(a, b)], .emp, .emp, .emp, .emp, by simp [okS], by simpa using hp, by simpa [wtL] using h, rfl, rfl, rfl, rfl, rfl⟩
  · rintro i hi ρ ⟨st, s3, s4, s5, s6, he, hpl, hw, n3, n4, n5, n6, rfl⟩
    refine ⟨_, by simp [gNmS_nb, n3]; rfl, ?_⟩
    rcases List.eq_nil_or_concat st with rfl | ⟨st', p, rfl⟩
    · rw [he]
      simp [okS]
    rw [List.concat_eq_append] at *
    obtain ⟨x, y⟩ := p
    have hw' : wtL (st'.map (·.2)) + wt y + i ≤ 90000 := by
      rw [List.map_append, wtL_app] at hw
      simp [wtL] at hw
      omega
    have he' : sameD a b = (okS st' && sameD x y) := by rw [he]; simp [okS]
    have hpy : plainD y = true := hpl (x, y) (by simp)
    have hpl' : ∀ p ∈ st', plainD p.2 = true := fun p hp => hpl p (by simp [hp])
    have hwy := wt_pos y
    have hls : st'.length ≤ wtL (st'.map (·.2)) := by
      have := wtL_len (st'.map (·.2))
      rwa [List.length_map] at this
    have done : sameD x y = false → sameD a b = false := fun q => by rw [he', q]; simp
    refine seq_nx (ρ1 := [.val a, .val b, .own (.lst ((st' ++ [(x, y)]).map pr)), .val (.int i), s4, s5, s6]) (by simp; omega) ?_
    refine seq_nx (ρ1 := [.val a, .val b, .own (.lst (st'.map pr)), .val (.int i), .val x, .val y, s6]) (by simp [pr, gNmS_nb, n4, n5]) ?_
    by_cases hy : isTup y = true
    · cases y <;> first | (cases hy; done) | skip
      rename_i ys
      refine if_yes' (by simp [isTup]) ?_
      by_cases hx : ∃ xs, x = .tuple xs ∧ xs.length = ys.length
      · obtain ⟨xs, rfl, hl⟩ := hx
        have hwt : wt (.tuple ys) = 1 + wtL ys := by simp [wt]
        have hyl := wtL_len ys
        have e1 := rg1_ok (n := (ys.length : Int)) (by omega) (by omega)
        have e2 : sameD (.tuple xs) (.tuple ys) = (xs.zip ys).all fun p => sameD p.1 p.2 := sameL_zip hl
        refine seq_nx (ρ1 := [.val a, .val b, .own (.lst (st'.map pr)), .val (.int i), .val (.tuple xs), .val (.tuple ys), s6]) (by simp [isTup, hl]) ?_
        simp only [sFor_ap, eRg1_ap, toV_ap, eOp1_ap, ePk_ap, gS_succ, gS_zero, o1_ok, toVk_ok, rg1k_ok, fLen_tuple, optR_some, toD_val, e1, sFk_ok, Int.toNat_natCast]
        refine for_lrg (P := FL _ _ _) (fun j ρ => ∃ s6, isBor s6 = false ∧ ρ = [.val a, .val b, .own (.lst ((st' ++ (xs.zip ys).take j).map pr)), .val (.int i), .val (.tuple xs), .val (.tuple ys), s6]) ⟨s6, n6, by simp⟩ ?_ ?_
        · rintro j hj ρ ⟨s6, n6, rfl⟩
          have e3 := fIx_tuple (xs := xs) (p := (j : Int)) (by omega) (by omega)
          have e4 := fIx_tuple (xs := ys) (p := (j : Int)) (by omega) (by omega)
          refine ⟨_, by simp; exact gNmS_nb n6, ?_⟩
          refine FL_of (ρ := [.val a, .val b, .own (.lst ((st' ++ (xs.zip ys).take (j + 1)).map pr)), .val (.int i), .val (.tuple xs), .val (.tuple ys), .val (.int (j : Int))]) ?_ ⟨_, rfl, rfl⟩
          have ez : (xs.zip ys).take (j + 1) = (xs.zip ys).take j ++ [(xs[j]'(by omega), ys[j]'(by omega))] := by
            rw [List.take_succ_eq_append_getElem (by simp; omega), List.getElem_zip]
          have ex : nth xs j .none = xs[j]'(by omega) := nth_lt (by omega)
          have ey : nth ys j .none = ys[j]'(by omega) := nth_lt (by omega)
          rw [ez]
          simp [e3, e4, ex, ey]
          rw [if_pos (by omega)]
          simp [pr]
        · rintro ρ ⟨s6, n6, rfl⟩
          refine ⟨st' ++ (xs.zip ys), Sl.val (.int (i : Int)), Sl.val (.tuple xs), Sl.val (.tuple ys), s6, ?_, ?_, ?_, rfl, rfl, rfl, n6, ?_⟩
          · rw [he', e2]; simp [okS]
          · intro p hp
            rcases List.mem_append.mp hp with hp | hp
            · exact hpl' p hp
            · have hm := List.of_mem_zip (a := p.1) (b := p.2) hp
              have hall : plainL ys = true := hpy
              rw [plainL_all, List.all_eq_true] at hall
              exact hall _ hm.2
          · have : wtL ((xs.zip ys).map (·.2)) = wtL ys := by rw [List.map_snd_zip (by omega)]
            rw [List.map_append, wtL_app, this]
            omega
          · rw [List.take_of_length_le (by simp; omega)]
      · have q : sameD x (.tuple ys) = false := by
          cases x with
          | tuple xs =>
            cases q : sameD (.tuple xs) (.tuple ys) with
            | false => rfl
            | true => exact absurd ⟨xs, rfl, sameL_len q⟩ hx
          | _ => simp [sameD]
        rw [done q]
        cases x with
        | tuple xs =>
          have hl : ¬ xs.length = ys.length := fun z => hx ⟨xs, rfl, z⟩
          simp [isTup, show ¬ ((xs.length : Int) = ys.length) by omega]
        | _ => simp [isTup]
    · have hy : isTup y = false := by simpa using hy
      refine if_no' (by simp [hy]) ?_
      have e := single_eq x y hy hpy
      by_cases q : sameD x y = true
      · rw [q] at e
        refine FL_of (ρ := [.val a, .val b, .own (.lst (st'.map pr)), .val (.int i), .val x, .val y, s6]) (by simp [e]) ⟨st', _, _, _, s6, by rw [he', q]; simp, hpl', by omega, rfl, rfl, rfl, n6, rfl⟩
      · have q' : sameD x y = false := by simpa using q
        rw [q'] at e
        rw [done q']
        simp [e]
  · rintro ρ ⟨st, s3, s4, s5, s6, he, hpl, hw, n3, n4, n5, n6, rfl⟩
    omega
end Law
set_option Elab.async false
set_option linter.all false
set_option maxRecDepth 100000
set_option maxHeartbeats 2000000
namespace Law
open Dn PySem
open L2 (Key)
/-! ### the names -/
theorem s_nil : ("" : Str) = Str.empty := by decide +kernel
theorem chars_join (vs : List Nat) (h : vs.length ≤ 16777216) : fJoin (.str "") (.list (vs.map fun c => .str ⟨#[c]⟩)) = some (.val (.str ⟨vs.toArray⟩)) := by
  have e : vs.map (fun c => PyData.str ⟨#[c]⟩) = (vs.map fun c => (⟨#[c]⟩ : Str)).map .str := by rw [List.map_map]; rfl
  rw [e, s_nil, fJoin_list]
  · congr 3
    apply ext_str
    rw [join0, List.map_map]
    show (vs.map fun c => [c]).flatten = vs
    clear e
    induction vs with
    | nil => rfl
    | cons c r ih => rw [List.map_cons, List.flatten_cons, ih (by simp at h; omega)]; rfl
  · rw [List.map_map]
    have : ((vs.map ((fun x : Str => x.length) ∘ fun c => (⟨#[c]⟩ : Str))).sum) = vs.length := by
      clear h e
      induction vs with
      | nil => rfl
      | cons c r ih => rw [List.map_cons, List.sum_cons, ih, List.length_cons]; show 1 + _ = _; omega
    rw [this]
    show vs.length + _ * 0 ≤ _
    omega
def mk (l : List Nat) : Str := ⟨l.toArray⟩
theorem mk_len (l : List Nat) : (mk l).length = l.length := by unfold mk; simp [Str.length]
theorem mk_cps (l : List Nat) : (mk l).cps.toList = l := id rfl
theorem mk_inj {l m : List Nat} (h : mk l = mk m) : l = m := by
  have := congrArg (fun z : Str => z.cps.toList) h
  exact this
theorem mk_add {l m : List Nat} (h : l.length + m.length ≤ 1000) : fAdd (.str (mk l)) (.str (mk m)) = some (.val (.str (mk (l ++ m)))) := by
  rw [fAdd_str (by rw [mk_len, mk_len]; omega)]
  have : mk l ++ mk m = mk (l ++ m) := ext_str (by rw [Str.cps_append, Array.toList_append]; rfl)
  rw [this]
theorem mk_cut {l : List Nat} {p : Int} (h0 : 0 ≤ p) (h : l.length ≤ 1000) : fSl (.str (mk l)) none (some p) = some (.val (.str (mk (l.take p.toNat)))) := by
  rw [fSl_str (by rw [mk_len]; omega)]
  congr 3
  unfold L2.cutS
  rw [mk_len, sIx_none, sIx_nn h0, mk_cps, List.drop_zero, Nat.sub_zero]
  unfold mk
  congr 2
  rcases Nat.lt_or_ge p.toNat l.length with c | c
  · rw [Nat.min_eq_left (by omega)]
  · rw [Nat.min_eq_right (by omega), List.take_of_length_le (Nat.le_refl _), List.take_of_length_le c]
theorem let_cps : (Str.ofString "abcdefghijklmnopqrstuvwxyz").cps.toList = [97,98,99,100,101,102,103,104,105,106,107,108,109,110,111,112,113,114,115,116,117,118,119,120,121,122] := by
  rw [str_lit]; decide +kernel
theorem let_nth : ∀ j : Nat, j < 26 → nth [97,98,99,100,101,102,103,104,105,106,107,108,109,110,111,112,113,114,115,116,117,118,119,120,121,122] j 0 = 97 + j := by decide
theorem len_of {v : Str} {l : List Nat} (h : v.cps.toList = l) : v.length = l.length := by rw [← h]; rfl
theorem let_ix {j : Int} (h0 : 0 ≤ j) (h1 : j < 26) : fIx (.str (Str.ofString "abcdefghijklmnopqrstuvwxyz")) (.int j) = some (.val (.str (mk [97 + j.toNat]))) := by
  have hl : Str.length (Str.ofString "abcdefghijklmnopqrstuvwxyz") = 26 := len_of let_cps
  rw [fIx_str h0 (by rw [hl]; omega) (by rw [hl]; decide), let_cps, let_nth _ (by omega)]
  rfl
def chL : List Nat := [48,49,50,51,52,53,54,55,56,57,97,98,99,100,101,102,103,104,105,106,107,108,109,110,111,112,113,114,115,116,117,118,119,120,121,122]
theorem chr_cps : (Str.ofString "0123456789abcdefghijklmnopqrstuvwxyz").cps.toList = chL := by
  rw [str_lit]; decide +kernel
theorem chr_ok : ∀ j : Nat, j < 36 → okCh (nth chL j 0) = true := by decide
theorem chr_ix {j : Int} (h0 : 0 ≤ j) (h1 : j < 36) : fIx (.str (Str.ofString "0123456789abcdefghijklmnopqrstuvwxyz")) (.int j) = some (.val (.str ⟨#[nth chL j.toNat 0]⟩)) := by
  have hl : Str.length (Str.ofString "0123456789abcdefghijklmnopqrstuvwxyz") = 36 := len_of chr_cps
  rw [fIx_str h0 (by rw [hl]; omega) (by rw [hl]; decide), chr_cps]
def nmL (way : Int) (T : List Nat) (m a : Nat) : List Nat :=
  if way = 0 then [97 + a / 26, 97 + a % 26] ++ T.take m else if way = 1 then 113 :: (T ++ [97 + a / 26, 97 + a % 26]) else if a < 26 then [97 + a % 26] else [97 + a % 26, 97 + a / 26]
theorem nmL_ok {way : Int} {T : List Nat} {m a : Nat} (hT : T.length ≤ 5) (hc : ∀ c ∈ T, okCh c = true) (ha : a < 676) : isNm (nmL way T m a) = true := by
  have h1 : isLet (97 + a / 26) = true := by unfold isLet; simp; omega
  have h2 : isLet (97 + a % 26) = true := by unfold isLet; simp; omega
  have o1 : okCh (97 + a / 26) = true := by unfold okCh; rw [h1]; rfl
  have o2 : okCh (97 + a % 26) = true := by unfold okCh; rw [h2]; rfl
  have hq : isLet 113 = true := by decide
  have oq : okCh 113 = true := by decide
  unfold nmL
  split
  · unfold isNm
    simp [h1, o1, o2]
    exact ⟨by omega, fun c hc' => hc c (List.mem_of_mem_take hc')⟩
  · split
    · unfold isNm
      simp [hq, oq, o1, o2]
      exact ⟨by omega, hc⟩
    · split
      · unfold isNm; simp [h2, o2]
      · unfold isNm; simp [h2, o1, o2]
theorem nmL_inj {way : Int} {T : List Nat} {m m' a a' : Nat} (ha : a < 676) (ha' : a' < 676) (e : nmL way T m a = nmL way T m' a') : a = a' := by
  unfold nmL at e
  split at e
  · simp at e; omega
  · split at e
    · have := (List.cons_eq_cons.mp e).2
      have := List.append_cancel_left this
      simp at this
      omega
    · split at e <;> split at e <;> simp at e <;> omega
def stepOk (s : Int) : Prop := s = 1 ∨ s = 3 ∨ s = 5 ∨ s = 7 ∨ s = 27 ∨ s = 51 ∨ s = 101 ∨ s = 675
theorem step_inj {s t : Int} (hs : stepOk s) {k k' : Nat} (h : k < 25) (h' : k' < 25) (e : (t + k * s) % 676 = (t + k' * s) % 676) : k = k' := by
  rcases hs with rfl | rfl | rfl | rfl | rfl | rfl | rfl | rfl <;> omega
theorem way_ix {w : Int} (h0 : 0 ≤ w) (h1 : w < 3) : ∃ M : Int, (0 < M ∧ M ≤ 676) ∧ fIx (.list [.int 676, .int 676, .int 40]) (.int w) = some (.val (.int M)) := by
  have : w = 0 ∨ w = 1 ∨ w = 2 := by omega
  rcases this with rfl | rfl | rfl
  · exact ⟨676, by decide, by simp⟩
  · exact ⟨676, by decide, by simp⟩
  · exact ⟨40, by decide, by simp⟩
theorem step_ix {w : Int} (h0 : 0 ≤ w) (h1 : w < 8) : ∃ M : Int, stepOk M ∧ fIx (.list [.int 1, .int 3, .int 5, .int 7, .int 27, .int 51, .int 101, .int 675]) (.int w) = some (.val (.int M)) := by
  have : w = 0 ∨ w = 1 ∨ w = 2 ∨ w = 3 ∨ w = 4 ∨ w = 5 ∨ w = 6 ∨ w = 7 := by omega
  unfold stepOk
  rcases this with rfl | rfl | rfl | rfl | rfl | rfl | rfl | rfl
  · exact ⟨1, by decide, by simp⟩
  · exact ⟨3, by decide, by simp⟩
  · exact ⟨5, by decide, by simp⟩
  · exact ⟨7, by decide, by simp⟩
  · exact ⟨27, by decide, by simp⟩
  · exact ⟨51, by decide, by simp⟩
  · exact ⟨101, by decide, by simp⟩
  · exact ⟨675, by decide, by simp⟩
end Law
set_option Elab.async false
set_option linter.all false
set_option maxRecDepth 100000
set_option maxHeartbeats 2000000
namespace Law
open Dn PySem
open L2 (Key)
def AB : D := .str (Str.ofString "abcdefghijklmnopqrstuvwxyz")
def CH : D := .str (Str.ofString "0123456789abcdefghijklmnopqrstuvwxyz")
theorem names_eq (ns : List Int) (hns : ns.length ≤ 63) (place n : Int) (hp : 0 ≤ place) (hp2 : place < 1000000) (h0 : 0 ≤ n) (h1 : n ≤ 25) :
    ∃ N : List (List Nat), (N.length = n.toNat ∧ (∀ z ∈ N, isNm z = true) ∧ N.Nodup) ∧ d__law_names [.val (script ns), .val (.int place), .val (.int n)] = .ok (.val (.list (N.map fun z => .str (mk z)))) [.val (script ns), .val (.int place), .val (.int n)] := by
  refine mkF_ex (ds := [script ns, .int place, .int n]) (f := fun N : List (List Nat) => .val (.list (N.map fun z => .str (mk z)))) rfl ?_
  obtain ⟨xs, hx, ex⟩ := row_eq ns hns place 10 55440 hp hp2 (by decide) (by decide) (by decide) (by decide)
  obtain ⟨S, hS⟩ : ∃ S, S = script ns := ⟨_, rfl⟩
  rw [← hS] at ex ⊢
  clear hS
  show ExRet 3 _ _ (b__law_names [.val S, .val (.int place), .val (.int n), .emp, .emp, .emp, .emp, .emp, .emp, .emp, .emp, .emp, .emp, .emp, .emp, .emp])
  unfold b__law_names
  obtain ⟨x0, b0, i0⟩ := hx.ix 0 (by decide) (by decide)
  obtain ⟨x1, b1, i1⟩ := hx.ix 1 (by decide) (by decide)
  obtain ⟨x2, b2, i2⟩ := hx.ix 2 (by decide) (by decide)
  obtain ⟨x3, b3, i3⟩ := hx.ix 3 (by decide) (by decide)
  obtain ⟨x9, b9, i9⟩ := hx.ix 9 (by decide) (by decide)
  have m2 := fMod_pos (p := x2) (q := 3) (by decide)
  have bw : 0 ≤ x2 % 3 ∧ x2 % 3 < 3 := ⟨Int.emod_nonneg _ (by decide), Int.emod_lt_of_pos _ (by decide)⟩
  obtain ⟨w, hw⟩ : ∃ w, w = x2 % 3 := ⟨_, rfl⟩
  rw [← hw] at m2 bw
  obtain ⟨M, bM, iM⟩ := way_ix bw.1 bw.2
  have m0 := fMod_pos (p := x0) (q := M) bM.1
  have bt : 0 ≤ x0 % M ∧ x0 % M < M := ⟨Int.emod_nonneg _ (by omega), Int.emod_lt_of_pos _ bM.1⟩
  obtain ⟨t, ht⟩ : ∃ t, t = x0 % M := ⟨_, rfl⟩
  rw [← ht] at m0 bt
  have m1 := fMod_pos (p := x1) (q := 8) (by decide)
  have b8 : 0 ≤ x1 % 8 ∧ x1 % 8 < 8 := ⟨Int.emod_nonneg _ (by decide), Int.emod_lt_of_pos _ (by decide)⟩
  obtain ⟨s, bs, iS⟩ := step_ix b8.1 b8.2
  have m3 := fMod_pos (p := x3) (q := 6) (by decide)
  have b6 : 0 ≤ x3 % 6 ∧ x3 % 6 < 6 := ⟨Int.emod_nonneg _ (by decide), Int.emod_lt_of_pos _ (by decide)⟩
  obtain ⟨e, he⟩ : ∃ e, e = x3 % 6 := ⟨_, rfl⟩
  rw [← he] at m3 b6
  obtain ⟨DR, hDR⟩ : ∃ DR : D, DR = .list (xs.map .int) := ⟨_, rfl⟩
  have hcut : fSl DR (some 4) (some (4 + e)) = some (.fresh (.lst (((xs.take (4 + e).toNat).drop 4).map .int))) := by
    rw [hDR, fSl_list, cut_both (by decide) (by omega), ← List.map_take, ← List.map_drop]
    rfl
  have hxl := hx.1
  obtain ⟨L, hL⟩ : ∃ L, L = (xs.take (4 + e).toNat).drop 4 := ⟨_, rfl⟩
  have hLl : L.length ≤ 5 := by rw [hL, List.length_drop, List.length_take]; omega
  have hLb : ∀ x ∈ L, 0 ≤ x := fun x h => (hx.2 x (List.mem_of_mem_take (List.mem_of_mem_drop (hL ▸ h)))).1
  rw [← hL] at hcut
  rw [← hDR] at ex i0 i1 i2 i3 i9
  have sb : 0 ≤ s ∧ s ≤ 675 := by unfold stepOk at bs; omega
  clear hDR hL ht he hw
  have ea : (.str (Str.ofString "abcdefghijklmnopqrstuvwxyz") : D) = AB := rfl
  have ec : (.str (Str.ofString "0123456789abcdefghijklmnopqrstuvwxyz") : D) = CH := rfl
  refine seq_nx (ρ1 := [.val S, .val (.int place), .val (.int n), .val AB, .emp, .emp, .emp, .emp, .emp, .emp, .emp, .emp, .emp, .emp, .emp, .emp]) (by simp [AB]) ?_
  refine seq_nx (ρ1 := [.val S, .val (.int place), .val (.int n), .val AB, .val CH, .emp, .emp, .emp, .emp, .emp, .emp, .emp, .emp, .emp, .emp, .emp]) (by simp [CH]) ?_
  refine seq_nx (ρ1 := [.val S, .val (.int place), .val (.int n), .val AB, .val CH, .val DR, .emp, .emp, .emp, .emp, .emp, .emp, .emp, .emp, .emp, .emp]) (by simp [ex]) ?_
  refine seq_nx (ρ1 := [.val S, .val (.int place), .val (.int n), .val AB, .val CH, .val DR, .val (.int w), .emp, .emp, .emp, .emp, .emp, .emp, .emp, .emp, .emp]) (by simp [i2, m2]) ?_
  refine seq_nx (ρ1 := [.val S, .val (.int place), .val (.int n), .val AB, .val CH, .val DR, .val (.int w), .val (.int t), .emp, .emp, .emp, .emp, .emp, .emp, .emp, .emp]) (by simp [i0, iM, m0]) ?_
  refine seq_nx (ρ1 := [.val S, .val (.int place), .val (.int n), .val AB, .val CH, .val DR, .val (.int w), .val (.int t), .val (.int s), .emp, .emp, .emp, .emp, .emp, .emp, .emp]) (by simp [i1, m1, iS]) ?_
  obtain ⟨T, hT⟩ : ∃ T, T = L.map fun x => nth chL (x % 36).toNat 0 := ⟨_, rfl⟩
  have e5 := lc_t0 (vs := [15]) (L := L) (inj := .int) (f := fun x => .str ⟨#[nth chL (x % 36).toNat 0]⟩) (mi := eIt (toV (eSlV 5 (oSome (toV (eC (.int 4)))) (oSome (toV (eOp2 fAdd (toV (eC (.int 4))) (toV (eOp2 fMod (toV (eOp1 fInt (toV (eIxV 5 (toV (eC (.int 3))))))) (toV (eC (.int 6))))))))))) (g := gNm 15) (e := eIxV 4 (toV (eOp2 fMod (toV (eOp1 fInt (ePk 15))) (toV (eC (.int 36))))))
    (ρ := [.val S, .val (.int place), .val (.int n), .val AB, .val CH, .val DR, .val (.int w), .val (.int t), .val (.int s), .emp, .emp, .emp, .emp, .emp, .emp, .emp]) (by simp [i3, m3, hcut]) (by simp) (fun x hx => ⟨_, by simp; rfl, (by
      have q := fMod_pos (p := x) (q := 36) (by decide)
      have q2 := chr_ix (j := x % 36) (Int.emod_nonneg _ (by decide)) (Int.emod_lt_of_pos _ (by decide))
      rw [ec] at q2
      simp [q, q2]), by simp⟩) (by omega) rfl
  have ej : fJoin (.str "") (.list (L.map fun x => .str ⟨#[nth chL (x % 36).toNat 0]⟩)) = some (.val (.str (mk T))) := by
    have := chars_join T (by rw [hT, List.length_map]; omega)
    rw [hT, List.map_map] at this
    rw [hT]
    exact this
  have hTl : T.length ≤ 5 := by rw [hT, List.length_map]; exact hLl
  have hTc : ∀ c ∈ T, okCh c = true := fun c hc => by
    rw [hT, List.mem_map] at hc
    obtain ⟨x, _, rfl⟩ := hc
    exact chr_ok _ (by omega)
  refine seq_nx (ρ1 := [.val S, .val (.int place), .val (.int n), .val AB, .val CH, .val DR, .val (.int w), .val (.int t), .val (.int s), .val (.str (mk T)), .emp, .emp, .emp, .emp, .emp, .emp]) (by simp [e5, ej]) ?_
  clear e5 ej hT hcut
  refine seq_nx (ρ1 := [.val S, .val (.int place), .val (.int n), .val AB, .val CH, .val DR, .val (.int w), .val (.int t), .val (.int s), .val (.str (mk T)), .own (.lst []), .emp, .emp, .emp, .emp, .emp]) (by simp) ?_
  have e3 := rg1_ok (n := n) (by omega) (by omega)
  refine seq_for (by simp [e3]; exact ⟨rfl, rfl⟩) ?_
  refine for_rg (fun i ρ => ∃ (m : Nat → Nat) (s11 s12 s13 s14 : Sl), isBor s11 = false ∧ isBor s12 = false ∧ isBor s13 = false ∧ isBor s14 = false ∧ ρ = [.val S, .val (.int place), .val (.int n), .val AB, .val CH, .val DR, .val (.int w), .val (.int t), .val (.int s), .val (.str (mk T)), .own (.lst (((List.range i).map fun k => nmL w T (m k) ((t + k * s) % 676).toNat).map fun z => .str (mk z))), s11, s12, s13, s14, .emp]) ⟨fun _ => 0, .emp, .emp, .emp, .emp, rfl, rfl, rfl, rfl, rfl⟩ ?_ ?_
  · rintro i hi ρ ⟨m, s11, s12, s13, s14, n1, n2, n3, n4, rfl⟩
    have q1 := fMul_l (p := (i : Int)) (q := s) (by omega) (by omega)
    have q2 := fMod_pos (p := t + i * s) (q := 676) (by decide)
    have ba : 0 ≤ (t + i * s) % 676 ∧ (t + i * s) % 676 < 676 := ⟨Int.emod_nonneg _ (by decide), Int.emod_lt_of_pos _ (by decide)⟩
    obtain ⟨a, ha⟩ : ∃ a, a = (t + i * s) % 676 := ⟨_, rfl⟩
    rw [← ha] at q2 ba
    have q3 := fFdiv_pos (p := a) (q := 26) (by decide) (by decide)
    have q4 := let_ix (j := a / 26) (by omega) (by omega)
    have q5 := fMod_pos (p := a) (q := 26) (by decide)
    have q6 := let_ix (j := a % 26) (by omega) (by omega)
    have q7 := fMod_pos (p := i + x9) (q := 6) (by decide)
    have b7 : 0 ≤ (i + x9) % 6 ∧ (i + x9) % 6 < 6 := ⟨Int.emod_nonneg _ (by decide), Int.emod_lt_of_pos _ (by decide)⟩
    rw [ea] at q4 q6
    have step : ∀ (z : List Nat) (m' : Nat), nmL w T m' a.toNat = z → ∀ p q r : Sl, isBor p = false → isBor q = false → isBor r = false → (∃ (mm : Nat → Nat) (s11 s12 s13 s14 : Sl), isBor s11 = false ∧ isBor s12 = false ∧ isBor s13 = false ∧ isBor s14 = false ∧ [.val S, .val (.int place), .val (.int n), .val AB, .val CH, .val DR, .val (.int w), .val (.int t), .val (.int s), .val (.str (mk T)), .own (.lst (((List.range i).map fun k => nmL w T (m k) ((t + k * s) % 676).toNat).map (fun z => .str (mk z)) ++ [.str (mk z)])), .val (.int i), p, q, r, .emp] = ([.val S, .val (.int place), .val (.int n), .val AB, .val CH, .val DR, .val (.int w), .val (.int t), .val (.int s), .val (.str (mk T)), .own (.lst (((List.range (i + 1)).map fun k => nmL w T (mm k) ((t + k * s) % 676).toNat).map fun z => .str (mk z))), s11, s12, s13, s14, .emp] : Dn.Env)) := by
      intro z m' hz p q r n2 n3 n4
      refine ⟨fun k => if k < i then m k else m', .val (.int i), p, q, r, rfl, n2, n3, n4, ?_⟩
      have : ((List.range (i + 1)).map fun k => nmL w T (if k < i then m k else m') ((t + k * s) % 676).toNat) = ((List.range i).map fun k => nmL w T (m k) ((t + k * s) % 676).toNat) ++ [z] := by
        rw [List.range_succ, List.map_append]
        congr 1
        · apply List.map_congr_left
          intro k hk
          rw [if_pos (List.mem_range.mp hk)]
        · simp [← ha, hz]
      rw [this, List.map_append]
      rfl
    obtain ⟨Z, hZ⟩ : ∃ Z, Z = ((List.range i).map fun k => nmL w T (m k) ((t + k * s) % 676).toNat).map fun z => PyData.str (mk z) := ⟨_, rfl⟩
    have hlen : Z.length < 16777216 := by rw [hZ]; simp; omega
    rw [← hZ]
    refine ⟨_, by simp; exact gNmS_nb n1, ?_⟩
    refine seq_nx (ρ1 := [.val S, .val (.int place), .val (.int n), .val AB, .val CH, .val DR, .val (.int w), .val (.int t), .val (.int s), .val (.str (mk T)), .own (.lst Z), .val (.int i), .val (.int a), s13, s14, .emp]) (by simp [q1, q2, putS_nb, n2]) ?_
    refine seq_nx (ρ1 := [.val S, .val (.int place), .val (.int n), .val AB, .val CH, .val DR, .val (.int w), .val (.int t), .val (.int s), .val (.str (mk T)), .own (.lst Z), .val (.int i), .val (.int a), .val (.str (mk [97 + (a / 26).toNat])), s14, .emp]) (by simp [q3, q4, putS_nb, n3]) ?_
    refine seq_nx (ρ1 := [.val S, .val (.int place), .val (.int n), .val AB, .val CH, .val DR, .val (.int w), .val (.int t), .val (.int s), .val (.str (mk T)), .own (.lst Z), .val (.int i), .val (.int a), .val (.str (mk [97 + (a / 26).toNat])), .val (.str (mk [97 + (a % 26).toNat])), .emp]) (by simp [q5, q6, putS_nb, n4]) ?_
    have t1 : (a / 26).toNat = a.toNat / 26 := by omega
    have t2 : (a % 26).toNat = a.toNat % 26 := by omega
    have w3 : w = 0 ∨ w = 1 ∨ w = 2 := by omega
    have a1 := mk_add (l := [97 + a.toNat / 26]) (m := [97 + a.toNat % 26]) (by simp)
    have a2 := mk_add (l := [97 + a.toNat % 26]) (m := [97 + a.toNat / 26]) (by simp)
    have a3 := mk_cut (l := T) (p := (i + x9) % 6) b7.1 (by omega)
    have a4 := mk_add (l := [97 + a.toNat / 26, 97 + a.toNat % 26]) (m := T.take ((i + x9) % 6).toNat) (by simp; omega)
    have a5 : fAdd (.str "q") (.str (mk T)) = some (.val (.str (mk ([113] ++ T)))) := by
      have : ("q" : Str) = mk [113] := by decide +kernel
      rw [this, mk_add (by simp; omega)]
    have a6 := mk_add (l := [113] ++ T) (m := [97 + a.toNat / 26]) (by simp; omega)
    have a7 := mk_add (l := [113] ++ T ++ [97 + a.toNat / 26]) (m := [97 + a.toNat % 26]) (by simp; omega)
    rw [t1, t2]
    rcases w3 with rfl | rfl | rfl
    · refine FL_of (ρ := [.val S, .val (.int place), .val (.int n), .val AB, .val CH, .val DR, .val (.int 0), .val (.int t), .val (.int s), .val (.str (mk T)), .own (.lst (Z ++ [.str (mk ([97 + a.toNat / 26, 97 + a.toNat % 26] ++ T.take ((i + x9) % 6).toNat))])), .val (.int i), .val (.int a), .val (.str (mk [97 + a.toNat / 26])), .val (.str (mk [97 + a.toNat % 26])), .emp]) (by simp at a1 a4; simp [a1, i9, q7, a3, a4, hlen]) (by rw [hZ]; exact step ([97 + a.toNat / 26, 97 + a.toNat % 26] ++ T.take ((i + x9) % 6).toNat) ((i + x9) % 6).toNat (by simp [nmL]) (.val (.int a)) (.val (.str (mk [97 + a.toNat / 26]))) (.val (.str (mk [97 + a.toNat % 26]))) rfl rfl rfl)
    · refine FL_of (ρ := [.val S, .val (.int place), .val (.int n), .val AB, .val CH, .val DR, .val (.int 1), .val (.int t), .val (.int s), .val (.str (mk T)), .own (.lst (Z ++ [.str (mk ([113] ++ T ++ [97 + a.toNat / 26] ++ [97 + a.toNat % 26]))])), .val (.int i), .val (.int a), .val (.str (mk [97 + a.toNat / 26])), .val (.str (mk [97 + a.toNat % 26])), .emp]) (by simp at a5 a6 a7; simp [a5, a6, a7, hlen]) (by rw [hZ]; exact step ([113] ++ T ++ [97 + a.toNat / 26] ++ [97 + a.toNat % 26]) 0 (by simp [nmL]) (.val (.int a)) (.val (.str (mk [97 + a.toNat / 26]))) (.val (.str (mk [97 + a.toNat % 26]))) rfl rfl rfl)
    · by_cases c : a < 26
      · refine FL_of (ρ := [.val S, .val (.int place), .val (.int n), .val AB, .val CH, .val DR, .val (.int 2), .val (.int t), .val (.int s), .val (.str (mk T)), .own (.lst (Z ++ [.str (mk [97 + a.toNat % 26])])), .val (.int i), .val (.int a), .val (.str (mk [97 + a.toNat / 26])), .val (.str (mk [97 + a.toNat % 26])), .emp]) (by simp [c, hlen]) (by rw [hZ]; exact step [97 + a.toNat % 26] 0 (by unfold nmL; rw [if_neg (by decide), if_neg (by decide), if_pos (by omega)]) (.val (.int a)) (.val (.str (mk [97 + a.toNat / 26]))) (.val (.str (mk [97 + a.toNat % 26]))) rfl rfl rfl)
      · refine FL_of (ρ := [.val S, .val (.int place), .val (.int n), .val AB, .val CH, .val DR, .val (.int 2), .val (.int t), .val (.int s), .val (.str (mk T)), .own (.lst (Z ++ [.str (mk ([97 + a.toNat % 26] ++ [97 + a.toNat / 26]))])), .val (.int i), .val (.int a), .val (.str (mk [97 + a.toNat / 26])), .val (.str (mk [97 + a.toNat % 26])), .emp]) (by simp at a2; simp [c, a2, hlen]) (by rw [hZ]; exact step ([97 + a.toNat % 26] ++ [97 + a.toNat / 26]) 0 (by unfold nmL; rw [if_neg (by decide), if_neg (by decide), if_neg (by omega)]; rfl) (.val (.int a)) (.val (.str (mk [97 + a.toNat / 26]))) (.val (.str (mk [97 + a.toNat % 26]))) rfl rfl rfl)
  · rintro ρ ⟨m, s11, s12, s13, s14, n1, n2, n3, n4, rfl⟩
    refine ExRet_ret (by simp; exact ⟨rfl, rfl⟩) ((List.range n.toNat).map fun k => nmL w T (m k) ((t + k * s) % 676).toNat) ⟨by simp, ?_, ?_⟩ (by simp) (by simp)
    · intro z hz
      obtain ⟨k, hk, rfl⟩ := List.mem_map.mp hz
      exact nmL_ok hTl hTc (by omega)
    · rw [List.nodup_iff_pairwise_ne, List.pairwise_map]
      refine (List.nodup_range (n := n.toNat)).imp_of_mem ?_
      intro k k' hk hk' hne e
      have hk := List.mem_range.mp hk
      have hk' := List.mem_range.mp hk'
      refine hne (step_inj (t := t) bs (by omega) (by omega) ?_)
      have := nmL_inj (by omega) (by omega) e
      omega
end Law
set_option Elab.async false
set_option linter.all false
set_option maxRecDepth 100000
set_option maxHeartbeats 2000000
namespace Law
open Dn PySem
open L2 (Key)
/-! ### pairs in order -/
def lx (p q : Int × Int) : Bool := decide (p.1 < q.1 ∨ (p.1 = q.1 ∧ p.2 < q.2))
def pD (p : Int × Int) : D := .tuple [.int p.1, .int p.2]
theorem lx_irr (p : Int × Int) : lx p p = false := by unfold lx; simp
theorem lx_asym {p q : Int × Int} (h : lx p q = true) : lx q p = false := by
  unfold lx at *
  simp at *
  omega
theorem lx_tot {p q : Int × Int} (h : lx p q = false) (h' : lx q p = false) : p = q := by
  unfold lx at *
  simp at h h'
  apply Prod.ext <;> omega
theorem lx_trans {p q r : Int × Int} (h : lx p q = true) (h' : lx q r = true) : lx p r = true := by
  unfold lx at *
  simp at *
  omega
theorem lt_pD (p q : Int × Int) : PySem.W.dataLt (pD p) (pD q) = lx p q := PySem.W.dataLt_ii ..
theorem alike_pD (p q : Int × Int) : PySem.W.alike (pD p) (pD q) = true := by simp [pD, PySem.W.alike, PySem.W.alikeAll]
theorem lay_pD (p : Int × Int) : PyData.canLay0 (pD p) = true := by simp [pD, PyData.canLay0, PyData.canLayAll0]
theorem dep_pD (p : Int × Int) : (pD p).depth ≤ 32 := by simp [pD, PyData.depth, PyData.depthAll]
theorem pD_inj {p q : Int × Int} (h : pD p = pD q) : p = q := by
  unfold pD at h
  simp at h
  exact Prod.ext h.1 h.2
theorem sorted_pairs (Q : List (Int × Int)) (hl : Q.length ≤ 1000) (nd : Q.Nodup) : ∃ O : List (Int × Int), O.Perm Q ∧ O.Pairwise (fun p q => lx p q = true) ∧ fSorted (.list (Q.map pD)) = some (.fresh (.lst (O.map pD))) := by
  have hok : sortOk (Q.map pD) = true := by
    unfold sortOk
    simp only [Bool.and_eq_true, List.all_eq_true, Bool.or_eq_true, List.mem_map]
    refine ⟨?_, .inl ?_, ?_⟩
    · rintro _ ⟨p, _, rfl⟩ _ ⟨q, _, rfl⟩
      exact alike_pD p q
    · rintro _ ⟨p, _, rfl⟩
      rfl
    · rintro _ ⟨p, _, rfl⟩
      exact ⟨lay_pD p, decide_eq_true (dep_pD p)⟩
  refine ⟨Q.mergeSort fun a b => !lx b a, List.mergeSort_perm .., ?_, ?_⟩
  · have h1 := List.pairwise_mergeSort (le := fun a b => !lx b a) (fun a b c h1 h2 => by
      simp at h1 h2 ⊢
      unfold lx at *
      simp at *
      omega) (fun a b => by
      simp
      unfold lx
      simp
      omega) Q
    have h2 : (Q.mergeSort fun a b => !lx b a).Nodup := (List.mergeSort_perm ..).nodup_iff.mpr nd
    refine (h1.and h2).imp ?_
    intro a b ⟨x, y⟩
    cases e : lx a b with
    | true => rfl
    | false =>
      have x : lx b a = false := by simpa using x
      exact absurd (lx_tot e x) y
  · show (if sortOk (Q.map pD) = true ∧ (Q.map pD).length ≤ 16777216 then some (R.fresh (Cell.lst (srt (Q.map pD)))) else none) = _
    rw [if_pos ⟨hok, by rw [List.length_map]; omega⟩]
    unfold srt
    rw [← List.map_mergeSort (r := fun a b => !lx b a)]
    intro a _ b _
    show _ = !PySem.W.dataLt (pD b) (pD a)
    rw [lt_pD]
theorem max_pairs : ∀ (xs : List (Int × Int)) (x : Int × Int), ∃ m, m ∈ x :: xs ∧ PySem.W.maxD (pD x) (xs.map pD) = pD m ∧ ∀ y ∈ x :: xs, lx m y = false
  | [], x => ⟨x, by simp, rfl, by simp [lx_irr]⟩
  | y :: r, x => by
    have e : PySem.W.maxD (pD x) ((y :: r).map pD) = PySem.W.maxD (pD (if lx x y = true then y else x)) (r.map pD) := by
      show List.foldl _ _ _ = List.foldl _ _ _
      rw [List.map_cons, List.foldl_cons, lt_pD]
      split <;> rfl
    obtain ⟨m, h1, h2, h3⟩ := max_pairs r (if lx x y = true then y else x)
    refine ⟨m, ?_, by rw [e, h2], ?_⟩
    · rcases List.mem_cons.mp h1 with h | h
      · rw [h]; split <;> simp
      · simp [h]
    · intro z hz
      have h0 := h3 _ (List.mem_cons_self ..)
      rcases List.mem_cons.mp hz with rfl | hz
      · split at h0
        · rename_i c
          cases q : lx m z with
          | false => rfl
          | true => rw [lx_trans q c] at h0; cases h0
        · exact h0
      · rcases List.mem_cons.mp hz with rfl | hz
        · split at h0
          · exact h0
          · rename_i c
            cases q : lx m z with
            | false => rfl
            | true =>
              have c : lx x z = false := by simpa using c
              cases q2 : lx z x with
              | true => rw [lx_trans q q2] at h0; cases h0
              | false => rw [lx_tot c q2] at h0; rw [h0] at q; cases q
        · exact h3 z (List.mem_cons_of_mem _ hz)
theorem min_pairs : ∀ (xs : List (Int × Int)) (x : Int × Int), ∃ m, m ∈ x :: xs ∧ PySem.W.minD (pD x) (xs.map pD) = pD m ∧ ∀ y ∈ x :: xs, lx y m = false
  | [], x => ⟨x, by simp, rfl, by simp [lx_irr]⟩
  | y :: r, x => by
    have e : PySem.W.minD (pD x) ((y :: r).map pD) = PySem.W.minD (pD (if lx y x = true then y else x)) (r.map pD) := by
      show List.foldl _ _ _ = List.foldl _ _ _
      rw [List.map_cons, List.foldl_cons, lt_pD]
      split <;> rfl
    obtain ⟨m, h1, h2, h3⟩ := min_pairs r (if lx y x = true then y else x)
    refine ⟨m, ?_, by rw [e, h2], ?_⟩
    · rcases List.mem_cons.mp h1 with h | h
      · rw [h]; split <;> simp
      · simp [h]
    · intro z hz
      have h0 := h3 _ (List.mem_cons_self ..)
      rcases List.mem_cons.mp hz with rfl | hz
      · split at h0
        · rename_i c
          cases q : lx z m with
          | false => rfl
          | true => rw [lx_trans c q] at h0; cases h0
        · exact h0
      · rcases List.mem_cons.mp hz with rfl | hz
        · split at h0
          · exact h0
          · rename_i c
            cases q : lx z m with
            | false => rfl
            | true =>
              have c : lx z x = false := by simpa using c
              cases q2 : lx x z with
              | true => rw [lx_trans q2 q] at h0; cases h0
              | false => rw [← lx_tot c q2] at h0; rw [h0] at q; cases q
        · exact h3 z (List.mem_cons_of_mem _ hz)
/-! ### ranks -/
def rank (Q : List (Int × Int)) (q : Int × Int) : Nat := Q.countP fun p => lx p q
theorem rank_at {A B : List (Int × Int)} {q : Int × Int} (h : (A ++ q :: B).Pairwise (fun p q => lx p q = true)) : rank (A ++ q :: B) q = A.length ∧ q ∉ A := by
  rw [List.pairwise_append] at h
  obtain ⟨_, h2, h3⟩ := h
  have h2 : ∀ b ∈ B, lx q b = true := fun b hb => List.rel_of_pairwise_cons h2 hb
  refine ⟨?_, fun hq => ?_⟩
  · unfold rank
    rw [List.countP_append, List.countP_cons, lx_irr, List.countP_eq_length.mpr (fun a ha => h3 a ha q (by simp)), List.countP_eq_zero.mpr (fun b hb => by rw [lx_asym (h2 b hb)]; decide)]
    simp
  · have := h3 q hq q (by simp)
    rw [lx_irr] at this
    cases this
theorem rank_perm {O Q : List (Int × Int)} (h : O.Perm Q) (q : Int × Int) : rank O q = rank Q q := h.countP_eq _
theorem take_rank {O : List (Int × Int)} (h : O.Pairwise (fun p q => lx p q = true)) {q : Int × Int} (hq : q ∈ O) (m : Nat) : q ∈ O.take m ↔ rank O q < m := by
  obtain ⟨A, B, rfl⟩ := List.append_of_mem hq
  obtain ⟨h1, h2⟩ := rank_at h
  rw [h1, List.take_append]
  constructor
  · intro z
    rcases List.mem_append.mp z with z | z
    · exact absurd (List.mem_of_mem_take z) h2
    · have := List.length_pos_of_mem z
      simp at this
      omega
  · intro z
    obtain ⟨k, hk⟩ : ∃ k, m - A.length = k + 1 := ⟨m - A.length - 1, by omega⟩
    rw [hk, List.take_succ_cons]
    simp
theorem rank_count {O : List (Int × Int)} (h : O.Pairwise (fun p q => lx p q = true)) (m : Nat) (hm : m ≤ O.length) : O.countP (fun q => decide (rank O q < m)) = m := by
  have e : O.countP (fun q => decide (rank O q < m)) = O.countP (fun q => decide (q ∈ O.take m)) := List.countP_congr fun q hq => by simp [take_rank h hq m]
  have nd : O.Nodup := h.imp fun {a b} hab e => by subst e; rw [lx_irr] at hab; cases hab
  rw [e]
  have : O = O.take m ++ O.drop m := (List.take_append_drop m O).symm
  have h2 : O.countP (fun q => decide (q ∈ O.take m)) = (O.take m ++ O.drop m).countP (fun q => decide (q ∈ O.take m)) := by rw [← this]
  rw [h2, List.countP_append, List.countP_eq_length.mpr (fun a ha => decide_eq_true ha), List.countP_eq_zero.mpr, List.length_take]
  · omega
  · intro a ha hb
    rw [this, List.nodup_append] at nd
    exact nd.2.2 a (of_decide_eq_true hb) a ha rfl
/-- a set of the lowest -/
theorem low_set {Q : List (Int × Int)} (up : Int × Int → Bool) (m : Nat) (hc : Q.countP up = m) (hlow : ∀ r ∈ Q, ∀ p ∈ Q, up r = true → up p = false → lx r p = true) : ∀ q ∈ Q, (up q = true ↔ rank Q q < m) := by
  intro q hq
  cases hu : up q with
  | true =>
    simp only [true_iff]
    unfold rank
    obtain ⟨A, B, rfl⟩ := List.append_of_mem hq
    have h1 : ∀ l : List (Int × Int), (∀ p ∈ l, p ∈ A ++ q :: B) → l.countP (fun p => lx p q) ≤ l.countP up := fun l hl => List.countP_mono_left fun p hp hlx => by
      cases e : up p with
      | true => rfl
      | false =>
        have := lx_asym (hlow q hq p (hl p hp) hu e)
        rw [this] at hlx
        cases hlx
    have hA := h1 A (fun p hp => by simp [hp])
    have hB := h1 B (fun p hp => by simp [hp])
    rw [List.countP_append, List.countP_cons] at hc ⊢
    rw [lx_irr]
    rw [hu] at hc
    simp at hc ⊢
    omega
  | false =>
    simp only [Bool.false_eq_true, false_iff, Nat.not_lt]
    rw [← hc]
    exact List.countP_mono_left fun p hp hup => hlow p hp q hq hup hu
end Law
set_option Elab.async false
set_option linter.all false
set_option maxRecDepth 100000
set_option maxHeartbeats 2000000
namespace Law
open Dn PySem
open L2 (Key)
section
variable {g : D → Dn.Env → Option Dn.Env} {b k : Dn.Env → SR} {P : SR → Prop} {inj : Nat → D} {ρ : Dn.Env} {n : Nat}
theorem for_rn (I : Nat → Dn.Env → Prop) (h0 : I 0 ρ) (hs : ∀ i, i < n → ∀ ρ, I i ρ → ∃ ρ1, g (inj i) ρ = some ρ1 ∧ FL P k (I (i + 1)) (b ρ1)) (he : ∀ ρ, I n ρ → P (k ρ)) : P (bindS (forL g b ((List.range n).map inj) ρ) k) := by
  refine for_ix I h0 ?_ ?_
  · intro i hi ρ h
    have hi' : i < n := by simpa using hi
    have := hs i hi' ρ h
    simpa using this
  · intro ρ h
    exact he ρ (by simpa using h)
theorem for_rnl (I : Nat → Dn.Env → Prop) (h0 : I 0 ρ) (hs : ∀ i, i < n → ∀ ρ, I i ρ → ∃ ρ1, g (inj i) ρ = some ρ1 ∧ FL P .nx (I (i + 1)) (b ρ1)) (he : ∀ ρ, I n ρ → P (.nx ρ)) : P (forL g b ((List.range n).map inj) ρ) := by
  have := for_rn (k := .nx) I h0 hs he
  rwa [bindS_id] at this
end
def pr2 (z : List Nat) (i : Int) : D := .tuple [.str (mk z), .int i]
def shL (n : Nat) (nm : Nat → List Nat) (am : Nat → Int) : List D := (List.range n).map fun k => pr2 (nm k) (am k)
def shD (n : Nat) (nm : Nat → List Nat) (am : Nat → Int) : D := .tuple (shL n nm am)
def sm (n : Nat) (f : Nat → Int) : Int := ((List.range n).map f).sum
structure Shs (n : Nat) (nm : Nat → List Nat) (w : Nat → Int) : Prop where
  le : n ≤ 24
  ok : ∀ k, k < n → isNm (nm k) = true
  inj : ∀ j, j < n → ∀ k, k < n → nm j = nm k → j = k
  lo : ∀ k, k < n → 0 ≤ w k
  hi : ∀ k, k < n → w k ≤ 10000000
theorem shL_len : (shL n nm am).length = n := by simp [shL]
theorem nm_len {z : List Nat} (h : isNm z = true) : z.length ≤ 8 := by
  unfold isNm at h
  simp at h
  exact h.1.1.2
theorem name_ok {z : List Nat} (h : isNm z = true) : d_is_name [.val (.str (mk z))] = .ok (.val (.bool true)) [.val (.str (mk z))] := by
  have := nm_len h
  have hs : strOk (.str (mk z)) = true := decide_eq_true (by rw [mk_len]; omega)
  rw [is_name_eq _ hs]
  have e : isName (.str (mk z)) = true := h
  rw [e]
theorem in_names {L : List (List Nat)} {z : List Nat} : fIn (.str (mk z)) (.list (L.map fun z => .str (mk z))) = some (.val (.bool (decide (z ∈ L)))) := by
  show Option.map _ (if flatD (.str (mk z)) = true ∧ (L.map fun z => PyData.str (mk z)).all flatD = true then some (inD (.str (mk z)) (L.map fun z => PyData.str (mk z))) else none) = _
  rw [if_pos ⟨rfl, by simp [flatD]⟩]
  show some (R.val (.bool (inD _ _))) = _
  congr 3
  unfold inD
  rw [List.any_map, Bool.eq_iff_iff, List.any_eq_true, decide_eq_true_iff]
  constructor
  · rintro ⟨x, hx, e⟩
    have e : PyData.eqv (.str (mk x)) (.str (mk z)) = true := e
    have : mk x = mk z := by simpa [PyData.eqv] using e
    rwa [mk_inj this] at hx
  · intro h
    exact ⟨z, h, by simp [PyData.eqv]⟩
theorem check_cost_eq {c : Int} (h0 : 0 ≤ c) (h1 : c ≤ 1000000000) : d_check_cost [.val (.int c)] = .ok (.val .none) [.val (.int c)] := by
  refine mkF_nxt (ds := [.int c]) rfl ?_
  have e := is_whole_in_int c 0 1000000000
  have : (decide (0 ≤ c) && decide (c ≤ 1000000000)) = true := by simp; exact ⟨h0, h1⟩
  rw [this] at e
  simp [b_check_cost, e]
section
variable {n : Nat} {nm : Nat → List Nat} {w : Nat → Int}
theorem tup_ok (ds : List D) (a b : Int) (h0 : a ≤ ds.length) (h1 : (ds.length : Int) ≤ b) : d_is_tuple_of [.val (.tuple ds), .val (.int a), .val (.int b)] = .ok (.val (.bool true)) [.val (.tuple ds), .val (.int a), .val (.int b)] := by
  rw [is_tuple_of_eq]
  simp [h0, h1]
theorem check_shares_eq (S : Shs n nm w) : d_check_shares [.val (shD n nm w)] = .ok (.val .none) [.val (shD n nm w)] := by
  refine mkF_nxt (ds := [shD n nm w]) rfl ?_
  unfold b_check_shares shD
  have hle := S.le
  have e1 := tup_ok (shL n nm w) 0 24 (by omega) (by rw [shL_len]; omega)
  refine seq_nx (ρ1 := [.val (.tuple (shL n nm w)), .emp, .emp, .emp, .emp]) (by simp [e1]) ?_
  refine seq_nx (ρ1 := [.val (.tuple (shL n nm w)), .own (.lst []), .emp, .emp, .emp]) (by simp) ?_
  rw [sFor_ap]
  have ei : eIt (toV (eVar 0)) [.val (.tuple (shL n nm w)), .own (.lst []), .emp, .emp, .emp] = .ok (shL n nm w) [.val (.tuple (shL n nm w)), .own (.lst []), .emp, .emp, .emp] := by simp
  rw [ei, sFk_ok]
  obtain ⟨T, hT⟩ : ∃ T, T = (.tuple (shL n nm w) : D) := ⟨_, rfl⟩
  rw [← hT]
  refine for_rnl (P := Nxt 1) (fun i ρ => ∃ s2 s3 s4 : Sl, isBor s2 = false ∧ isBor s3 = false ∧ isBor s4 = false ∧ ρ = [.val T, .own (.lst (((List.range i).map nm).map fun z => .str (mk z))), s2, s3, s4]) ⟨.emp, .emp, .emp, rfl, rfl, rfl, rfl⟩ ?_ ?_
  · rintro i hi ρ ⟨s2, s3, s4, n2, n3, n4, rfl⟩
    obtain ⟨Z, hZ⟩ : ∃ Z, Z = (List.range i).map nm := ⟨_, rfl⟩
    have hl : Z.length < 16777216 := by rw [hZ]; simp; omega
    have hin : nm i ∉ Z := fun h => by
      rw [hZ, List.mem_map] at h
      obtain ⟨j, hj, e⟩ := h
      have hj := List.mem_range.mp hj
      have := S.inj j (by omega) i hi e
      omega
    have eZ : (List.range (i + 1)).map nm = Z ++ [nm i] := by rw [List.range_succ, List.map_append, hZ]; rfl
    rw [← hZ]
    have e2 := tup_ok [.str (mk (nm i)), .int (w i)] 2 2 (by simp) (by simp)
    have e3 := name_ok (S.ok i hi)
    have e4 := in_names (L := Z) (z := nm i)
    rw [decide_eq_false hin] at e4
    have e5 := is_whole_in_int (w i) 0 10000000
    have : (decide (0 ≤ w i) && decide (w i ≤ 10000000)) = true := by simp; exact ⟨S.lo i hi, S.hi i hi⟩
    rw [this] at e5
    refine ⟨_, by simp [gNmS_nb, n2]; rfl, ?_⟩
    refine FL_of (ρ := [.val T, .own (.lst ((Z ++ [nm i]).map fun z => .str (mk z))), .val (pr2 (nm i) (w i)), .val (.str (mk (nm i))), .val (.int (w i))]) ?_ ⟨_, _, _, rfl, rfl, rfl, by rw [eZ]⟩
    simp [pr2, e2, e3, e4, e5, gNmS_nb, n3, n4, hl]
  · rintro ρ ⟨s2, s3, s4, n2, n3, n4, rfl⟩
    simp
theorem sum_ints (L : List Int) : fSum (.list (L.map .int)) = some (.val (.int L.sum)) := by
  show (intsD (L.map .int)).map _ = _
  rw [intsD_map]
  rfl
end
end Law
set_option Elab.async false
set_option linter.all false
set_option maxRecDepth 100000
set_option maxHeartbeats 2000000
namespace Law
open Dn PySem
open L2 (Key)
/-! ### sums over places -/
theorem sm_succ (n : Nat) (f : Nat → Int) : sm (n + 1) f = sm n f + f n := by unfold sm; rw [List.range_succ, List.map_append, List.sum_append]; simp
theorem sm_congr {n : Nat} {f g : Nat → Int} (h : ∀ k, k < n → f k = g k) : sm n f = sm n g := by
  unfold sm
  congr 1
  exact List.map_congr_left fun k hk => h k (List.mem_range.mp hk)
theorem sm_add (n : Nat) (f g : Nat → Int) : sm n (fun k => f k + g k) = sm n f + sm n g := by
  induction n with
  | zero => rfl
  | succ n ih => rw [sm_succ, sm_succ, sm_succ, ih]; omega
theorem sm_mul (n : Nat) (a : Int) (f : Nat → Int) : sm n (fun k => a * f k) = a * sm n f := by
  induction n with
  | zero => simp [sm]
  | succ n ih => rw [sm_succ, sm_succ, ih, Int.mul_add]
theorem sm_nn {n : Nat} {f : Nat → Int} (h : ∀ k, k < n → 0 ≤ f k) : 0 ≤ sm n f := by
  induction n with
  | zero => exact Int.le_refl _
  | succ n ih =>
    rw [sm_succ]
    have := ih fun k hk => h k (by omega)
    have := h n (by omega)
    omega
theorem sm_le {n : Nat} {f g : Nat → Int} (h : ∀ k, k < n → f k ≤ g k) : sm n f ≤ sm n g := by
  induction n with
  | zero => exact Int.le_refl _
  | succ n ih =>
    rw [sm_succ, sm_succ]
    have := ih fun k hk => h k (by omega)
    have := h n (by omega)
    omega
theorem sm_const (n : Nat) (a : Int) : sm n (fun _ => a) = n * a := by
  induction n with
  | zero => simp [sm]
  | succ n ih => rw [sm_succ, ih]; rw [Int.natCast_succ, Int.add_mul]; omega
theorem sm_zero {n : Nat} {f : Nat → Int} (h : ∀ k, k < n → 0 ≤ f k) (h0 : sm n f = 0) : ∀ k, k < n → f k = 0 := by
  induction n with
  | zero => intro k hk; omega
  | succ n ih =>
    rw [sm_succ] at h0
    have h1 := sm_nn (f := f) fun k hk => h k (by omega : k < n + 1)
    have h1 : 0 ≤ sm n f := sm_nn fun k hk => h k (by omega)
    have h2 := h n (by omega)
    intro k hk
    rcases Nat.lt_or_ge k n with c | c
    · exact ih (fun k hk => h k (by omega)) (by omega) k c
    · have : k = n := by omega
      subst this; omega
theorem sm_count (n : Nat) (p : Nat → Bool) : sm n (fun k => if p k = true then 1 else 0) = ((List.range n).countP p : Nat) := by
  induction n with
  | zero => rfl
  | succ n ih =>
    rw [sm_succ, ih, List.range_succ, List.countP_append]
    cases e : p n <;> simp [e]
theorem sum_map {n : Nat} {f : Nat → Int} : fSum (.list ((List.range n).map fun k => .int (f k))) = some (.val (.int (sm n f))) := by
  have := sum_ints ((List.range n).map f)
  rw [List.map_map] at this
  exact this
theorem zip_range {α : Type} (n : Nat) (g : Nat → α) : ((List.range n).map g).zipIdx = (List.range n).map fun k => (g k, k) := by
  apply List.ext_getElem
  · simp
  · intro i h1 h2
    simp
/-! ### the parts -/
def qk (r : Nat → Int) (k : Nat) : Int × Int := (-r k, (k : Int))
def qs (n : Nat) (r : Nat → Int) : List (Int × Int) := (List.range n).map (qk r)
theorem qk_inj {r : Nat → Int} {j k : Nat} (h : qk r j = qk r k) : j = k := by
  have := congrArg Prod.snd h
  unfold qk at this
  exact Int.ofNat_inj.mp this
theorem qs_nodup (n : Nat) (r : Nat → Int) : (qs n r).Nodup := by
  unfold qs
  rw [List.nodup_iff_pairwise_ne, List.pairwise_map]
  exact (List.nodup_range (n := n)).imp fun hne e => hne (qk_inj e)
theorem qs_len : (qs n r).length = n := by simp [qs]
def upB (n : Nat) (r : Nat → Int) (m : Int) (k : Nat) : Bool := decide ((rank (qs n r) (qk r k) : Int) < m)
theorem up_count (n : Nat) (hn : n ≤ 24) (r : Nat → Int) (m : Int) (h0 : 0 ≤ m) (h1 : m ≤ n) : sm n (fun k => if upB n r m k = true then 1 else 0) = m := by
  rw [sm_count]
  obtain ⟨O, hp, hs, _⟩ := sorted_pairs (qs n r) (by rw [qs_len]; omega) (qs_nodup n r)
  have := rank_count hs m.toNat (by rw [hp.length_eq, qs_len]; omega)
  rw [hp.countP_eq] at this
  unfold qs at this
  rw [List.countP_map] at this
  have e : (List.range n).countP (upB n r m) = m.toNat := by
    rw [← this]
    apply List.countP_congr
    intro k hk
    unfold upB
    show _ ↔ (decide (rank O (qk r k) < m.toNat)) = true
    rw [rank_perm hp]
    simp
  rw [e]
  omega
def tot (n : Nat) (w : Nat → Int) : Int := sm n w
def wh (n : Nat) (w : Nat → Int) (c : Int) (k : Nat) : Int := c * w k / sm n w
def rm (n : Nat) (w : Nat → Int) (c : Int) (k : Nat) : Int := c * w k % sm n w
def ms (n : Nat) (w : Nat → Int) (c : Int) : Int := c - sm n (wh n w c)
def dueA (n : Nat) (w : Nat → Int) (c : Int) (k : Nat) : Int := if sm n w = 0 then 0 else wh n w c k + if upB n (rm n w c) (ms n w c) k = true then 1 else 0
theorem ms_eq {n : Nat} {w : Nat → Int} {c : Int} : ms n w c * sm n w = sm n (rm n w c) := by
  have h1 : sm n (fun k => c * w k) = sm n (fun k => sm n w * wh n w c k + rm n w c k) := sm_congr fun k _ => by
    unfold wh rm
    exact (Int.mul_ediv_add_emod _ _).symm
  rw [sm_mul, sm_add, sm_mul] at h1
  unfold ms
  rw [Int.sub_mul, h1, Int.mul_comm (sm n (wh n w c))]
  omega
theorem ms_bd {n : Nat} {w : Nat → Int} {c : Int} (ht : 0 < sm n w) : 0 ≤ ms n w c ∧ ms n w c ≤ n := by
  have h := ms_eq (n := n) (w := w) (c := c)
  have h1 : 0 ≤ sm n (rm n w c) := sm_nn fun k _ => Int.emod_nonneg _ (by omega)
  have h2 : sm n (rm n w c) ≤ n * sm n w := by
    rw [← sm_const]
    exact sm_le fun k _ => Int.le_of_lt (Int.emod_lt_of_pos _ ht)
  rw [← h] at h1 h2
  exact ⟨Int.le_of_mul_le_mul_right (by simpa using h1) ht, Int.le_of_mul_le_mul_right h2 ht⟩
theorem due_sum {n : Nat} {w : Nat → Int} {c : Int} (hn : n ≤ 24) (ht : 0 < sm n w) : sm n (dueA n w c) = c := by
  have h := ms_bd (c := c) ht
  have e : sm n (dueA n w c) = sm n (fun k => wh n w c k + if upB n (rm n w c) (ms n w c) k = true then 1 else 0) := sm_congr fun k _ => by
    unfold dueA
    rw [if_neg (by omega)]
  rw [e, sm_add, up_count _ hn _ _ h.1 h.2]
  unfold ms
  omega
end Law
set_option Elab.async false
set_option linter.all false
set_option maxRecDepth 100000
set_option maxHeartbeats 2000000
namespace Law
open Dn PySem
open L2 (Key)
section
variable {n : Nat} {nm : Nat → List Nat} {w : Nat → Int} {c : Int}
theorem has_weight_eq (hn : n ≤ 24) : d_has_weight [.val (shD n nm w)] = .ok (.val (.bool (decide (0 < sm n w)))) [.val (shD n nm w)] := by
  refine mkF_ret (ds := [shD n nm w]) rfl ?_
  have e := lc_t0 (vs := [1, 2]) (L := List.range n) (inj := fun k => pr2 (nm k) (w k)) (f := fun k => .int (w k)) (mi := eIt (toV (eVar 0))) (g := gTp 2 (gsCons (gNm 1) (gsCons (gNm 2) (gsNil)))) (e := eVar 2)
    (ρ := [.val (shD n nm w), .emp, .emp]) (by simp [shD, shL]) (by simp) (fun x hx => ⟨_, by simp [pr2]; rfl, by simp, by simp⟩) (by simp; omega) rfl
  have es := sum_map (n := n) (f := w)
  obtain ⟨Z, hZ⟩ : ∃ Z, Z = (List.range n).map fun k => (.int (w k) : D) := ⟨_, rfl⟩
  simp [b_has_weight, e, es]
def dvL (n : Nat) (w : Nat → Int) (c : Int) : List D := (List.range n).map fun k => .tuple [.int (wh n w c k), .int (rm n w c k)]
theorem mul_bd {c x : Int} (h0 : 0 ≤ c) (h1 : c ≤ 1000000000) (x0 : 0 ≤ x) (x1 : x ≤ 10000000) : (c * x).natAbs < 2 ^ 1000 := by
  have a : c * x ≤ 1000000000 * 10000000 := Int.mul_le_mul h1 x1 x0 (by decide)
  have b : 0 ≤ c * x := Int.mul_nonneg h0 x0
  have : (c * x).natAbs ≤ 10000000000000000 := by omega
  exact Nat.lt_of_le_of_lt this (by decide)
theorem dues_eq (S : Shs n nm w) (h0 : 0 ≤ c) (h1 : c ≤ 1000000000) (ht : 0 < sm n w) : d_dues [.val (shD n nm w), .val (.int c)] = .ok (.fresh (.lst (dvL n w c))) [.val (shD n nm w), .val (.int c)] := by
  refine mkF_ret (ds := [shD n nm w, .int c]) rfl ?_
  have hn := S.le
  have e := lc_t0 (vs := [3, 4]) (L := List.range n) (inj := fun k => pr2 (nm k) (w k)) (f := fun k => .int (w k)) (mi := eIt (toV (eVar 0))) (g := gTp 2 (gsCons (gNm 3) (gsCons (gNm 4) (gsNil)))) (e := eVar 4)
    (ρ := [.val (shD n nm w), .val (.int c), .emp, .emp, .emp]) (by simp [shD, shL]) (by simp) (fun x hx => ⟨_, by simp [pr2]; rfl, by simp, by simp⟩) (by simp; omega) rfl
  have es := sum_map (n := n) (f := w)
  have e2 := lc_t0 (vs := [3, 4]) (L := List.range n) (inj := fun k => pr2 (nm k) (w k)) (f := fun k => .tuple [.int (wh n w c k), .int (rm n w c k)]) (mi := eIt (toV (eVar 0))) (g := gTp 2 (gsCons (gNm 3) (gsCons (gNm 4) (gsNil)))) (e := eOpN fDivmod (aCons (toV (eOp2 fMul (toV (eVar 1)) (toV (eVar 4)))) (aCons (toV (eVar 2)) (aNil))))
    (ρ := [.val (shD n nm w), .val (.int c), .val (.int (sm n w)), .emp, .emp]) (by simp [shD, shL]) (by simp) (fun x hx => ⟨_, by simp [pr2]; rfl, (by
      have hx := List.mem_range.mp hx
      have b0 := S.lo x hx
      have b1 := S.hi x hx
      have q1 := fMul_l (p := c) (q := w x) (by omega) (by omega)
      have q2 := fDivmod_ok (p := c * w x) (q := sm n w) ht (mul_bd h0 h1 b0 b1)
      simp [q1, q2, wh, rm]), by simp⟩) (by simp; omega) rfl
  unfold b_dues
  refine seq_nx (ρ1 := [.val (shD n nm w), .val (.int c), .val (.int (sm n w)), .emp, .emp]) (by simp [e, es]) ?_
  simp [e2, dvL]
theorem sm_nonneg (S : Shs n nm w) : 0 ≤ sm n w := sm_nn S.lo
theorem enum_list {g : Nat → D} : enumA (.list ((List.range n).map g)) = some ((List.range n).map fun k => .tuple [.int (k : Nat), g k]) := by
  show some _ = some _
  rw [zip_range, List.map_map]
  rfl
theorem enum_tup {g : Nat → D} : enumA (.tuple ((List.range n).map g)) = some ((List.range n).map fun k => .tuple [.int (k : Nat), g k]) := by
  show some _ = some _
  rw [zip_range, List.map_map]
  rfl
/-- what stands after the done ones are raised -/
def chL' (n : Nat) (f : Nat → Int) (r : Nat → Int) (A : List (Int × Int)) : List D := (List.range n).map fun k => .int (f k + if qk r k ∈ A then 1 else 0)
theorem chL_set {f r : Nat → Int} {A : List (Int × Int)} {k : Nat} (hk : k < n) (hA : qk r k ∉ A) : (chL' n f r A).set k (.int (f k + 1)) = chL' n f r (A ++ [qk r k]) := by
  unfold chL'
  apply List.ext_getElem
  · simp
  · intro i h1 h2
    have hi : i < n := by simpa using h2
    rw [List.getElem_set]
    by_cases e : k = i
    · subst e
      rw [if_pos rfl]
      simp
    · rw [if_neg e]
      have : ¬ qk r i = qk r k := fun z => e (qk_inj z).symm
      simp [this]
theorem chL_get {f r : Nat → Int} {A : List (Int × Int)} {k : Nat} (hk : k < n) (hA : qk r k ∉ A) : (chL' n f r A)[k]? = some (.int (f k)) := by
  unfold chL'
  simp [hk, hA]
end
end Law
set_option Elab.async false
set_option linter.all false
set_option maxRecDepth 100000
set_option maxHeartbeats 2000000
namespace Law
open Dn PySem
open L2 (Key)
section
variable {n : Nat} {nm : Nat → List Nat} {w : Nat → Int} {c : Int}
theorem charge_eq (S : Shs n nm w) (h0 : 0 ≤ c) (h1 : c ≤ 1000000000) : d_charge [.val (shD n nm w), .val (.int c)] = .ok (.val (shD n nm (dueA n w c))) [.val (shD n nm w), .val (.int c)] := by
  refine mkF_ret (ds := [shD n nm w, .int c]) rfl ?_
  have hn := S.le
  have k1 := check_shares_eq S
  have k2 := check_cost_eq h0 h1
  have k3 := has_weight_eq (nm := nm) (w := w) hn
  have es : eIt (toV (eVar 0)) [.val (shD n nm w), .val (.int c), .emp, .emp, .emp, .emp, .emp, .emp, .emp, .emp, .emp, .emp] = .ok ((List.range n).map fun k => pr2 (nm k) (w k)) [.val (shD n nm w), .val (.int c), .emp, .emp, .emp, .emp, .emp, .emp, .emp, .emp, .emp, .emp] := by simp [shD, shL]
  have en : ∀ s3 s4 s5 s6 : Sl, eEnumA (toV (eVar 0)) [.val (shD n nm w), .val (.int c), s3, s4, s5, s6, .emp, .emp, .emp, .emp, .emp, .emp] = .ok ((List.range n).map fun k => .tuple [.int (k : Nat), pr2 (nm k) (w k)]) [.val (shD n nm w), .val (.int c), s3, s4, s5, s6, .emp, .emp, .emp, .emp, .emp, .emp] := fun s3 s4 s5 s6 => by
    have := enum_tup (n := n) (g := fun k => pr2 (nm k) (w k))
    simp [shD, shL, this]
  unfold b_charge
  have s0 := sm_nonneg S
  by_cases ht : sm n w = 0
  · have e1 := lc_t0 (vs := [10, 11]) (f := fun k => .tuple [.str (mk (nm k)), .int 0]) (g := gTp 2 (gsCons (gNm 10) (gsCons (gNm 11) (gsNil)))) (e := eOpN fTup (aCons (toV (eVar 10)) (aCons (toV (eC (.int 0))) (aNil)))) es (by simp) (fun x hx => ⟨_, by simp [pr2]; rfl, by simp, by simp⟩) (by simp; omega) rfl
    have ed : shD n nm (dueA n w c) = .tuple ((List.range n).map fun k => .tuple [.str (mk (nm k)), .int 0]) := by
      unfold shD shL pr2 dueA
      simp only [ht, if_true]
    have e2 : decide (0 < sm n w) = false := decide_eq_false (by omega)
    rw [e2] at k3
    rw [ed]
    generalize shD n nm w = T at *
    generalize (List.range n).map (fun k => PyData.tuple [.str (mk (nm k)), .int 0]) = Z at *
    simp [k1, k2, k3, e1]
  · have hp : 0 < sm n w := by omega
    have k4 := dues_eq S h0 h1 hp
    have e2 : decide (0 < sm n w) = true := decide_eq_true hp
    have hm := ms_bd (c := c) hp
    rw [e2] at k3
    obtain ⟨O, op, os, of⟩ := sorted_pairs (qs n (rm n w c)) (by rw [qs_len]; omega) (qs_nodup _ _)
    have eq : (qs n (rm n w c)).map pD = (List.range n).map fun k => .tuple [.int (-rm n w c k), .int (k : Nat)] := by
      unfold qs
      rw [List.map_map]
      rfl
    rw [eq] at of
    obtain ⟨T, hT⟩ : ∃ T, T = shD n nm w := ⟨_, rfl⟩
    rw [← hT] at k1 k3 k4 ⊢
    refine seq_nx (ρ1 := [.val T, .val (.int c), .emp, .emp, .emp, .emp, .emp, .emp, .emp, .emp, .emp, .emp]) (by simp [k1]) ?_
    refine seq_nx (ρ1 := [.val T, .val (.int c), .emp, .emp, .emp, .emp, .emp, .emp, .emp, .emp, .emp, .emp]) (by simp [k2]) ?_
    refine seq_nx (ρ1 := [.val T, .val (.int c), .emp, .emp, .emp, .emp, .emp, .emp, .emp, .emp, .emp, .emp]) (by simp [k3]) ?_
    obtain ⟨V, hV⟩ : ∃ V, V = dvL n w c := ⟨_, rfl⟩
    have hV2 : (PyData.list V) = .list ((List.range n).map fun k => .tuple [.int (wh n w c k), .int (rm n w c k)]) := by rw [hV]; rfl
    rw [← hV] at k4
    refine seq_nx (ρ1 := [.val T, .val (.int c), .own (.lst V), .emp, .emp, .emp, .emp, .emp, .emp, .emp, .emp, .emp]) (by simp [k4]) ?_
    have e3 := lc_tyv (vs := [7, 8]) (L := List.range n) (inj := fun k => .tuple [.int (wh n w c k), .int (rm n w c k)]) (f := fun k => .int (wh n w c k)) (mi := eIt (toV (eVar 2))) (g := gTp 2 (gsCons (gNm 7) (gsCons (gNm 8) (gsNil)))) (e := eVar 7)
      (ρ := [.val T, .val (.int c), .own (.lst V), .emp, .emp, .emp, .emp, .emp, .emp, .emp, .emp, .emp]) (ρ1 := [.val T, .val (.int c), .val (.list V), .emp, .emp, .emp, .emp, .emp, .emp, .emp, .emp, .emp]) (by rw [hV]; simp [dvL]) (by simp) rfl (fun x hx => ⟨_, by simp; rfl, by simp, by simp⟩) (by simp; omega) rfl
    have ec : ((List.range n).map fun k => PyData.int (wh n w c k)) = chL' n (wh n w c) (rm n w c) [] := by simp [chL']
    have esum := sum_map (n := n) (f := wh n w c)
    rw [ec] at e3 esum
    obtain ⟨CH0, hC⟩ : ∃ L, L = chL' n (wh n w c) (rm n w c) [] := ⟨_, rfl⟩
    rw [← hC] at e3 esum
    refine seq_nx (ρ1 := [.val T, .val (.int c), .val (.list V), .own (.lst CH0), .emp, .emp, .emp, .emp, .emp, .emp, .emp, .emp]) (by simp [e3]) ?_
    refine seq_nx (ρ1 := [.val T, .val (.int c), .val (.list V), .own (.lst CH0), .val (.int (ms n w c)), .emp, .emp, .emp, .emp, .emp, .emp, .emp]) (by simp [esum, ms]) ?_
    have e4 := lc_t0 (vs := [9, 7, 8]) (L := List.range n) (inj := fun k => .tuple [.int (k : Nat), .tuple [.int (wh n w c k), .int (rm n w c k)]]) (f := fun k => .tuple [.int (-rm n w c k), .int (k : Nat)]) (mi := eEnumA (toV (eVar 2))) (g := gTp 2 (gsCons (gNm 9) (gsCons (gTp 2 (gsCons (gNm 7) (gsCons (gNm 8) (gsNil)))) (gsNil)))) (e := eOpN fTup (aCons (toV (eOp1 fNeg (toV (eVar 8)))) (aCons (toV (eVar 9)) (aNil))))
      (ρ := [.val T, .val (.int c), .val (.list V), .own (.lst CH0), .val (.int (ms n w c)), .emp, .emp, .emp, .emp, .emp, .emp, .emp]) (by
        have := enum_list (n := n) (g := fun k => .tuple [.int (wh n w c k), .int (rm n w c k)])
        rw [← hV2] at this
        simp [this]) (by simp) (fun x hx => ⟨_, by simp; rfl, by simp, by simp⟩) (by simp; omega) rfl
    generalize (List.range n).map (fun k => PyData.tuple [.int (-rm n w c k), .int (k : Nat)]) = Y at e4 of
    refine seq_nx (ρ1 := [.val T, .val (.int c), .val (.list V), .own (.lst CH0), .val (.int (ms n w c)), .own (.lst (O.map pD)), .emp, .emp, .emp, .emp, .emp, .emp]) (by simp [e4, of]) ?_
    have ei : eIt (toV (eSlV 5 (oNone) (oSome (toV (eVar 4))))) [.val T, .val (.int c), .val (.list V), .own (.lst CH0), .val (.int (ms n w c)), .own (.lst (O.map pD)), .emp, .emp, .emp, .emp, .emp, .emp] = .ok ((O.take (ms n w c).toNat).map pD) [.val T, .val (.int c), .val (.list V), .own (.lst CH0), .val (.int (ms n w c)), .own (.lst (O.map pD)), .emp, .emp, .emp, .emp, .emp, .emp] := by
      simp [hm.1]
    refine seq_for ei ?_
    have nd : O.Nodup := op.nodup_iff.mpr (qs_nodup _ _)
    have ndt : (O.take (ms n w c).toNat).Nodup := (List.take_sublist _ _).nodup nd
    refine for_ty (fun A ρ => ∃ s6, isBor s6 = false ∧ ρ = [.val T, .val (.int c), .val (.list V), .own (.lst (chL' n (wh n w c) (rm n w c) A)), .val (.int (ms n w c)), .own (.lst (O.map pD)), s6, .emp, .emp, .emp, .emp, .emp]) ⟨.emp, rfl, by rw [hC]⟩ ?_ ?_
    · rintro A q B ρ eL ⟨s6, n6, rfl⟩
      have hq : q ∈ qs n (rm n w c) := op.mem_iff.mp (List.mem_of_mem_take (by rw [eL]; simp))
      unfold qs at hq
      obtain ⟨k, hk, rfl⟩ := List.mem_map.mp hq
      have hk := List.mem_range.mp hk
      have hA : qk (rm n w c) k ∉ A := fun h => by
        rw [eL, List.nodup_append] at ndt
        exact ndt.2.2 _ h _ (by simp) rfl
      have g1 := chL_get (f := wh n w c) (r := rm n w c) hk hA
      have g2 := chL_set (f := wh n w c) (r := rm n w c) hk hA
      have g3 : (chL' n (wh n w c) (rm n w c) A).length = n := by simp [chL']
      rw [← g2]
      generalize chL' n (wh n w c) (rm n w c) A = Z at *
      refine ⟨_, by simp [pD, gNmS_nb, n6]; rfl, ?_⟩
      refine FL_of (ρ := [.val T, .val (.int c), .val (.list V), .own (.lst (Z.set k (.int (wh n w c k + 1)))), .val (.int (ms n w c)), .own (.lst (O.map pD)), .val (pD (qk (rm n w c) k)), .emp, .emp, .emp, .emp, .emp]) ?_ ⟨_, rfl, rfl⟩
      have x1 : fIx (pD (qk (rm n w c) k)) (.int 1) = some (.val (.int (k : Int))) := by simp [pD, qk]
      have x2 := ag1_own (i := 3) (n := (k : Int)) (f := fAddI) (b := toV (eC (.int 1))) (xs := Z) (x := .int (wh n w c k)) (ρ := [.val T, .val (.int c), .val (.list V), .own (.lst Z), .val (.int (ms n w c)), .own (.lst (O.map pD)), .val (pD (qk (rm n w c) k)), .emp, .emp, .emp, .emp, .emp]) (by omega) (by simpa using g1)
      have x3 : (k : Int) < Z.length := by omega
      have e5 : (PyData.tuple [.int (qk (rm n w c) k).1, .int (qk (rm n w c) k).2]) = pD (qk (rm n w c) k) := rfl
      rw [e5]
      simp [x1, x2, x3]
    · rintro ρ ⟨s6, n6, rfl⟩
      have hd : shD n nm (dueA n w c) = .tuple ((List.range n).map fun k => .tuple [.str (mk (nm k)), .int (wh n w c k + if qk (rm n w c) k ∈ O.take (ms n w c).toNat then 1 else 0)]) := by
        unfold shD shL pr2
        congr 1
        apply List.map_congr_left
        intro k hk
        have hk := List.mem_range.mp hk
        have hq : qk (rm n w c) k ∈ O := op.mem_iff.mpr (List.mem_map.mpr ⟨k, List.mem_range.mpr hk, rfl⟩)
        have t := take_rank os hq (ms n w c).toNat
        rw [rank_perm op] at t
        unfold dueA upB
        rw [if_neg ht]
        have t2 : (decide ((rank (qs n (rm n w c)) (qk (rm n w c) k) : Int) < ms n w c) = true) ↔ qk (rm n w c) k ∈ O.take (ms n w c).toNat := by
          rw [t, decide_eq_true_iff]; omega
        simp only [t2]
      rw [hd]
      have e6 := lc_t0 (vs := [9, 10, 11]) (L := List.range n) (inj := fun k => .tuple [.int (k : Nat), pr2 (nm k) (w k)]) (f := fun k => .tuple [.str (mk (nm k)), .int (wh n w c k + if qk (rm n w c) k ∈ O.take (ms n w c).toNat then 1 else 0)]) (mi := eEnumA (toV (eVar 0))) (g := gTp 2 (gsCons (gNm 9) (gsCons (gTp 2 (gsCons (gNm 10) (gsCons (gNm 11) (gsNil)))) (gsNil)))) (e := eOpN fTup (aCons (toV (eVar 10)) (aCons (toV (eIxV 3 (toV (eVar 9)))) (aNil))))
        (ρ := [.val T, .val (.int c), .val (.list V), .own (.lst (chL' n (wh n w c) (rm n w c) (O.take (ms n w c).toNat))), .val (.int (ms n w c)), .own (.lst (O.map pD)), s6, .emp, .emp, .emp, .emp, .emp]) (by
          have := enum_tup (n := n) (g := fun k => pr2 (nm k) (w k))
          rw [hT]
          simp [shD, shL, this]) (by simp) (fun x hx => ⟨_, by simp [pr2]; rfl, (by
            have hx := List.mem_range.mp hx
            have l3 : (chL' n (wh n w c) (rm n w c) (O.take (ms n w c).toNat)).length = n := by simp [chL']
            have g1 := fIx_list (xs := chL' n (wh n w c) (rm n w c) (O.take (ms n w c).toNat)) (p := (x : Int)) (by omega) (by omega)
            have g2 : nth (chL' n (wh n w c) (rm n w c) (O.take (ms n w c).toNat)) x .none = .int (wh n w c x + if qk (rm n w c) x ∈ O.take (ms n w c).toNat then 1 else 0) := by
              rw [nth_lt (by omega)]
              unfold chL'
              simp
            rw [Int.toNat_natCast, g2] at g1
            generalize chL' n (wh n w c) (rm n w c) (O.take (ms n w c).toNat) = Z at g1
            simp [g1]), by simp⟩) (by simp; omega) rfl
      generalize (List.range n).map (fun k => PyData.tuple [.str (mk (nm k)), .int (wh n w c k + if qk (rm n w c) k ∈ O.take (ms n w c).toNat then 1 else 0)]) = Z at *
      generalize chL' n (wh n w c) (rm n w c) (O.take (ms n w c).toNat) = Z2 at *
      simp [e6]
end
end Law
set_option Elab.async false
set_option linter.all false
set_option maxRecDepth 100000
set_option maxHeartbeats 2000000
namespace Law
open Dn PySem
open L2 (Key)
theorem fInt_b {b : Bool} : fInt (.bool b) = some (.val (.int (if b then 1 else 0))) := id rfl
section
variable {n : Nat} {nm : Nat → List Nat} {w am : Nat → Int} {c : Int}
theorem sh_ix {k : Nat} (hk : k < n) : fIx (shD n nm am) (.int (k : Int)) = some (.val (pr2 (nm k) (am k))) := by
  unfold shD
  rw [fIx_tuple (by omega) (by rw [shL_len]; omega), Int.toNat_natCast, nth_lt (by rw [shL_len]; exact hk)]
  simp [shL]
theorem ls_ix {f : Nat → Int} {k : Nat} (hk : k < n) : fIx (.list ((List.range n).map fun k => .int (f k))) (.int (k : Int)) = some (.val (.int (f k))) := by
  rw [fIx_list (by omega) (by simp; omega), Int.toNat_natCast, nth_lt (by simpa using hk)]
  simp
theorem rank_count' {r : Nat → Int} (k : Nat) : ((List.range n).filter fun j => decide (r k < r j) || (decide (r j = r k) && decide (j < k))).length = rank (qs n r) (qk r k) := by
  rw [← List.countP_eq_length_filter]
  unfold rank qs
  rw [List.countP_map]
  apply List.countP_congr
  intro j _
  show _ ↔ lx (qk r j) (qk r k) = true
  unfold lx qk
  simp
theorem rgD_map (n : Nat) : rgD 0 n = (List.range n).map fun k => .int (k : Nat) := by
  apply List.ext_getElem
  · simp [rgD_len]
  · intro i h1 h2
    rw [rgD_get h1]
    simp
theorem law_due_eq (S : Shs n nm w) (h0 : 0 ≤ c) (h1 : c ≤ 1000000000) : d__law_due [.val (shD n nm w), .val (.int c)] = .ok (.val (shD n nm (dueA n w c))) [.val (shD n nm w), .val (.int c)] := by
  refine mkF_ret (ds := [shD n nm w, .int c]) rfl ?_
  have hn := S.le
  have s0 := sm_nonneg S
  have st : sm n w ≤ n * 10000000 := by rw [← sm_const]; exact sm_le S.hi
  have ei : ∀ s2 s3 s4 s5 s6 s7 s8 s9 s10 : Sl, eIt (toV (eVar 0)) [.val (shD n nm w), .val (.int c), s2, s3, s4, s5, s6, s7, s8, s9, s10] = .ok ((List.range n).map fun k => pr2 (nm k) (w k)) [.val (shD n nm w), .val (.int c), s2, s3, s4, s5, s6, s7, s8, s9, s10] := fun _ _ _ _ _ _ _ _ _ => by simp [shD, shL]
  have el : fLen (shD n nm w) = some (.val (.int (n : Int))) := by simp [shD, shL_len]
  have er3 := rg1_ok (n := (n : Int)) (by omega) (by omega)
  rw [Int.toNat_natCast, rgD_map] at er3
  have er : ∀ s2 s3 s4 s5 s6 s7 s8 s9 s10 : Sl, eRg1 (toV (eOp1 fLen (ePk 0))) [.val (shD n nm w), .val (.int c), s2, s3, s4, s5, s6, s7, s8, s9, s10] = .ok ((List.range n).map fun k => .int (k : Nat)) [.val (shD n nm w), .val (.int c), s2, s3, s4, s5, s6, s7, s8, s9, s10] := fun _ _ _ _ _ _ _ _ _ => by simp [el, er3]
  have hS : ∀ k, k < n → fIx (shD n nm w) (.int (k : Int)) = some (.val (pr2 (nm k) (w k))) := fun k hk => sh_ix hk
  have hR : ∀ k, k < n → fIx (.list ((List.range n).map fun k => .int (rm n w c k))) (.int (k : Int)) = some (.val (.int (rm n w c k))) := fun k hk => ls_ix hk
  have hW : ∀ k, k < n → fIx (.list ((List.range n).map fun k => .int (wh n w c k))) (.int (k : Int)) = some (.val (.int (wh n w c k))) := fun k hk => ls_ix hk
  have es := sum_map (n := n) (f := w)
  have esw := sum_map (n := n) (f := wh n w c)
  have ed : shD n nm (dueA n w c) = .tuple ((List.range n).map fun k => pr2 (nm k) (dueA n w c k)) := rfl
  obtain ⟨T, hT⟩ : ∃ T, T = shD n nm w := ⟨_, rfl⟩
  rw [← hT] at el ⊢
  simp only [← hT] at ei er hS
  unfold b__law_due
  show Ret 2 _ (sSeq _ _ [.val T, .val (.int c), .emp, .emp, .emp, .emp, .emp, .emp, .emp, .emp, .emp])
  have e1 := lc_t0 (vs := [9]) (f := fun k => .int (w k)) (g := gNm 9) (e := eIxV 9 (toV (eC (.int 1)))) (ei .emp .emp .emp .emp .emp .emp .emp .emp .emp) (by simp) (fun x hx => ⟨_, by simp [pr2]; rfl, by simp, by simp⟩) (by simp; omega) rfl
  refine seq_nx (ρ1 := [.val T, .val (.int c), .val (.int (sm n w)), .emp, .emp, .emp, .emp, .emp, .emp, .emp, .emp]) (by simp [e1, es]) ?_
  by_cases ht : sm n w = 0
  · have e2 := lc_t0 (vs := [9]) (f := fun k => .tuple [.str (mk (nm k)), .int 0]) (g := gNm 9) (e := eOpN fTup (aCons (toV (eIxV 9 (toV (eC (.int 0))))) (aCons (toV (eC (.int 0))) (aNil)))) (ei (.val (.int 0)) .emp .emp .emp .emp .emp .emp .emp .emp) (by simp) (fun x hx => ⟨_, by simp [pr2]; rfl, by simp, by simp⟩) (by simp; omega) rfl
    have ed : shD n nm (dueA n w c) = .tuple ((List.range n).map fun k => .tuple [.str (mk (nm k)), .int 0]) := by
      unfold shD shL pr2 dueA
      simp only [ht, if_true]
    rw [ed, ht]
    generalize (List.range n).map (fun k => PyData.tuple [.str (mk (nm k)), .int 0]) = Z at *
    simp [e2]
  · have hp : 0 < sm n w := by omega
    refine seq_nx (ρ1 := [.val T, .val (.int c), .val (.int (sm n w)), .emp, .emp, .emp, .emp, .emp, .emp, .emp, .emp]) (by simp [ht]) ?_
    have e3 := lc_t0 (vs := [9]) (f := fun k => .int (wh n w c k)) (g := gNm 9) (e := eOp2 fFdiv (toV (eOp2 fMul (toV (eVar 1)) (toV (eIxV 9 (toV (eC (.int 1))))))) (toV (eVar 2))) (ei (.val (.int (sm n w))) .emp .emp .emp .emp .emp .emp .emp .emp) (by simp) (fun x hx => ⟨_, by simp [pr2]; rfl, (by
      have q1 := fMul_l (p := c) (q := w x) (by omega) (by omega)
      have q2 := fFdiv_pos (p := c * w x) (q := sm n w) hp (by omega)
      simp [q1, q2, wh]), by simp⟩) (by simp; omega) rfl
    obtain ⟨WL, hWL⟩ : ∃ L, L = (List.range n).map fun k => PyData.int (wh n w c k) := ⟨_, rfl⟩
    rw [← hWL] at e3 esw hW
    refine seq_nx (ρ1 := [.val T, .val (.int c), .val (.int (sm n w)), .own (.lst WL), .emp, .emp, .emp, .emp, .emp, .emp, .emp]) (by simp [e3]) ?_
    have e4 := lc_t0 (vs := [7]) (f := fun k => .int (rm n w c k)) (g := gNm 7) (e := eOp2 fSub (toV (eOp2 fMul (toV (eVar 1)) (toV (eOp2 fIx (toV (eIxV 0 (toV (eVar 7)))) (toV (eC (.int 1))))))) (toV (eOp2 fMul (toV (eIxV 3 (toV (eVar 7)))) (toV (eVar 2))))) (er (.val (.int (sm n w))) (.own (.lst WL)) .emp .emp .emp .emp .emp .emp .emp) (by simp) (fun x hx => ⟨_, by simp; rfl, (by
      have hx := List.mem_range.mp hx
      have i1 := hS x hx
      have i2 := hW x hx
      have i3 : fIx (pr2 (nm x) (w x)) (.int 1) = some (.val (.int (w x))) := by simp [pr2]
      have q1 := fMul_l (p := c) (q := w x) (by omega) (by omega)
      have q2 := fMul_r (p := wh n w c x) (q := sm n w) (by omega) (by omega)
      have q3 : c * w x - wh n w c x * sm n w = rm n w c x := by
        unfold wh rm
        have := Int.mul_ediv_add_emod (c * w x) (sm n w)
        rw [Int.mul_comm] at this
        omega
      simp [i1, i2, i3, q1, q2, q3]), by simp⟩) (by simp; omega) rfl
    obtain ⟨RL, hRL⟩ : ∃ L, L = (List.range n).map fun k => PyData.int (rm n w c k) := ⟨_, rfl⟩
    rw [← hRL] at e4 hR
    refine seq_nx (ρ1 := [.val T, .val (.int c), .val (.int (sm n w)), .own (.lst WL), .own (.lst RL), .emp, .emp, .emp, .emp, .emp, .emp]) (by simp [e4]) ?_
    refine seq_nx (ρ1 := [.val T, .val (.int c), .val (.int (sm n w)), .own (.lst WL), .own (.lst RL), .val (.int (ms n w c)), .emp, .emp, .emp, .emp, .emp]) (by simp [esw, ms]) ?_
    refine seq_nx (ρ1 := [.val T, .val (.int c), .val (.int (sm n w)), .own (.lst WL), .own (.lst RL), .val (.int (ms n w c)), .own (.lst []), .emp, .emp, .emp, .emp]) (by simp) ?_
    refine seq_for (er _ _ _ _ _ _ _ _ _) ?_
    refine for_rn (fun i ρ => ∃ s7 s8, isBor s7 = false ∧ isBor s8 = false ∧ ρ = [.val T, .val (.int c), .val (.int (sm n w)), .own (.lst WL), .own (.lst RL), .val (.int (ms n w c)), .own (.lst ((List.range i).map fun k => pr2 (nm k) (dueA n w c k))), s7, s8, .emp, .emp]) ⟨.emp, .emp, rfl, rfl, rfl⟩ ?_ ?_
    · rintro i hi ρ ⟨s7, s8, n7, n8, rfl⟩
      have hs1 : (List.range (i + 1)).map (fun k => pr2 (nm k) (dueA n w c k)) = (List.range i).map (fun k => pr2 (nm k) (dueA n w c k)) ++ [pr2 (nm i) (dueA n w c i)] := by rw [List.range_succ, List.map_append]; rfl
      have hl : ((List.range i).map (fun k => pr2 (nm k) (dueA n w c k))).length < 16777216 := by simp; omega
      rw [hs1]
      generalize (List.range i).map (fun k => pr2 (nm k) (dueA n w c k)) = Z at *
      refine ⟨_, by simp; exact gNmS_nb n7, ?_⟩
      have e5 := lc_f0 (vs := [10]) (f := fun k => .int (k : Nat)) (p := fun j => decide (rm n w c i < rm n w c j) || (decide (rm n w c j = rm n w c i) && decide (j < i))) (g := gNm 10) (e := eVar 10) (t := tOrD (tBoolD (eOp2 fGt (toV (eIxV 4 (toV (eVar 10)))) (toV (eIxV 4 (toV (eVar 7)))))) (tAndD (tBoolD (eOp2 fEq (toV (eIxV 4 (toV (eVar 10)))) (toV (eIxV 4 (toV (eVar 7)))))) (tBoolD (eOp2 fLt (toV (eVar 10)) (toV (eVar 7))))))
        (er (.val (.int (sm n w))) (.own (.lst WL)) (.own (.lst RL)) (.val (.int (ms n w c))) (.own (.lst Z)) (.val (.int (i : Nat))) s8 .emp .emp) (by simp) (fun x hx => ⟨_, by simp; rfl, (by
        have hx := List.mem_range.mp hx
        have i1 := hR x hx
        have i2 := hR i hi
        by_cases a1 : rm n w c i < rm n w c x
        · simp [i1, i2, a1]
        · by_cases a2 : rm n w c x = rm n w c i
          · rw [a2] at i1 a1
            simp [i1, i2, a2]
          · simp [i1, i2, a1, a2]), (fun _ => by simp), by simp⟩) (by simp; omega) rfl
      have e6 : fLen (.list (((List.range n).filter fun j => decide (rm n w c i < rm n w c j) || (decide (rm n w c j = rm n w c i) && decide (j < i))).map fun k => PyData.int (k : Nat))) = some (.val (.int (rank (qs n (rm n w c)) (qk (rm n w c) i) : Int))) := by
        rw [fLen_list, List.length_map, rank_count']
      generalize (((List.range n).filter fun j => decide (rm n w c i < rm n w c j) || (decide (rm n w c j = rm n w c i) && decide (j < i))).map fun k => PyData.int (k : Nat)) = Y at e5 e6
      refine seq_nx (ρ1 := [.val T, .val (.int c), .val (.int (sm n w)), .own (.lst WL), .own (.lst RL), .val (.int (ms n w c)), .own (.lst Z), .val (.int (i : Nat)), .val (.int (rank (qs n (rm n w c)) (qk (rm n w c) i) : Int)), .emp, .emp]) (by simp [e5, e6, putS_nb, n8]) ?_
      refine FL_of (ρ := [.val T, .val (.int c), .val (.int (sm n w)), .own (.lst WL), .own (.lst RL), .val (.int (ms n w c)), .own (.lst (Z ++ [pr2 (nm i) (dueA n w c i)])), .val (.int (i : Nat)), .val (.int (rank (qs n (rm n w c)) (qk (rm n w c) i) : Int)), .emp, .emp]) ?_ ⟨_, _, rfl, rfl, rfl⟩
      have i1 := hS i hi
      have i2 := hW i hi
      have i3 : fIx (pr2 (nm i) (w i)) (.int 0) = some (.val (.str (mk (nm i)))) := by simp [pr2]
      have ed : pr2 (nm i) (dueA n w c i) = .tuple [.str (mk (nm i)), .int (wh n w c i + if decide ((rank (qs n (rm n w c)) (qk (rm n w c) i) : Int) < ms n w c) = true then 1 else 0)] := by
        unfold dueA upB pr2
        rw [if_neg ht]
      rw [ed]
      simp [i1, i2, i3, fInt_b, hl]
    · rintro ρ ⟨s7, s8, n7, n8, rfl⟩
      rw [ed]
      generalize (List.range n).map (fun k => pr2 (nm k) (dueA n w c k)) = Z at *
      simp
end
end Law
set_option Elab.async false
set_option linter.all false
set_option maxRecDepth 100000
set_option maxHeartbeats 2000000
namespace Law
open Dn PySem
open L2 (Key)
section
variable {n : Nat} {nm : Nat → List Nat} {w am : Nat → Int} {c : Int}
def eqA (n : Nat) (f g : Nat → Int) : Bool := decide (∀ k, k < n → f k = g k)
theorem same_sh (f g : Nat → Int) : sameD (shD n nm f) (shD n nm g) = eqA n f g := by
  have : sameD (shD n nm f) (shD n nm g) = sameL (shL n nm f) (shL n nm g) := by simp [shD, sameD]
  rw [this, sameL_zip (by rw [shL_len, shL_len])]
  unfold shL eqA
  rw [List.zip_map', List.all_map, Bool.eq_iff_iff, decide_eq_true_iff, List.all_eq_true]
  constructor
  · intro h k hk
    have := h k (List.mem_range.mpr hk)
    simp [pr2, sameD, sameL, same1] at this
    exact this
  · intro h k hk
    have := h k (List.mem_range.mp hk)
    simp [pr2, sameD, sameL, same1, this]
theorem shL_get (f : Nat → Int) (i : Nat) (h : i < (shL n nm f).length) : (shL n nm f)[i] = pr2 (nm i) (f i) := by simp [shL]
theorem wt_sh (hn : n ≤ 24) : wt (shD n nm am) ≤ 90000 := by
  have : ∀ m, wtL ((List.range m).map fun k => pr2 (nm k) (am k)) = 3 * m := by
    intro m
    induction m with
    | zero => rfl
    | succ m ih => rw [List.range_succ, List.map_append, wtL_app, ih]; simp [pr2, wtL, wt]; omega
  have e : wt (shD n nm am) = 1 + wtL (shL n nm am) := by simp [shD, wt]
  rw [e]
  unfold shL
  rw [this]
  omega
theorem plain_sh : plainD (shD n nm am) = true := by
  have e : plainD (shD n nm am) = plainL (shL n nm am) := by simp [shD, plainD]
  rw [e, plainL_all, List.all_eq_true]
  intro d hd
  obtain ⟨k, _, rfl⟩ := List.mem_map.mp hd
  simp [pr2, plainD, plainL]
theorem eqA_symm (f g : Nat → Int) : eqA n f g = eqA n g f := by
  unfold eqA
  rw [decide_eq_decide]
  exact ⟨fun h k hk => (h k hk).symm, fun h k hk => (h k hk).symm⟩
theorem eqA_true {f g : Nat → Int} (h : ∀ k, k < n → f k = g k) : eqA n f g = true := decide_eq_true h
end
end Law
set_option Elab.async false
set_option linter.all false
set_option maxRecDepth 100000
set_option maxHeartbeats 2000000
namespace Law
open Dn PySem
open L2 (Key)
/-! ### sums by owner -/
abbrev Pr := List Nat × Int
def pt (P : List Pr) : D := .tuple (P.map fun p => pr2 p.1 p.2)
def tt (P : List Pr) (o : List Nat) : Int := ((P.filter fun p => decide (p.1 = o)).map (·.2)).sum
def leN (a b : List Nat) : Bool := decide (a ≤ b)
def nms (P : List Pr) : List (List Nat) := P.map (·.1)
def srt (K : List (List Nat)) : List (List Nat) := K.mergeSort leN
def SU (P : List Pr) : List Pr := (srt (nms P).eraseDups).map fun o => (o, tt P o)
theorem tt_app (P Q : List Pr) (o : List Nat) : tt (P ++ Q) o = tt P o + tt Q o := by
  unfold tt
  rw [List.filter_append, List.map_append, List.sum_append]
theorem tt_one (o o' : List Nat) (x : Int) : tt [(o, x)] o' = if o = o' then x else 0 := by
  unfold tt
  by_cases e : o = o' <;> simp [e]
theorem tt_out {P : List Pr} {o : List Nat} (h : o ∉ nms P) : tt P o = 0 := by
  unfold tt
  rw [List.filter_eq_nil_iff.mpr]
  · rfl
  · intro p hp e
    exact h (List.mem_map.mpr ⟨p, hp, of_decide_eq_true e⟩)
theorem leN_trans (a b c : List Nat) (h1 : leN a b = true) (h2 : leN b c = true) : leN a c = true := decide_eq_true (List.le_trans (of_decide_eq_true h1) (of_decide_eq_true h2))
theorem leN_tot (a b : List Nat) : (leN a b || leN b a) = true := by
  rw [Bool.or_eq_true]
  rcases List.le_total a b with h | h
  · exact .inl (decide_eq_true h)
  · exact .inr (decide_eq_true h)
theorem leN_anti (a b : List Nat) (h1 : leN a b = true) (h2 : leN b a = true) : a = b := List.le_antisymm (of_decide_eq_true h1) (of_decide_eq_true h2)
theorem srt_perm {K K' : List (List Nat)} (h : K.Perm K') : srt K = srt K' := by
  refine List.Perm.eq_of_pairwise (le := fun a b => leN a b = true) (fun a b _ _ h1 h2 => leN_anti a b h1 h2) (List.pairwise_mergeSort leN_trans leN_tot K) (List.pairwise_mergeSort leN_trans leN_tot K') ?_
  exact (List.mergeSort_perm K leN).trans (h.trans (List.mergeSort_perm K' leN).symm)
theorem srt_mem {K : List (List Nat)} {o : List Nat} : o ∈ srt K ↔ o ∈ K := (List.mergeSort_perm K leN).mem_iff
theorem srt_nodup {K : List (List Nat)} (h : K.Nodup) : (srt K).Nodup := (List.mergeSort_perm K leN).nodup_iff.mpr h
theorem srt_len (K : List (List Nat)) : (srt K).length = K.length := (List.mergeSort_perm K leN).length_eq
theorem er_nodup : ∀ (n : Nat) (L : List (List Nat)), L.length ≤ n → L.eraseDups.Nodup
  | _, [], _ => by simp
  | 0, _ :: _, h => by simp at h
  | n + 1, a :: L, h => by
    rw [List.eraseDups_cons]
    refine List.nodup_cons.mpr ⟨fun q => ?_, er_nodup n _ (by have := List.length_filter_le (fun b => !b == a) L; simp at h; omega)⟩
    have := List.mem_eraseDups.mp q
    simp at this
theorem eraseDups_nodup (L : List (List Nat)) : L.eraseDups.Nodup := er_nodup L.length L (Nat.le_refl _)
/-- any row of the names, each once, will do -/
theorem SU_of {P : List Pr} {K : List (List Nat)} (nd : K.Nodup) (hm : ∀ o, o ∈ K ↔ o ∈ nms P) : (srt K).map (fun o => (o, tt P o)) = SU P := by
  unfold SU
  rw [srt_perm ((List.perm_ext_iff_of_nodup nd (eraseDups_nodup _)).mpr fun o => by rw [hm, List.mem_eraseDups])]
theorem nms_SU (P : List Pr) (o : List Nat) : o ∈ nms (SU P) ↔ o ∈ nms P := by
  unfold SU
  have : nms ((srt (nms P).eraseDups).map fun o => (o, tt P o)) = srt (nms P).eraseDups := by
    show ((srt (nms P).eraseDups).map _).map _ = _
    rw [List.map_map]
    exact List.map_id' _
  rw [this, srt_mem, List.mem_eraseDups]
theorem nmsSU (P : List Pr) : nms (SU P) = srt (nms P).eraseDups := by
  unfold SU
  show ((srt (nms P).eraseDups).map _).map _ = _
  rw [List.map_map]
  exact List.map_id' _
theorem SU_nodup (P : List Pr) : (nms (SU P)).Nodup := by rw [nmsSU]; exact srt_nodup (eraseDups_nodup _)
theorem tt_nodup {P : List Pr} (h : (nms P).Nodup) {p : Pr} (hp : p ∈ P) : tt P p.1 = p.2 := by
  obtain ⟨A, B, rfl⟩ := List.append_of_mem hp
  have hA : p.1 ∉ nms A ∧ p.1 ∉ nms B := by
    unfold nms at h
    rw [List.map_append, List.map_cons, List.nodup_append] at h
    exact ⟨fun q => h.2.2 _ q _ (List.mem_cons_self ..) rfl, fun q => (List.nodup_cons.mp h.2.1).1 q⟩
  rw [show A ++ p :: B = A ++ ([p] ++ B) from rfl, tt_app, tt_app, tt_out hA.1, tt_out hA.2]
  obtain ⟨o, x⟩ := p
  rw [tt_one, if_pos rfl]
  omega
theorem tt_SU (P : List Pr) (o : List Nat) : tt (SU P) o = tt P o := by
  by_cases h : o ∈ nms P
  · have : (o, tt P o) ∈ SU P := List.mem_map.mpr ⟨o, srt_mem.mpr (List.mem_eraseDups.mpr h), rfl⟩
    exact tt_nodup (SU_nodup P) this
  · rw [tt_out h, tt_out (fun q => h ((nms_SU P o).mp q))]
theorem SU_congr {P Q : List Pr} (h1 : ∀ o, o ∈ nms P ↔ o ∈ nms Q) (h2 : ∀ o, tt P o = tt Q o) : SU P = SU Q := by
  have := SU_of (P := Q) (K := (nms P).eraseDups) (eraseDups_nodup _) (fun o => by rw [List.mem_eraseDups, h1])
  rw [← this]
  unfold SU
  congr 1
  funext o
  rw [h2]
theorem nms_app (P Q : List Pr) (o : List Nat) : o ∈ nms (P ++ Q) ↔ o ∈ nms P ∨ o ∈ nms Q := by unfold nms; rw [List.map_append, List.mem_append]
/-! ### the dict of the sums -/
def kvf (P : List Pr) (o : List Nat) : Key × D := (.inr (mk o), .int (tt P o))
theorem kv_eq {o o' : List Nat} : (Sum.inr (mk o) : Key) = .inr (mk o') ↔ o = o' := ⟨fun h => mk_inj (Sum.inr.inj h), fun h => by rw [h]⟩
theorem look_kv (P : List Pr) (o : List Nat) : ∀ K : List (List Nat), lookC (K.map (kvf P)) (.inr (mk o)) = if o ∈ K then some (.int (tt P o)) else none
  | [] => rfl
  | a :: K => by
    have ih := look_kv P o K
    unfold lookC at ih ⊢
    rw [List.map_cons, List.find?_cons]
    by_cases e : a = o
    · subst e
      simp [kvf]
    · have e' : ¬ o = a := fun z => e z.symm
      have : decide ((kvf P a).1 = (.inr (mk o) : Key)) = false := decide_eq_false fun z => e (kv_eq.mp z)
      rw [this]
      simp only [List.mem_cons, e', false_or]
      exact ih
theorem any_kv (P : List Pr) (o : List Nat) (K : List (List Nat)) : ((K.map (kvf P)).any fun kv => decide (kv.1 = (.inr (mk o) : Key))) = decide (o ∈ K) := by
  rw [List.any_map, Bool.eq_iff_iff, List.any_eq_true, decide_eq_true_iff]
  constructor
  · rintro ⟨a, ha, e⟩
    have e : (Sum.inr (mk a) : Key) = .inr (mk o) := of_decide_eq_true e
    rw [← kv_eq.mp e]
    exact ha
  · intro h
    exact ⟨o, h, decide_eq_true rfl⟩
theorem get_kv (P : List Pr) (o : List Nat) {K : List (List Nat)} (hm : ∀ o, o ∈ K ↔ o ∈ nms P) : (lookC (K.map (kvf P)) (.inr (mk o))).getD (.int 0) = .int (tt P o) := by
  rw [look_kv]
  by_cases h : o ∈ K
  · rw [if_pos h]; rfl
  · rw [if_neg h, tt_out (fun q => h ((hm o).mpr q))]; rfl
def addK (K : List (List Nat)) (o : List Nat) : List (List Nat) := if o ∈ K then K else K ++ [o]
theorem put_kv (P : List Pr) (o : List Nat) (x : Int) {K : List (List Nat)} (hm : ∀ o, o ∈ K ↔ o ∈ nms P) : putD (K.map (kvf P)) (.inr (mk o)) (.int (tt P o + x)) = (addK K o).map (kvf (P ++ [(o, x)])) := by
  unfold putD addK
  rw [any_kv]
  by_cases h : o ∈ K
  · rw [if_pos (decide_eq_true h), if_pos h, List.map_map]
    apply List.map_congr_left
    intro a ha
    show (if (Sum.inr (mk a) : Key) = .inr (mk o) then ((Sum.inr (mk a) : Key), PyData.int (tt P o + x)) else kvf P a) = _
    by_cases e : a = o
    · subst e
      rw [if_pos rfl]
      unfold kvf
      rw [tt_app, tt_one, if_pos rfl]
    · rw [if_neg (fun z => e (kv_eq.mp z))]
      unfold kvf
      rw [tt_app, tt_one, if_neg (fun z => e z.symm), Int.add_zero]
  · rw [if_neg (by simpa using h), if_neg h, List.map_append]
    congr 1
    · apply List.map_congr_left
      intro a ha
      have e : ¬ o = a := fun z => h (z ▸ ha)
      unfold kvf
      rw [tt_app, tt_one, if_neg e, Int.add_zero]
    · simp only [List.map_cons, List.map_nil]
      unfold kvf
      rw [tt_app, tt_one, if_pos rfl]
theorem addK_nodup {K : List (List Nat)} {o : List Nat} (h : K.Nodup) : (addK K o).Nodup := by
  unfold addK
  split
  · exact h
  · rename_i q
    rw [List.nodup_append]
    exact ⟨h, by simp, fun a ha b hb e => q (by simp at hb; rw [← hb, ← e]; exact ha)⟩
theorem addK_mem {K : List (List Nat)} {o : List Nat} {P : List Pr} {x : Int} (hm : ∀ o, o ∈ K ↔ o ∈ nms P) (o' : List Nat) : o' ∈ addK K o ↔ o' ∈ nms (P ++ [(o, x)]) := by
  rw [nms_app]
  unfold addK
  split
  · rename_i q
    rw [hm]
    constructor
    · exact .inl
    · rintro (h | h)
      · exact h
      · simp [nms] at h
        rw [h]
        exact (hm o).mp q
  · rw [List.mem_append, hm]
    simp [nms]
theorem addK_len (K : List (List Nat)) (o : List Nat) : (addK K o).length ≤ K.length + 1 := by
  unfold addK
  split
  · omega
  · simp
theorem keys_kv (P : List Pr) : ∀ K : List (List Nat), strKeys ((K.map (kvf P)).map fun p => (kd p.1, p.2)) = some (K.map mk)
  | [] => rfl
  | a :: K => by
    have ih := keys_kv P K
    show (strKeys ((K.map (kvf P)).map fun p => (kd p.1, p.2))).map _ = _
    rw [ih]
    rfl
theorem sort_kv (K : List (List Nat)) : (K.map mk).mergeSort leS = (srt K).map mk := (List.map_mergeSort (r := leN) (s := leS) (f := mk) (fun a _ b _ => rfl)).symm
theorem sorted_kv (P : List Pr) (K : List (List Nat)) (h : K.length < 64) : fSortedD (.dict ((K.map (kvf P)).map fun p => (kd p.1, p.2))) = some (.fresh (.lst ((srt K).map fun o => .str (mk o)))) := by
  show (strKeys _).bind _ = _
  rw [keys_kv]
  show (if (K.map mk).length < 64 then some (R.fresh (.lst (((K.map mk).mergeSort leS).map .str))) else none) = _
  rw [if_pos (by rw [List.length_map]; exact h), sort_kv, List.map_map]
  rfl
theorem er_len : ∀ (n : Nat) (L : List (List Nat)), L.length ≤ n → L.eraseDups.length ≤ L.length
  | _, [], _ => by simp
  | 0, _ :: _, h => by simp at h
  | n + 1, a :: L, h => by
    rw [List.eraseDups_cons]
    have h1 := List.length_filter_le (fun b => !b == a) L
    have h2 := er_len n (L.filter fun b => !b == a) (by simp at h; omega)
    simp only [List.length_cons]
    omega
theorem dl {P : List Pr} (h : P.length ≤ 63) : (nms P).eraseDups.length ≤ 63 := Nat.le_trans (er_len _ _ (Nat.le_refl _)) (by simpa [nms] using h)
theorem pt_iter (P : List Pr) : iterD (pt P) = some (P.map fun p => pr2 p.1 p.2) := id rfl
theorem sums_tail (P : List Pr) (hl : P.length ≤ 1000) (hd : (nms P).eraseDups.length ≤ 63) (T : D) (hT : T = pt P) : Ret 1 (.val (pt (SU P))) (sSeq (sFor (gTp 2 (gsCons (gNm 2) (gsCons (gNm 3) (gsNil)))) (eIt (toV (eVar 0))) (sSetD 1 (toV (eOp2 fAdd (toV (eDget 1 (toV (eVar 2)) (toV (eC (.int 0))))) (toV (eVar 3)))) (toV (eVar 2))))
    (sRet (eOp1 fTuple (toV (eLc [2] (eIt (toV (eOp1 fSortedD (ePk 1)))) (gNm 2) (tTrue) (eOpN fTup (aCons (toV (eVar 2)) (aCons (toV (eDix 1 (toV (eVar 2)))) (aNil)))))))) [.val T, .own (.dic []), .emp, .emp]) := by
  have ei : eIt (toV (eVar 0)) [.val T, .own (.dic []), .emp, .emp] = .ok (P.map fun p => pr2 p.1 p.2) [.val T, .own (.dic []), .emp, .emp] := by
    simp [hT, pt_iter]
  refine seq_for ei ?_
  refine for_ty (fun A ρ => ∃ (K : List (List Nat)) (s2 s3 : Sl), (isBor s2 = false ∧ pureS s2 = true) ∧ isBor s3 = false ∧ K.Nodup ∧ (∀ o, o ∈ K ↔ o ∈ nms A) ∧ K.length ≤ A.length ∧ ρ = [.val T, .own (.dic (K.map (kvf A))), s2, s3]) ⟨[], .emp, .emp, ⟨rfl, rfl⟩, rfl, by simp, by simp [nms], by simp, rfl⟩ ?_ ?_
  · rintro A ⟨o, x⟩ B ρ eL ⟨K, s2, s3, ⟨n2, p2⟩, n3, nd, hm, hk, rfl⟩
    have hAl : A.length < P.length := by rw [eL]; simp
    refine ⟨[.val T, .own (.dic (K.map (kvf A))), .val (.str (mk o)), .val (.int x)], by simp [pr2, gNmS_nb, n2, n3], ?_⟩
    refine FL_of (ρ := [.val T, .own (.dic ((addK K o).map (kvf (A ++ [(o, x)])))), .val (.str (mk o)), .val (.int x)]) ?_ ⟨addK K o, _, _, ⟨rfl, rfl⟩, rfl, addK_nodup nd, addK_mem hm, by have := addK_len K o; simp; omega, rfl⟩
    have g1 := get_kv A o hm
    have g2 := put_kv A o x hm
    have g3 : (K.map (kvf A)).length < 16777216 := by rw [List.length_map]; omega
    rw [← g2]
    generalize K.map (kvf A) = Z at *
    simp [g1, g3]
  · rintro ρ ⟨K, s2, s3, ⟨n2, p2⟩, n3, nd, hm, hk, rfl⟩
    have hkl : K.length ≤ 63 := by rw [((List.perm_ext_iff_of_nodup nd (eraseDups_nodup _)).mpr fun o => by rw [hm, List.mem_eraseDups]).length_eq]; exact hd
    have g1 := sorted_kv P K (by omega)
    have g2 : ∀ o, o ∈ K → lookC (K.map (kvf P)) (.inr (mk o)) = some (.int (tt P o)) := fun o ho => by rw [look_kv, if_pos ho]
    have g3 := SU_of nd hm
    have e1 : pt (SU P) = .tuple ((srt K).map fun o => .tuple [.str (mk o), .int (tt P o)]) := by
      rw [← g3]
      unfold pt
      rw [List.map_map]
      rfl
    have hlen : (srt K).length ≤ 63 := by rw [srt_len]; omega
    generalize K.map (kvf P) = Z at *
    have e2 := lc_t0 (vs := [2]) (L := srt K) (inj := fun o => .str (mk o)) (f := fun o => .tuple [.str (mk o), .int (tt P o)]) (mi := eIt (toV (eOp1 fSortedD (ePk 1)))) (g := gNm 2) (e := eOpN fTup (aCons (toV (eVar 2)) (aCons (toV (eDix 1 (toV (eVar 2)))) (aNil))))
      (ρ := [.val T, .own (.dic Z), s2, s3]) (by simp [g1]) (by simp [p2]) (fun o ho => ⟨_, by simp; rfl, (by
        have g2 := g2 o (srt_mem.mp ho)
        simp [g2]), by simp⟩) (by omega) rfl
    rw [e1]
    generalize (srt K).map (fun o => PyData.tuple [.str (mk o), .int (tt P o)]) = Y at *
    simp [e2]
end Law
set_option Elab.async false
set_option linter.all false
set_option maxRecDepth 100000
set_option maxHeartbeats 2000000
namespace Law
open Dn PySem
open L2 (Key)
theorem law_sums_eq (P : List Pr) (hl : P.length ≤ 1000) (hd : (nms P).eraseDups.length ≤ 63) : d__law_sums [.val (pt P)] = .ok (.val (pt (SU P))) [.val (pt P)] := by
  refine mkF_ret (ds := [pt P]) rfl ?_
  have := sums_tail P hl hd (pt P) rfl
  unfold b__law_sums
  exact seq_nx (ρ1 := [.val (pt P), .own (.dic []), .emp, .emp]) (by simp) this
/-! ### check_shares -/
def Vn (P : List Pr) : Prop := ∀ p ∈ P, isNm p.1 = true
def good (P : List Pr) : Prop := P.length ≤ 24 ∧ (nms P).Nodup ∧ ∀ p ∈ P, 0 ≤ p.2 ∧ p.2 ≤ 10000000
theorem pt_tup (P : List Pr) (a b : Int) : d_is_tuple_of [.val (pt P), .val (.int a), .val (.int b)] = .ok (.val (.bool (decide (a ≤ P.length) && decide ((P.length : Int) ≤ b)))) [.val (pt P), .val (.int a), .val (.int b)] := by
  have := is_tuple_of_eq (pt P) a b
  rw [this]
  simp [pt]
theorem check_gen (P : List Pr) (vn : Vn P) : (good P → d_check_shares [.val (pt P)] = .ok (.val .none) [.val (pt P)]) ∧ (¬ good P → d_check_shares [.val (pt P)] = .exc "BadWear" [.val (pt P)]) := by
  have e1 := pt_tup P 0 24
  have start : ∀ (Q : SR → Prop), P.length ≤ 24 → (∀ ρ : Dn.Env, (nms P).Nodup → (∀ p ∈ P, 0 ≤ p.2 ∧ p.2 ≤ 10000000) → 1 ≤ ρ.length → Q (.nx ρ)) → (∀ ρ : Dn.Env, ¬ good P → 1 ≤ ρ.length → Q (.exc "BadWear" ρ)) → Q (b_check_shares [.val (pt P), .emp, .emp, .emp, .emp]) := by
    intro Q hle hyes hno
    have e1 : d_is_tuple_of [.val (pt P), .val (.int 0), .val (.int 24)] = .ok (.val (.bool true)) [.val (pt P), .val (.int 0), .val (.int 24)] := by
      rw [e1]
      simp
      omega
    have ei : eIt (toV (eVar 0)) [.val (pt P), .own (.lst []), .emp, .emp, .emp] = .ok (P.map fun p => pr2 p.1 p.2) [.val (pt P), .own (.lst []), .emp, .emp, .emp] := by simp [pt_iter]
    obtain ⟨T, hT⟩ : ∃ T, T = pt P := ⟨_, rfl⟩
    rw [← hT] at e1 ei ⊢
    unfold b_check_shares
    refine seq_nx (ρ1 := [.val T, .emp, .emp, .emp, .emp]) (by simp [e1]) ?_
    refine seq_nx (ρ1 := [.val T, .own (.lst []), .emp, .emp, .emp]) (by simp) ?_
    rw [sFor_ap, ei, sFk_ok]
    refine for_tyl (P := Q) (fun A ρ => ∃ s2 s3 s4 : Sl, isBor s2 = false ∧ isBor s3 = false ∧ isBor s4 = false ∧ (nms A).Nodup ∧ (∀ p ∈ A, 0 ≤ p.2 ∧ p.2 ≤ 10000000) ∧ ρ = [.val T, .own (.lst ((nms A).map fun z => .str (mk z))), s2, s3, s4]) ⟨.emp, .emp, .emp, rfl, rfl, rfl, by simp [nms], by simp, rfl⟩ ?_ ?_
    · rintro A ⟨o, x⟩ B ρ eL ⟨s2, s3, s4, n2, n3, n4, nd, hw, rfl⟩
      have ho : isNm o = true := vn (o, x) (by rw [eL]; simp)
      have hl : (nms A).length < 16777216 := by
        have : A.length ≤ P.length := by rw [eL]; simp
        simp [nms]; omega
      have hin : (o, x) ∈ P := by rw [eL]; simp
      have e2 := tup_ok [.str (mk o), .int x] 2 2 (by simp) (by simp)
      have e3 := name_ok ho
      have e4 := in_names (L := nms A) (z := o)
      have e5 := is_whole_in_int x 0 10000000
      have eN : nms (A ++ [(o, x)]) = nms A ++ [o] := by simp [nms]
      have eP : nms P = nms A ++ o :: nms B := by rw [eL]; simp [nms]
      refine ⟨[.val T, .own (.lst ((nms A).map fun z => .str (mk z))), .val (pr2 o x), s3, s4], by simp [gNmS_nb, n2], ?_⟩
      by_cases c1 : o ∈ nms A
      · rw [decide_eq_true c1] at e4
        have key := hno [.val T, .own (.lst ((nms A).map fun z => .str (mk z))), .val (pr2 o x), .val (.str (mk o)), .val (.int x)] (fun g => by
          have := g.2.1
          rw [eP, List.nodup_append] at this
          exact this.2.2 o c1 o (by simp) rfl) (by simp)
        generalize (nms A).map (fun z => PyData.str (mk z)) = Z at *
        refine seq_nx (ρ1 := [.val T, .own (.lst Z), .val (pr2 o x), s3, s4]) (by simp [pr2, e2]) ?_
        refine seq_nx (ρ1 := [.val T, .own (.lst Z), .val (pr2 o x), .val (.str (mk o)), .val (.int x)]) (by simp [pr2, gNmS_nb, n3, n4]) ?_
        refine seq_nx (ρ1 := [.val T, .own (.lst Z), .val (pr2 o x), .val (.str (mk o)), .val (.int x)]) (by simp [e3]) ?_
        simp only [sSeq_ap, sIf_ap, tBoolD_ap, eOp2_ap, toV_ap, eVar_ap, ePk_ap, gS_succ, gS_zero, toVk_ok, o2a_ok, o2b_ok, toD_val, Cell.toD, e4, optR_some, tBk_ok, asB_b, sIk_ok, if_true]
        exact key
      · rw [decide_eq_false c1] at e4
        by_cases c2 : 0 ≤ x ∧ x ≤ 10000000
        · have : (decide (0 ≤ x) && decide (x ≤ 10000000)) = true := by simp; exact c2
          rw [this] at e5
          have eZ : ((nms (A ++ [(o, x)])).map fun z => PyData.str (mk z)) = ((nms A).map fun z => PyData.str (mk z)) ++ [.str (mk o)] := by rw [eN, List.map_append]; rfl
          refine FL_of (ρ := [.val T, .own (.lst ((nms (A ++ [(o, x)])).map fun z => .str (mk z))), .val (pr2 o x), .val (.str (mk o)), .val (.int x)]) ?_ ⟨_, _, _, rfl, rfl, rfl, ?_, ?_, rfl⟩
          · rw [eZ]
            have hl' : ((nms A).map fun z => PyData.str (mk z)).length < 16777216 := by rw [List.length_map]; exact hl
            generalize (nms A).map (fun z => PyData.str (mk z)) = Z at *
            simp [pr2, e2, e3, e4, e5, gNmS_nb, n3, n4, hl']
          · rw [eN, List.nodup_append]
            exact ⟨nd, by simp, fun a ha b hb e => c1 (by simp at hb; rw [← hb, ← e]; exact ha)⟩
          · intro p hp
            rcases List.mem_append.mp hp with hp | hp
            · exact hw p hp
            · simp at hp; rw [hp]; exact c2
        · have : (decide (0 ≤ x) && decide (x ≤ 10000000)) = false := by
            cases q : (decide (0 ≤ x) && decide (x ≤ 10000000)) with
            | false => rfl
            | true => simp at q; exact absurd q c2
          rw [this] at e5
          have key := hno [.val T, .own (.lst ((nms A).map fun z => .str (mk z))), .val (pr2 o x), .val (.str (mk o)), .val (.int x)] (fun g => c2 (g.2.2 _ hin)) (by simp)
          generalize (nms A).map (fun z => PyData.str (mk z)) = Z at *
          refine seq_nx (ρ1 := [.val T, .own (.lst Z), .val (pr2 o x), s3, s4]) (by simp [pr2, e2]) ?_
          refine seq_nx (ρ1 := [.val T, .own (.lst Z), .val (pr2 o x), .val (.str (mk o)), .val (.int x)]) (by simp [pr2, gNmS_nb, n3, n4]) ?_
          refine seq_nx (ρ1 := [.val T, .own (.lst Z), .val (pr2 o x), .val (.str (mk o)), .val (.int x)]) (by simp [e3]) ?_
          refine seq_nx (ρ1 := [.val T, .own (.lst Z), .val (pr2 o x), .val (.str (mk o)), .val (.int x)]) (by simp [e4]) ?_
          have es : sIf (tNotD (tTru (toV (eCall 3 d_is_whole_in (aCons (toV (eVar 4)) (aCons (toV (eC (.int 0))) (aCons (toV (eC (.int (10000000)))) (aNil)))))))) (sRaise "BadWear") (sNil) [.val T, .own (.lst Z), .val (pr2 o x), .val (.str (mk o)), .val (.int x)] = .exc "BadWear" [.val T, .own (.lst Z), .val (pr2 o x), .val (.str (mk o)), .val (.int x)] := by simp [e5]
          rw [sSeq_ap, es]
          exact key
    · rintro ρ ⟨s2, s3, s4, n2, n3, n4, nd, hw, rfl⟩
      exact hyes _ nd hw (by simp)
  constructor
  · intro g
    refine mkF_nxt (ds := [pt P]) rfl ?_
    exact start (Nxt 1) g.1 (fun ρ _ _ h => by simpa using h) (fun ρ h _ => absurd g h)
  · intro g
    refine mkF_exc (ds := [pt P]) rfl ?_
    by_cases hle : P.length ≤ 24
    · exact start (Exc 1 "BadWear") hle (fun ρ nd hw _ => absurd ⟨hle, nd, hw⟩ g) (fun ρ _ h => by simpa using h)
    · have e1 : d_is_tuple_of [.val (pt P), .val (.int 0), .val (.int 24)] = .ok (.val (.bool false)) [.val (pt P), .val (.int 0), .val (.int 24)] := by
        rw [e1]
        simp
        omega
      show Exc 1 _ (b_check_shares [.val (pt P), .emp, .emp, .emp, .emp])
      generalize pt P = T at *
      simp [b_check_shares, e1]
end Law
set_option Elab.async false
set_option linter.all false
set_option maxRecDepth 100000
set_option maxHeartbeats 2000000
namespace Law
open Dn PySem
open L2 (Key)
theorem Vn_app {P Q : List Pr} (h : Vn P) (h' : Vn Q) : Vn (P ++ Q) := fun p hp => (List.mem_append.mp hp).elim (h p) (h' p)
theorem Vn_SU {P : List Pr} (h : Vn P) : Vn (SU P) := fun p hp => by
  have : p.1 ∈ nms (SU P) := List.mem_map.mpr ⟨p, hp, rfl⟩
  rw [nms_SU] at this
  obtain ⟨q, hq, e⟩ := List.mem_map.mp this
  rw [← e]
  exact h q hq
theorem SU_len (P : List Pr) : (SU P).length ≤ P.length := by
  unfold SU
  rw [List.length_map, srt_len]
  have : (nms P).eraseDups.length ≤ (nms P).length := er_len _ _ (Nat.le_refl _)
  simpa [nms] using this
def goodJ (P Q : List Pr) : Prop := good P ∧ good Q ∧ good (SU (P ++ Q))
theorem pt_add {P Q : List Pr} (h : P.length + Q.length ≤ 1000) : fAdd (pt P) (pt Q) = some (.val (pt (P ++ Q))) := by
  unfold pt
  rw [fAdd_tuple (by rw [List.length_map, List.length_map]; omega), List.map_append]
theorem joined_eq (P Q : List Pr) (vp : Vn P) (vq : Vn Q) : (goodJ P Q → d_joined_shares [.val (pt P), .val (pt Q)] = .ok (.val (pt (SU (P ++ Q)))) [.val (pt P), .val (pt Q)]) ∧ (¬ goodJ P Q → d_joined_shares [.val (pt P), .val (pt Q)] = .exc "BadWear" [.val (pt P), .val (pt Q)]) := by
  have c1 := check_gen P vp
  have c2 := check_gen Q vq
  have c3 := check_gen (SU (P ++ Q)) (Vn_SU (Vn_app vp vq))
  have walk : ∀ (R : SR → Prop), good P → good Q → (∀ ρ : Dn.Env, 2 ≤ ρ.length → good (SU (P ++ Q)) → R (.ret (.val (pt (SU (P ++ Q)))) ρ)) → (∀ ρ : Dn.Env, 2 ≤ ρ.length → ¬ good (SU (P ++ Q)) → R (.exc "BadWear" ρ)) → R (b_joined_shares [.val (pt P), .val (pt Q), .emp, .emp, .emp, .emp]) := by
    intro R g1 g2 hyes hno
    have c1 := c1.1 g1
    have c2 := c2.1 g2
    have hl : (P ++ Q).length ≤ 48 := by rw [List.length_append]; have := g1.1; have := g2.1; omega
    have ea := pt_add (P := P) (Q := Q) (by have := g1.1; have := g2.1; omega)
    obtain ⟨L, hL⟩ : ∃ L, L = P ++ Q := ⟨_, rfl⟩
    rw [← hL] at ea hl c3 hyes hno
    clear hL
    obtain ⟨T, hT⟩ : ∃ T, T = pt P := ⟨_, rfl⟩
    obtain ⟨U, hU⟩ : ∃ U, U = pt Q := ⟨_, rfl⟩
    rw [← hT] at ea c1 ⊢
    rw [← hU] at ea c2 ⊢
    unfold b_joined_shares
    refine seq_nx (ρ1 := [.val T, .val U, .emp, .emp, .emp, .emp]) (by simp [c1]) ?_
    refine seq_nx (ρ1 := [.val T, .val U, .emp, .emp, .emp, .emp]) (by simp [c2]) ?_
    refine seq_nx (ρ1 := [.val T, .val U, .own (.dic []), .emp, .emp, .emp]) (by simp) ?_
    have ei : eIt (toV (eOp2 fAdd (toV (eVar 0)) (toV (eVar 1)))) [.val T, .val U, .own (.dic []), .emp, .emp, .emp] = .ok (L.map fun p => pr2 p.1 p.2) [.val T, .val U, .own (.dic []), .emp, .emp, .emp] := by
      simp [ea, pt_iter]
    refine seq_for ei ?_
    refine for_ty (fun A ρ => ∃ (K : List (List Nat)) (s4 s5 : Sl), (isBor s4 = false ∧ pureS s4 = true) ∧ isBor s5 = false ∧ K.Nodup ∧ (∀ o, o ∈ K ↔ o ∈ nms A) ∧ K.length ≤ A.length ∧ ρ = [.val T, .val U, .own (.dic (K.map (kvf A))), .emp, s4, s5]) ⟨[], .emp, .emp, ⟨rfl, rfl⟩, rfl, by simp, by simp [nms], by simp, rfl⟩ ?_ ?_
    · rintro A ⟨o, x⟩ B ρ eL ⟨K, s4, s5, ⟨n4, p4⟩, n5, nd, hm, hk, rfl⟩
      have hAl : A.length < L.length := by rw [eL]; simp
      refine ⟨[.val T, .val U, .own (.dic (K.map (kvf A))), .emp, .val (.str (mk o)), .val (.int x)], by simp [pr2, gNmS_nb, n4, n5], ?_⟩
      refine FL_of (ρ := [.val T, .val U, .own (.dic ((addK K o).map (kvf (A ++ [(o, x)])))), .emp, .val (.str (mk o)), .val (.int x)]) ?_ ⟨addK K o, _, _, ⟨rfl, rfl⟩, rfl, addK_nodup nd, addK_mem hm, by have := addK_len K o; simp; omega, rfl⟩
      have g1 := get_kv A o hm
      have g2 := put_kv A o x hm
      have g3 : (K.map (kvf A)).length < 16777216 := by rw [List.length_map]; omega
      rw [← g2]
      generalize K.map (kvf A) = Z at *
      simp [g1, g3]
    · rintro ρ ⟨K, s4, s5, ⟨n4, p4⟩, n5, nd, hm, hk, rfl⟩
      have g1 := sorted_kv L K (by omega)
      have g2 : ∀ o, o ∈ K → lookC (K.map (kvf L)) (.inr (mk o)) = some (.int (tt L o)) := fun o ho => by rw [look_kv, if_pos ho]
      have g3 := SU_of nd hm
      have e1 : pt (SU L) = .tuple ((srt K).map fun o => .tuple [.str (mk o), .int (tt L o)]) := by
        rw [← g3]
        unfold pt
        rw [List.map_map]
        rfl
      have hlen : (srt K).length ≤ 63 := by rw [srt_len]; omega
      generalize K.map (kvf L) = Z at *
      have e2 := lc_t0 (vs := [4]) (L := srt K) (inj := fun o => .str (mk o)) (f := fun o => .tuple [.str (mk o), .int (tt L o)]) (mi := eIt (toV (eOp1 fSortedD (ePk 2)))) (g := gNm 4) (e := eOpN fTup (aCons (toV (eVar 4)) (aCons (toV (eDix 2 (toV (eVar 4)))) (aNil))))
        (ρ := [.val T, .val U, .own (.dic Z), .emp, s4, s5]) (by simp [g1]) (by simp [p4]) (fun o ho => ⟨_, by simp; rfl, (by
          have g2 := g2 o (srt_mem.mp ho)
          simp [g2]), by simp⟩) (by omega) rfl
      generalize (srt K).map (fun o => PyData.tuple [.str (mk o), .int (tt L o)]) = Y at *
      refine seq_nx (ρ1 := [.val T, .val U, .own (.dic Z), .val (pt (SU L)), s4, s5]) (by simp [e2, e1]) ?_
      by_cases gg : good (SU L)
      · have c3 := c3.1 gg
        have := hyes [.val T, .val U, .own (.dic Z), .val (pt (SU L)), s4, s5] (by simp) gg
        generalize pt (SU L) = W at *
        refine seq_nx (ρ1 := [.val T, .val U, .own (.dic Z), .val W, s4, s5]) (by simp [c3]) ?_
        have e : sRet (eVar 3) [.val T, .val U, .own (.dic Z), .val W, s4, s5] = .ret (.val W) [.val T, .val U, .own (.dic Z), .val W, s4, s5] := by simp
        rw [e]
        exact this
      · have c3 := c3.2 gg
        have := hno [.val T, .val U, .own (.dic Z), .val (pt (SU L)), s4, s5] (by simp) gg
        generalize pt (SU L) = W at *
        have e : sDrop (eCall 1 d_check_shares (aCons (toV (eVar 3)) (aNil))) [.val T, .val U, .own (.dic Z), .val W, s4, s5] = .exc "BadWear" [.val T, .val U, .own (.dic Z), .val W, s4, s5] := by simp [c3]
        rw [sSeq_ap, e]
        exact this
  constructor
  · intro g
    exact mkF_ret (ds := [pt P, pt Q]) rfl (walk (Ret 2 _) g.1 g.2.1 (fun ρ h _ => by simpa using h) (fun ρ _ h => absurd g.2.2 h))
  · intro g
    refine mkF_exc (ds := [pt P, pt Q]) rfl ?_
    by_cases g1 : good P
    · by_cases g2 : good Q
      · exact walk (Exc 2 _) g1 g2 (fun ρ _ h => absurd ⟨g1, g2, h⟩ g) (fun ρ h _ => by simpa using h)
      · have c1 := c1.1 g1
        have c2 := c2.2 g2
        show Exc 2 _ (b_joined_shares [.val (pt P), .val (pt Q), .emp, .emp, .emp, .emp])
        generalize pt P = T at *
        generalize pt Q = U at *
        simp [b_joined_shares, c1, c2]
    · have c1 := c1.2 g1
      show Exc 2 _ (b_joined_shares [.val (pt P), .val (pt Q), .emp, .emp, .emp, .emp])
      generalize pt P = T at *
      generalize pt Q = U at *
      simp [b_joined_shares, c1]
theorem law_joined_yes {P Q : List Pr} (vp : Vn P) (vq : Vn Q) (g : goodJ P Q) : d__law_joined [.val (pt P), .val (pt Q)] = .ok (.val (pt (SU (P ++ Q)))) [.val (pt P), .val (pt Q)] := by
  refine mkF_ret (ds := [pt P, pt Q]) rfl ?_
  have j := (joined_eq P Q vp vq).1 g
  generalize pt P = T at *
  generalize pt Q = U at *
  simp [b__law_joined, j]
theorem law_refused_yes {P Q : List Pr} (vp : Vn P) (vq : Vn Q) (g : ¬ goodJ P Q) : d__law_refused [.val (pt P), .val (pt Q)] = .ok (.val (.bool true)) [.val (pt P), .val (pt Q)] := by
  refine mkF_ret (ds := [pt P, pt Q]) rfl ?_
  have j := (joined_eq P Q vp vq).2 g
  show Ret 2 _ (b__law_refused [.val (pt P), .val (pt Q), .emp])
  generalize pt P = T at *
  generalize pt Q = U at *
  have e : sTryR 2 (sDrop (eCall 2 d_joined_shares (aCons (toV (eVar 0)) (aCons (toV (eVar 1)) (aNil))))) (h1 "BadWear" (.bool true)) [.val T, .val U, .emp] = .ret (.val (.bool true)) [.val T, .val U, .emp] := by
    rw [sTryR_ap]
    have e : sDrop (eCall 2 d_joined_shares (aCons (toV (eVar 0)) (aCons (toV (eVar 1)) (aNil)))) [.val T, .val U, .emp] = .exc "BadWear" [.val T, .val U, .emp] := by simp [j]
    rw [e]
    exact tryK_h1 rfl (by simp)
  unfold b__law_refused
  rw [sSeq_ap, e]
  simp
def Us (P : List Pr) : Prop := P.length ≤ 24 ∧ Vn P ∧ ∀ p ∈ P, 0 ≤ p.2 ∧ p.2 ≤ 100000
theorem check_uses_eq {P : List Pr} (h : Us P) : d_check_uses [.val (pt P)] = .ok (.val .none) [.val (pt P)] := by
  refine mkF_nxt (ds := [pt P]) rfl ?_
  have e1 : d_is_tuple_of [.val (pt P), .val (.int 0), .val (.int 24)] = .ok (.val (.bool true)) [.val (pt P), .val (.int 0), .val (.int 24)] := by
    rw [pt_tup]
    have := h.1
    simp
    omega
  have ei : eIt (toV (eVar 0)) [.val (pt P), .emp, .emp, .emp] = .ok (P.map fun p => pr2 p.1 p.2) [.val (pt P), .emp, .emp, .emp] := by simp [pt_iter]
  show Nxt 1 (b_check_uses [.val (pt P), .emp, .emp, .emp])
  obtain ⟨T, hT⟩ : ∃ T, T = pt P := ⟨_, rfl⟩
  rw [← hT] at e1 ei ⊢
  unfold b_check_uses
  refine seq_nx (ρ1 := [.val T, .emp, .emp, .emp]) (by simp [e1]) ?_
  rw [sFor_ap, ei, sFk_ok]
  refine for_tyl (P := Nxt 1) (fun A ρ => ∃ s1 s2 s3 : Sl, isBor s1 = false ∧ isBor s2 = false ∧ isBor s3 = false ∧ ρ = [.val T, s1, s2, s3]) ⟨.emp, .emp, .emp, rfl, rfl, rfl, rfl⟩ ?_ ?_
  · rintro A ⟨o, x⟩ B ρ eL ⟨s1, s2, s3, n1, n2, n3, rfl⟩
    have hin : (o, x) ∈ P := by rw [eL]; simp
    have e2 := tup_ok [.str (mk o), .int x] 2 2 (by simp) (by simp)
    have e3 := name_ok (h.2.1 _ hin)
    have e5 := is_whole_in_int x 0 100000
    have : (decide (0 ≤ x) && decide (x ≤ 100000)) = true := by simp; exact h.2.2 _ hin
    rw [this] at e5
    refine ⟨[.val T, .val (pr2 o x), s2, s3], by simp [gNmS_nb, n1], ?_⟩
    exact FL_of (ρ := [.val T, .val (pr2 o x), .val (.str (mk o)), .val (.int x)]) (by simp [pr2, e2, e3, e5, gNmS_nb, n2, n3]) ⟨_, _, _, rfl, rfl, rfl, rfl⟩
  · rintro ρ ⟨s1, s2, s3, n1, n2, n3, rfl⟩
    simp
theorem wear_eq {P : List Pr} (h : Us P) : d_wear_by_owner [.val (pt P)] = .ok (.val (pt (SU P))) [.val (pt P)] := by
  refine mkF_ret (ds := [pt P]) rfl ?_
  have := sums_tail P (by have := h.1; omega) (dl (by have := h.1; omega)) (pt P) rfl
  have e := check_uses_eq h
  unfold b_wear_by_owner
  show Ret 1 _ (sSeq _ _ [.val (pt P), .emp, .emp, .emp])
  generalize pt P = T at *
  refine seq_nx (ρ1 := [.val T, .emp, .emp, .emp]) (by simp [e]) ?_
  exact seq_nx (ρ1 := [.val T, .own (.dic []), .emp, .emp]) (by simp) this
end Law
set_option Elab.async false
set_option linter.all false
set_option maxRecDepth 100000
set_option maxHeartbeats 2000000
namespace Law
open Dn PySem
open L2 (Key)
/-! ### goodness -/
def NmOk (nm : Nat → List Nat) : Prop := (∀ k, k < 25 → isNm (nm k) = true) ∧ ∀ j, j < 25 → ∀ k, k < 25 → nm j = nm k → j = k
structure Sh24 (nm : Nat → List Nat) (P : List Pr) : Prop where
  nd : (nms P).Nodup
  src : ∀ p ∈ P, ∃ k, k < 24 ∧ p.1 = nm k
  lo : ∀ p ∈ P, 0 ≤ p.2 ∧ p.2 ≤ 3333333
section
variable {nm : Nat → List Nat}
theorem src_len {K : List (List Nat)} (nd : K.Nodup) (h : ∀ o ∈ K, ∃ k, k < 24 ∧ o = nm k) : K.length ≤ 24 := by
  have := List.Nodup.length_le_of_subset (l₂ := (List.range 24).map nm) nd (fun o ho => by
    obtain ⟨k, hk, rfl⟩ := h o ho
    exact List.mem_map.mpr ⟨k, List.mem_range.mpr hk, rfl⟩)
  simpa using this
theorem mem_src {P : List Pr} (h : ∀ p ∈ P, ∃ k, k < 24 ∧ p.1 = nm k) : ∀ o ∈ nms P, ∃ k, k < 24 ∧ o = nm k := fun o ho => by
  obtain ⟨p, hp, rfl⟩ := List.mem_map.mp ho
  exact h p hp
theorem Sh24.len {P : List Pr} (S : Sh24 nm P) : P.length ≤ 24 := by
  have := src_len S.nd (mem_src S.src)
  simpa [nms] using this
theorem Sh24.tt {P : List Pr} (S : Sh24 nm P) (o : List Nat) : 0 ≤ tt P o ∧ tt P o ≤ 3333333 := by
  by_cases h : o ∈ nms P
  · obtain ⟨p, hp, rfl⟩ := List.mem_map.mp h
    rw [tt_nodup S.nd hp]
    exact S.lo p hp
  · rw [tt_out h]; decide
theorem Sh24.vn {P : List Pr} (N : NmOk nm) (S : Sh24 nm P) : Vn P := fun p hp => by
  obtain ⟨k, hk, e⟩ := S.src p hp
  rw [e]
  exact N.1 k (by omega)
theorem Sh24.good {P : List Pr} (S : Sh24 nm P) : good P := ⟨S.len, S.nd, fun p hp => ⟨(S.lo p hp).1, by have := (S.lo p hp).2; omega⟩⟩
theorem SU_mem {L : List Pr} {p : Pr} (h : p ∈ SU L) : p.1 ∈ nms L ∧ p.2 = Law.tt L p.1 := by
  obtain ⟨o, ho, rfl⟩ := List.mem_map.mp h
  exact ⟨List.mem_eraseDups.mp (srt_mem.mp ho), rfl⟩
theorem good_src {L : List Pr} (h : ∀ o ∈ nms L, ∃ k, k < 24 ∧ o = nm k) (hw : ∀ o, 0 ≤ Law.tt L o ∧ Law.tt L o ≤ 10000000) : good (SU L) := by
  refine ⟨?_, SU_nodup L, fun p hp => ?_⟩
  · have := src_len (SU_nodup L) (fun o ho => h o ((nms_SU L o).mp ho))
    simpa [nms] using this
  · rw [(SU_mem hp).2]; exact hw _
theorem good_len {L : List Pr} (h : L.length ≤ 24) (hw : ∀ o, 0 ≤ Law.tt L o ∧ Law.tt L o ≤ 10000000) : good (SU L) :=
  ⟨Nat.le_trans (SU_len L) h, SU_nodup L, fun p hp => by rw [(SU_mem hp).2]; exact hw _⟩
theorem bad_tt {L : List Pr} {o : List Nat} (h : o ∈ nms L) (hw : 10000000 < Law.tt L o) : ¬ good (SU L) := fun g => by
  have hm : (o, Law.tt L o) ∈ SU L := List.mem_map.mpr ⟨o, srt_mem.mpr (List.mem_eraseDups.mpr h), rfl⟩
  have := (g.2.2 _ hm).2
  omega
theorem bad_len {L : List Pr} (N : NmOk nm) (h : ∀ k, k < 25 → nm k ∈ nms L) : ¬ good (SU L) := fun g => by
  have nd : ((List.range 25).map nm).Nodup := by
    rw [List.nodup_iff_pairwise_ne, List.pairwise_map]
    refine (List.nodup_range (n := 25)).imp_of_mem fun {a b} ha hb hne e => hne (N.2 a (List.mem_range.mp ha) b (List.mem_range.mp hb) e)
  have := List.Nodup.length_le_of_subset (l₂ := nms (SU L)) nd (fun o ho => by
    obtain ⟨k, hk, rfl⟩ := List.mem_map.mp ho
    exact (nms_SU L _).mpr (h k (List.mem_range.mp hk)))
  have h2 := g.1
  simp [nms] at this
  omega
theorem app_src {P Q : List Pr} (h : ∀ o ∈ nms P, ∃ k, k < 24 ∧ o = nm k) (h' : ∀ o ∈ nms Q, ∃ k, k < 24 ∧ o = nm k) : ∀ o ∈ nms (P ++ Q), ∃ k, k < 24 ∧ o = nm k := fun o ho => ((nms_app P Q o).mp ho).elim (h o) (h' o)
theorem goodJ_2 {P Q : List Pr} (S : Sh24 nm P) (S' : Sh24 nm Q) : goodJ P Q := ⟨S.good, S'.good, good_src (app_src (mem_src S.src) (mem_src S'.src)) fun o => by rw [tt_app]; have := S.tt o; have := S'.tt o; omega⟩
theorem Sh24.nil : Sh24 nm [] := ⟨by simp [nms], by simp, by simp⟩
/-! ### one and the same -/
theorem wt_pt (P : List Pr) : wt (pt P) = 1 + 3 * P.length := by
  have : ∀ P : List Pr, wtL (P.map fun p => pr2 p.1 p.2) = 3 * P.length := by
    intro P
    induction P with
    | nil => rfl
    | cons p P ih => rw [List.map_cons, wtL, ih]; simp [pr2, wtL, wt]; omega
  show wt (.tuple _) = _
  rw [wt, this]
theorem plain_pt (P : List Pr) : plainD (pt P) = true := by
  show plainD (.tuple _) = true
  rw [plainD, plainL_all, List.all_eq_true]
  intro d hd
  obtain ⟨p, _, rfl⟩ := List.mem_map.mp hd
  simp [pr2, plainD, plainL]
theorem same_pt (P : List Pr) (h : P.length ≤ 1000) : d__law_same [.val (pt P), .val (pt P)] = .ok (.val (.bool true)) [.val (pt P), .val (pt P)] := by
  rw [law_same_eq _ _ (by rw [wt_pt]; omega) (plain_pt P)]
  have : sameD (pt P) (pt P) = true := by
    have e : sameD (pt P) (pt P) = sameL (P.map fun p => pr2 p.1 p.2) (P.map fun p => pr2 p.1 p.2) := by simp [pt, sameD]
    rw [e, sameL_zip rfl, List.all_eq_true]
    rintro ⟨a, b⟩ hab
    rw [List.zip_map', List.mem_map] at hab
    obtain ⟨p, _, e⟩ := hab
    cases e
    simp [pr2, sameD, sameL, same1]
  rw [this]
/-! ### the groups -/
def GoodP (d : D) : Prop := ∃ P Q, d = .tuple [pt P, pt Q] ∧ Vn P ∧ Vn Q ∧ goodJ P Q ∧ P.length ≤ 24 ∧ Q.length ≤ 24
theorem SU3a (a b c : List Pr) : SU (SU (a ++ b) ++ c) = SU (a ++ b ++ c) := SU_congr (fun o => by rw [nms_app, nms_app, nms_SU]) fun o => by rw [tt_app, tt_app, tt_SU]
theorem SU3b (a b c : List Pr) : SU (SU (c ++ a) ++ b) = SU (a ++ b ++ c) := SU_congr (fun o => by
    rw [nms_app, nms_app, nms_SU, nms_app, nms_app]
    constructor <;> (intro h; rcases h with (h | h) | h <;> simp [h])) fun o => by rw [tt_app, tt_app, tt_SU, tt_app, tt_app]; omega
theorem SU3c (a b c : List Pr) : SU (a ++ SU (b ++ c)) = SU (a ++ b ++ c) := SU_congr (fun o => by
    rw [nms_app, nms_app, nms_SU, nms_app, nms_app]
    constructor
    · rintro (h | h | h) <;> simp [h]
    · rintro ((h | h) | h) <;> simp [h]) fun o => by rw [tt_app, tt_app, tt_SU, tt_app, tt_app]; omega
theorem len2 {P Q : List Pr} (h : P.length ≤ 24) (h' : Q.length ≤ 24) : (P ++ Q).length ≤ 63 := by rw [List.length_append]; omega
theorem grouped_eq (N : NmOk nm) {a b c : List Pr} (A : Sh24 nm a) (B : Sh24 nm b) (Cc : Sh24 nm c) : d__law_grouped [.val (pt a), .val (pt b), .val (pt c)] = .ok (.val (.bool true)) [.val (pt a), .val (pt b), .val (pt c)] := by
  refine mkF_ret (ds := [pt a, pt b, pt c]) rfl ?_
  have lA := A.len
  have lB := B.len
  have lC := Cc.len
  have vA := A.vn N
  have vB := B.vn N
  have vC := Cc.vn N
  have sA := mem_src A.src
  have sB := mem_src B.src
  have sC := mem_src Cc.src
  have ea1 := pt_add (P := a) (Q := b) (by omega)
  have ea2 := pt_add (P := a ++ b) (Q := c) (by rw [List.length_append]; omega)
  have hd3 : (nms (a ++ b ++ c)).eraseDups.length ≤ 63 := Nat.le_trans (src_len (eraseDups_nodup _) fun o ho => app_src (app_src sA sB) sC o (List.mem_eraseDups.mp ho)) (by decide)
  have s0 := law_sums_eq (a ++ b ++ c) (by rw [List.length_append, List.length_append]; omega) hd3
  have s1 := law_sums_eq (a ++ b) (by rw [List.length_append]; omega) (dl (len2 lA lB))
  have gAB := goodJ_2 A B
  have gCA := goodJ_2 Cc A
  have gBC := goodJ_2 B Cc
  have t3 : ∀ o, 0 ≤ tt (a ++ b ++ c) o ∧ tt (a ++ b ++ c) o ≤ 10000000 := fun o => by
    rw [tt_app, tt_app]
    have := A.tt o
    have := B.tt o
    have := Cc.tt o
    omega
  have gS := good_src (app_src (app_src sA sB) sC) t3
  have j1 := law_joined_yes (Vn_SU (Vn_app vA vB)) vC (P := SU (a ++ b)) (Q := c) ⟨gAB.2.2, Cc.good, by rw [SU3a]; exact gS⟩
  rw [SU3a] at j1
  have j2 := law_joined_yes vC vA gCA
  have j3 := law_joined_yes (Vn_SU (Vn_app vC vA)) vB (P := SU (c ++ a)) (Q := b) ⟨gCA.2.2, B.good, by rw [SU3b]; exact gS⟩
  rw [SU3b] at j3
  have j4 := law_joined_yes vB vC gBC
  have j5 := law_joined_yes vA (Vn_SU (Vn_app vB vC)) (P := a) (Q := SU (b ++ c)) ⟨A.good, gBC.2.2, by rw [SU3c]; exact gS⟩
  rw [SU3c] at j5
  have sm := same_pt (SU (a ++ b ++ c)) (by have := SU_len (a ++ b ++ c); rw [List.length_append, List.length_append] at this; omega)
  have gp : ∀ d ∈ ([.tuple [pt a, pt b], .tuple [pt b, pt a], .tuple [pt b, pt c], .tuple [pt c, pt a], .tuple [pt a, pt []], .tuple [pt [], pt c]] : List D), GoodP d := by
    intro d hd
    simp only [List.mem_cons, List.not_mem_nil, or_false] at hd
    rcases hd with rfl | rfl | rfl | rfl | rfl | rfl
    · exact ⟨a, b, rfl, vA, vB, gAB, lA, lB⟩
    · exact ⟨b, a, rfl, vB, vA, goodJ_2 B A, lB, lA⟩
    · exact ⟨b, c, rfl, vB, vC, gBC, lB, lC⟩
    · exact ⟨c, a, rfl, vC, vA, gCA, lC, lA⟩
    · exact ⟨a, [], rfl, vA, (Sh24.nil (nm := nm)).vn N, goodJ_2 A Sh24.nil, lA, by decide⟩
    · exact ⟨[], c, rfl, (Sh24.nil (nm := nm)).vn N, vC, goodJ_2 Sh24.nil Cc, by decide, lC⟩
  have ee : (PyData.tuple []) = pt [] := rfl
  show Ret 3 _ (b__law_grouped [.val (pt a), .val (pt b), .val (pt c), .emp, .emp, .emp])
  unfold b__law_grouped
  obtain ⟨T1, h1⟩ : ∃ T, T = pt a := ⟨_, rfl⟩
  obtain ⟨T2, h2⟩ : ∃ T, T = pt b := ⟨_, rfl⟩
  obtain ⟨T3, h3⟩ : ∃ T, T = pt c := ⟨_, rfl⟩
  obtain ⟨T0, h0⟩ : ∃ T, T = pt [] := ⟨_, rfl⟩
  rw [← h0] at ee
  simp only [← h0, ← h1, ← h2, ← h3] at *
  generalize pt (SU (a ++ b ++ c)) = U at *
  generalize pt (a ++ b ++ c) = W0 at *
  refine seq_nx (ρ1 := [.val T1, .val T2, .val T3, .val U, .emp, .emp]) (by simp [ea1, ea2, s0]) ?_
  refine seq_for (ρ1 := [.val T1, .val T2, .val T3, .val U, .emp, .emp]) (ds := [.tuple [T1, T2], .tuple [T2, T1], .tuple [T2, T3], .tuple [T3, T1], .tuple [T1, T0], .tuple [T0, T3]]) (by simp [ee]) ?_
  refine for_rule (fun r ρ => (∀ d ∈ r, GoodP d) ∧ ∃ s4 s5, isBor s4 = false ∧ isBor s5 = false ∧ ρ = [.val T1, .val T2, .val T3, .val U, s4, s5]) ⟨gp, .emp, .emp, rfl, rfl, rfl⟩ ?_ ?_
  · rintro d r ρ ⟨hg, s4, s5, n4, n5, rfl⟩
    obtain ⟨P, Q, rfl, vP, vQ, gPQ, lP, lQ⟩ := hg d (List.mem_cons_self ..)
    have y1 := law_joined_yes vP vQ gPQ
    have y2 := pt_add (P := P) (Q := Q) (by omega)
    have y3 := law_sums_eq (P ++ Q) (by rw [List.length_append]; omega) (dl (len2 lP lQ))
    have y4 := same_pt (SU (P ++ Q)) (by have := SU_len (P ++ Q); rw [List.length_append] at this; omega)
    have hg' : ∀ d ∈ r, GoodP d := fun d hd => hg d (List.mem_cons_of_mem _ hd)
    generalize pt (SU (P ++ Q)) = R0 at *
    generalize pt (P ++ Q) = R1 at *
    generalize pt P = R2 at *
    generalize pt Q = R3 at *
    refine ⟨[.val T1, .val T2, .val T3, .val U, .val R2, .val R3], by simp [gNmS_nb, n4, n5], ?_⟩
    exact FL_of (ρ := [.val T1, .val T2, .val T3, .val U, .val R2, .val R3]) (by simp [y1, y2, y3, y4]) ⟨hg', _, _, rfl, rfl, rfl⟩
  · rintro ρ ⟨_, s4, s5, n4, n5, rfl⟩
    generalize pt (SU (a ++ b)) = V1 at *
    generalize pt (SU (c ++ a)) = V2 at *
    generalize pt (SU (b ++ c)) = V3 at *
    generalize pt (a ++ b) = V4 at *
    refine seq_nx (ρ1 := [.val T1, .val T2, .val T3, .val U, s4, s5]) (by simp [ea1, s1, j1, sm]) ?_
    refine seq_nx (ρ1 := [.val T1, .val T2, .val T3, .val U, s4, s5]) (by simp [j2, j3, sm]) ?_
    simp [j4, j5, sm]
end
end Law
set_option Elab.async false
set_option linter.all false
set_option maxRecDepth 100000
set_option maxHeartbeats 2000000
namespace Law
open Dn PySem
open L2 (Key)
/-! ### an order, drawn shares -/
def swp (a b i : Nat) : Nat := if i = b then a else if i = a then b else i
theorem swp_lt {n a b i : Nat} (ha : a < n) (hb : b < n) (hi : i < n) : swp a b i < n := by unfold swp; split <;> (try split) <;> omega
theorem swp_inj {a b i j : Nat} (h : swp a b i = swp a b j) : i = j := by unfold swp at h; split at h <;> split at h <;> (try split at h) <;> (try split at h) <;> omega
def rowL (n : Nat) (R : Nat → Nat) : List D := (List.range n).map fun i => .int (R i : Nat)
theorem rowL_len {n : Nat} {R : Nat → Nat} : (rowL n R).length = n := by simp [rowL]
theorem rowL_get {n : Nat} {R : Nat → Nat} {i : Nat} (h : i < (rowL n R).length) : (rowL n R)[i] = .int (R i : Nat) := by simp [rowL]
theorem row_swap {n a b : Nat} {R : Nat → Nat} (ha : a < n) (hb : b < n) : ((rowL n R).set a (.int (R b : Nat))).set b (.int (R a : Nat)) = rowL n (fun i => R (swp a b i)) := by
  apply List.ext_getElem
  · simp [rowL_len]
  · intro i h1 h2
    rw [List.getElem_set, List.getElem_set, rowL_get, rowL_get]
    unfold swp
    by_cases e1 : b = i
    · subst e1; simp
    · have e1' : ¬ i = b := fun z => e1 z.symm
      rw [if_neg e1]
      by_cases e2 : a = i
      · subst e2; simp [e1']
      · have e2' : ¬ i = a := fun z => e2 z.symm
        simp [e1', e2, e2']
theorem row_ix {n : Nat} {R : Nat → Nat} {k : Nat} (h : k < n) : fIx (.list (rowL n R)) (.int (k : Int)) = some (.val (.int (R k : Nat))) := by
  rw [fIx_list (by omega) (by rw [rowL_len]; omega), Int.toNat_natCast, nth_lt (by rw [rowL_len]; exact h), rowL_get]
theorem order_eq {xs : List Int} {n : Nat} {L : Int} (hx : Rows xs n L) (hn : n ≤ 24) : ∃ R : Nat → Nat, ((∀ i, i < n → R i < n) ∧ ∀ i, i < n → ∀ j, j < n → R i = R j → i = j) ∧ d__law_order [.val (.list (xs.map .int))] = .ok (.val (.tuple (rowL n R))) [.val (.list (xs.map .int))] := by
  refine mkF_ex (ds := [.list (xs.map .int)]) (f := fun R : Nat → Nat => .val (.tuple (rowL n R))) rfl ?_
  have el : fLen (.list (xs.map .int)) = some (.val (.int (n : Int))) := by rw [fLen_list, List.length_map, hx.1]
  have hd : ∀ k : Nat, k < n → ∃ o : Nat, o < n ∧ ∃ v : Int, fIx (.list (xs.map .int)) (.int (k : Int)) = some (.val (.int v)) ∧ fMod (.int v) (.int ((k : Int) + 1)) = some (.val (.int (o : Int))) := fun k hk => by
    obtain ⟨v, bv, iv⟩ := hx.ix k (by omega) (by omega)
    refine ⟨(v % (k + 1)).toNat, ?_, v, iv, ?_⟩
    · have h0 : 0 ≤ v % ((k : Int) + 1) := Int.emod_nonneg _ (by omega)
      have h1 : v % ((k : Int) + 1) < (k : Int) + 1 := Int.emod_lt_of_pos _ (by omega)
      omega
    · rw [fMod_pos (by omega)]
      have h0 : 0 ≤ v % ((k : Int) + 1) := Int.emod_nonneg _ (by omega)
      rw [Int.toNat_of_nonneg h0]
  have er3 := rg1_ok (n := (n : Int)) (by omega) (by omega)
  have eL : fLstRg (.int (n : Int)) = some (.fresh (.lst (rowL n id))) := by
    show (if inB (n : Int) = true ∧ (n : Int) ≤ 16777216 then some (R.fresh (.lst (rgD 0 (n : Int).toNat))) else none) = _
    rw [if_pos ⟨decide_eq_true (by omega), by omega⟩, Int.toNat_natCast, rgD_map]
    rfl
  rw [Int.toNat_natCast] at er3
  show ExRet 1 _ _ (b__law_order [.val (.list (xs.map .int)), .emp, .emp, .emp, .emp])
  generalize PyData.list (xs.map .int) = T at *
  unfold b__law_order
  refine seq_nx (ρ1 := [.val T, .own (.lst (rowL n id)), .emp, .emp, .emp]) (by simp [el, eL]) ?_
  refine seq_for (ρ1 := [.val T, .own (.lst (rowL n id)), .emp, .emp, .emp]) (ds := rgD 0 n) (by simp [el, er3]) ?_
  refine for_rg (fun i ρ => ∃ (R : Nat → Nat) (s2 s3 s4 : Sl), isBor s2 = false ∧ isBor s3 = false ∧ isBor s4 = false ∧ ((∀ i, i < n → R i < n) ∧ ∀ i, i < n → ∀ j, j < n → R i = R j → i = j) ∧ ρ = [.val T, .own (.lst (rowL n R)), s2, s3, s4]) ⟨id, .emp, .emp, .emp, rfl, rfl, rfl, ⟨fun i h => h, fun i _ j _ h => h⟩, rfl⟩ ?_ ?_
  · rintro k hk ρ ⟨R, s2, s3, s4, n2, n3, n4, ⟨r1, r2⟩, rfl⟩
    obtain ⟨o, ho, v, iv, mv⟩ := hd k hk
    refine ⟨_, by simp; exact gNmS_nb n2, ?_⟩
    have i1 := row_ix (R := R) hk
    have i2 := row_ix (R := R) ho
    have sw := row_swap (R := R) hk ho
    have hl : (rowL n R).length = n := rowL_len
    refine FL_of (ρ := [.val T, .own (.lst (rowL n fun i => R (swp k o i))), .val (.int k), .val (.int o), .val (.int (R k : Nat))]) ?_ ⟨_, _, _, _, rfl, rfl, rfl, ⟨fun i hi => r1 _ (swp_lt hk ho hi), fun i hi j hj e => swp_inj (r2 _ (swp_lt hk ho hi) _ (swp_lt hk ho hj) e)⟩, rfl⟩
    rw [← sw]
    generalize rowL n R = Z at *
    simp [iv, mv, i1, i2, putS_nb, n3, n4, hl, hk, ho]
  · rintro ρ ⟨R, s2, s3, s4, n2, n3, n4, r, rfl⟩
    exact ExRet_ret (by simp; rfl) R r rfl (by simp)
def NL (nm : Nat → List Nat) : List D := (List.range 25).map fun k => .str (mk (nm k))
theorem NL_ix {nm : Nat → List Nat} {k : Nat} (h : k < 25) : fIx (.list (NL nm)) (.int (k : Int)) = some (.val (.str (mk (nm k)))) := by
  have hl : (NL nm).length = 25 := by simp [NL]
  rw [fIx_list (by omega) (by rw [hl]; omega), Int.toNat_natCast, nth_lt (by rw [hl]; exact h)]
  simp [NL]
theorem shares_eq (ns : List Int) (hns : ns.length ≤ 63) {nm : Nat → List Nat} (N : NmOk nm) (place lim : Int) (p0 : 0 ≤ place) (p1 : place < 1000) (l0 : 0 < lim) (l1 : lim ≤ 3333334) : ∃ P : List Pr, Sh24 nm P ∧ d__law_shares [.val (script ns), .val (.int place), .val (.list (NL nm)), .val (.int lim)] = .ok (.val (pt P)) [.val (script ns), .val (.int place), .val (.list (NL nm)), .val (.int lim)] := by
  refine mkF_ex (ds := [script ns, .int place, .list (NL nm), .int lim]) (f := fun P : List Pr => .val (pt P)) rfl ?_
  obtain ⟨xs, hx, ex⟩ := row_eq ns hns place 25 27720 p0 (by omega) (by decide) (by decide) (by decide) (by decide)
  obtain ⟨ys, hy, ey⟩ := row_eq ns hns (place + 1) 24 lim (by omega) (by omega) (by decide) (by decide) l0 (by omega)
  obtain ⟨zs, hz, ez⟩ := row_eq ns hns (place + 2) 24 5040 (by omega) (by omega) (by decide) (by decide) (by decide) (by decide)
  obtain ⟨R, ⟨r1, r2⟩, eo⟩ := order_eq hz (by decide)
  have ix : ∀ k : Nat, k < 25 → ∃ v : Int, fIx (.list (xs.map .int)) (.int (k : Int)) = some (.val (.int v)) := fun k hk => by
    obtain ⟨v, _, iv⟩ := hx.ix k (by omega) (by show (k : Int) < ((25 : Int).toNat : Int); simp; omega)
    exact ⟨v, iv⟩
  have iy : ∀ k : Nat, k < 24 → ∃ v : Int, (0 ≤ v ∧ v < lim) ∧ fIx (.list (ys.map .int)) (.int (k : Int)) = some (.val (.int v)) := fun k hk => hy.ix k (by omega) (by show (k : Int) < ((24 : Int).toNat : Int); simp; omega)
  have iN : ∀ k : Nat, k < 24 → fIx (.list (NL nm)) (.int (k : Int)) = some (.val (.str (mk (nm k)))) := fun k hk => NL_ix (by omega)
  obtain ⟨v24, i24⟩ := ix 24 (by decide)
  have i24 : fIx (.list (xs.map .int)) (.int 24) = some (.val (.int v24)) := i24
  have m3 := fMod_pos (p := v24) (q := 3) (by decide)
  have b3 : 0 ≤ v24 % 3 ∧ v24 % 3 < 3 := by omega
  obtain ⟨S, hS⟩ : ∃ S, S = script ns := ⟨_, rfl⟩
  rw [← hS] at ex ey ez ⊢
  show ExRet 4 _ _ (b__law_shares [.val S, .val (.int place), .val (.list (NL nm)), .val (.int lim), .emp, .emp, .emp, .emp, .emp, .emp])
  unfold b__law_shares
  generalize NL nm = NN at *
  generalize xs.map PyData.int = XL at *
  generalize ys.map PyData.int = YL at *
  generalize zs.map PyData.int = ZL at *
  obtain ⟨one, hone⟩ : ∃ one, one = 2 + v24 % 3 := ⟨_, rfl⟩
  refine seq_nx (ρ1 := [.val S, .val (.int place), .val (.list NN), .val (.int lim), .val (.list XL), .emp, .emp, .emp, .emp, .emp]) (by simp [ex]) ?_
  refine seq_nx (ρ1 := [.val S, .val (.int place), .val (.list NN), .val (.int lim), .val (.list XL), .val (.list YL), .emp, .emp, .emp, .emp]) (by simp [ey]) ?_
  have eRL : (Int.toNat 24) = 24 := rfl
  rw [eRL] at eo r1 r2
  obtain ⟨RL, hRL⟩ : ∃ RL, RL = rowL 24 R := ⟨_, rfl⟩
  rw [← hRL] at eo
  refine seq_nx (ρ1 := [.val S, .val (.int place), .val (.list NN), .val (.int lim), .val (.list XL), .val (.list YL), .val (.tuple RL), .emp, .emp, .emp]) (by simp [ez, eo]) ?_
  refine seq_nx (ρ1 := [.val S, .val (.int place), .val (.list NN), .val (.int lim), .val (.list XL), .val (.list YL), .val (.tuple RL), .val (.int one), .emp, .emp]) (by simp [i24, m3, hone]) ?_
  refine seq_nx (ρ1 := [.val S, .val (.int place), .val (.list NN), .val (.int lim), .val (.list XL), .val (.list YL), .val (.tuple RL), .val (.int one), .own (.lst []), .emp]) (by simp) ?_
  refine seq_for (ρ1 := [.val S, .val (.int place), .val (.list NN), .val (.int lim), .val (.list XL), .val (.list YL), .val (.tuple RL), .val (.int one), .own (.lst []), .emp]) (ds := (List.range 24).map fun i => .int (R i : Nat)) (by simp [hRL, rowL]) ?_
  refine for_rn (fun i ρ => ∃ (P : List Pr) (s9 : Sl), isBor s9 = false ∧ (nms P).Nodup ∧ P.length ≤ i ∧ (∀ p ∈ P, ∃ j, j < i ∧ p.1 = nm (R j)) ∧ (∀ p ∈ P, 0 ≤ p.2 ∧ p.2 ≤ 3333333) ∧ ρ = [.val S, .val (.int place), .val (.list NN), .val (.int lim), .val (.list XL), .val (.list YL), .val (.tuple RL), .val (.int one), .own (.lst (P.map fun p => pr2 p.1 p.2)), s9]) ⟨[], .emp, rfl, by simp [nms], by simp, by simp, by simp, rfl⟩ ?_ ?_
  · rintro i hi ρ ⟨P, s9, n9, nd, hlen, hs, hw, rfl⟩
    have hR := r1 i hi
    obtain ⟨v, iv⟩ := ix (R i) (by omega)
    obtain ⟨u, bu, iu⟩ := iy (R i) hR
    have iN := iN (R i) hR
    have mv := fMod_pos (p := v) (q := one) (by omega)
    have hl : (P.map fun p => pr2 p.1 p.2).length < 16777216 := by rw [List.length_map]; omega
    refine ⟨_, by simp; exact gNmS_nb n9, ?_⟩
    by_cases q : v % one = 0
    · refine FL_of (ρ := [.val S, .val (.int place), .val (.list NN), .val (.int lim), .val (.list XL), .val (.list YL), .val (.tuple RL), .val (.int one), .own (.lst ((P ++ [(nm (R i), u)]).map fun p => pr2 p.1 p.2)), .val (.int (R i : Nat))]) ?_ ⟨P ++ [(nm (R i), u)], _, rfl, ?_, by simp; omega, ?_, ?_, rfl⟩
      · rw [List.map_append]
        generalize P.map (fun p => pr2 p.1 p.2) = Z at *
        simp [iv, mv, q, iN, iu, hl, pr2]
      · have : nms (P ++ [(nm (R i), u)]) = nms P ++ [nm (R i)] := by simp [nms]
        rw [this, List.nodup_append]
        refine ⟨nd, by simp, fun a ha b hb e => ?_⟩
        simp at hb
        subst hb
        obtain ⟨p, hp, e2⟩ := List.mem_map.mp ha
        obtain ⟨j, hj, e3⟩ := hs p hp
        have := N.2 _ (by have := r1 j (by omega); omega) _ (by omega) (e3.symm.trans (e2.trans e))
        have := r2 j (by omega) i hi this
        omega
      · intro p hp
        rcases List.mem_append.mp hp with hp | hp
        · obtain ⟨j, hj, e⟩ := hs p hp
          exact ⟨j, by omega, e⟩
        · simp at hp
          exact ⟨i, by omega, by rw [hp]⟩
      · intro p hp
        rcases List.mem_append.mp hp with hp | hp
        · exact hw p hp
        · simp at hp
          rw [hp]
          exact ⟨bu.1, by show u ≤ _; omega⟩
    · refine FL_of (ρ := [.val S, .val (.int place), .val (.list NN), .val (.int lim), .val (.list XL), .val (.list YL), .val (.tuple RL), .val (.int one), .own (.lst (P.map fun p => pr2 p.1 p.2)), .val (.int (R i : Nat))]) ?_ ⟨P, _, rfl, nd, by omega, fun p hp => by obtain ⟨j, hj, e⟩ := hs p hp; exact ⟨j, by omega, e⟩, hw, rfl⟩
      simp [iv, mv, q]
  · rintro ρ ⟨P, s9, n9, nd, hlen, hs, hw, rfl⟩
    exact ExRet_ret (by simp; exact ⟨rfl, rfl⟩) P ⟨nd, fun p hp => by obtain ⟨j, hj, e⟩ := hs p hp; exact ⟨R j, r1 j hj, e⟩, hw⟩ rfl (by simp)
end Law
set_option Elab.async false
set_option linter.all false
set_option maxRecDepth 100000
set_option maxHeartbeats 4000000
namespace Law
open Dn PySem
open L2 (Key)
/-! ### the bounds -/
def LOW (nm : Nat → List Nat) (a : List Pr) : List Pr := a ++ ((List.range 24).filter fun k => !decide (nm k ∈ nms a)).map fun k => (nm k, (0 : Int))
section
variable {nm : Nat → List Nat}
theorem low_sh (N : NmOk nm) {a : List Pr} (A : Sh24 nm a) : Sh24 nm (LOW nm a) := by
  have e : nms (LOW nm a) = nms a ++ ((List.range 24).filter fun k => !decide (nm k ∈ nms a)).map nm := by
    unfold LOW nms
    rw [List.map_append, List.map_map]
    rfl
  refine ⟨?_, ?_, ?_⟩
  · rw [e, List.nodup_append]
    refine ⟨A.nd, ?_, ?_⟩
    · rw [List.nodup_iff_pairwise_ne, List.pairwise_map]
      refine ((List.nodup_range (n := 24)).filter _).imp_of_mem fun {x y} hx hy hne e => hne (N.2 x ?_ y ?_ e)
      · have := List.mem_range.mp (List.mem_filter.mp hx).1; omega
      · have := List.mem_range.mp (List.mem_filter.mp hy).1; omega
    · rintro x hx y hy rfl
      obtain ⟨k, hk, rfl⟩ := List.mem_map.mp hy
      have := (List.mem_filter.mp hk).2
      simp at this
      exact this hx
  · intro p hp
    rcases List.mem_append.mp hp with hp | hp
    · exact A.src p hp
    · obtain ⟨k, hk, rfl⟩ := List.mem_map.mp hp
      exact ⟨k, List.mem_range.mp (List.mem_filter.mp hk).1, rfl⟩
  · intro p hp
    rcases List.mem_append.mp hp with hp | hp
    · exact A.lo p hp
    · obtain ⟨k, hk, rfl⟩ := List.mem_map.mp hp
      exact ⟨Int.le_refl _, by show (0 : Int) ≤ 3333333; decide⟩
theorem low_all {a : List Pr} {k : Nat} (hk : k < 24) : nm k ∈ nms (LOW nm a) := by
  unfold LOW
  rw [nms_app]
  by_cases h : nm k ∈ nms a
  · exact .inl h
  · exact .inr (List.mem_map.mpr ⟨(nm k, 0), List.mem_map.mpr ⟨k, List.mem_filter.mpr ⟨List.mem_range.mpr hk, by simpa using h⟩, rfl⟩, rfl⟩)
theorem Sh24.take {P : List Pr} (S : Sh24 nm P) (m : Nat) : Sh24 nm (P.take m) := ⟨by
    have : nms (P.take m) = (nms P).take m := List.map_take
    rw [this]
    exact (List.take_sublist _ _).nodup S.nd, fun p hp => S.src p (List.mem_of_mem_take hp), fun p hp => S.lo p (List.mem_of_mem_take hp)⟩
theorem tt_cons (o : List Nat) (x : Int) (P : List Pr) (q : List Nat) : tt ((o, x) :: P) q = (if o = q then x else 0) + tt P q := by
  rw [show (o, x) :: P = [(o, x)] ++ P from rfl, tt_app, tt_one]
theorem tt_nil (q : List Nat) : tt [] q = 0 := rfl
theorem notin_names {L : List (List Nat)} {z : List Nat} : fNotIn (.str (mk z)) (.list (L.map fun z => .str (mk z))) = some (.val (.bool (!decide (z ∈ L)))) := by
  have h := in_names (L := L) (z := z)
  unfold fIn at h
  unfold fNotIn
  cases e : fInB (.str (mk z)) (.list (L.map fun z => .str (mk z))) with
  | none => rw [e] at h; cases h
  | some b =>
    rw [e] at h
    have : b = decide (z ∈ L) := by simpa using h
    rw [this]
    rfl
theorem pt_cut {P : List Pr} {m : Int} (h : 0 ≤ m) : fSl (pt P) none (some m) = some (.val (pt (P.take m.toNat))) := by
  unfold pt
  rw [fSl_tuple, cut_hi h, List.map_take]
theorem low_step (a : List Pr) (ha : a.length ≤ 24) (B Dr : D) : sAsg 4 (eOp2 fAdd (toV (eVar 1)) (toV (eOp1 fTuple (toV (eLc [13] (eIt (toV (eSlV 0 (oNone) (oSome (toV (eC (.int 24))))))) (gNm 13) (tBoolD (eOp2 fNotIn (toV (eVar 13)) (toV (eLc [14] (eIt (toV (eVar 1))) (gNm 14) (tTrue) (eIxV 14 (toV (eC (.int 0)))))))) (eOpN fTup (aCons (toV (eVar 13)) (aCons (toV (eC (.int 0))) (aNil))))))))) [.val (.list (NL nm)), .val (pt a), .val B, .val Dr, .emp, .emp, .emp, .emp, .emp, .emp, .emp, .emp, .emp, .emp, .emp] = .nx [.val (.list (NL nm)), .val (pt a), .val B, .val Dr, .val (pt (LOW nm a)), .emp, .emp, .emp, .emp, .emp, .emp, .emp, .emp, .emp, .emp] := by
  have ecut : fSl (.list (NL nm)) none (some 24) = some (.fresh (.lst ((List.range 24).map fun k => .str (mk (nm k))))) := by
    rw [fSl_list, cut_hi (by decide)]
    unfold NL
    rw [← List.map_take, List.take_range]
    rfl
  have inner : ∀ z : List Nat, eLc [14] (eIt (toV (eVar 1))) (gNm 14) (tTrue) (eIxV 14 (toV (eC (.int 0)))) [.val (.list (NL nm)), .val (pt a), .val B, .val Dr, .emp, .emp, .emp, .emp, .emp, .emp, .emp, .emp, .emp, .val (.str (mk z)), .emp] = .ok (.fresh (.lst ((nms a).map fun z => .str (mk z)))) [.val (.list (NL nm)), .val (pt a), .val B, .val Dr, .emp, .emp, .emp, .emp, .emp, .emp, .emp, .emp, .emp, .val (.str (mk z)), .emp] := fun z => by
    have := lc_t0 (vs := [14]) (L := a) (inj := fun p => pr2 p.1 p.2) (f := fun p => .str (mk p.1)) (mi := eIt (toV (eVar 1))) (g := gNm 14) (e := eIxV 14 (toV (eC (.int 0)))) (ρ := [.val (.list (NL nm)), .val (pt a), .val B, .val Dr, .emp, .emp, .emp, .emp, .emp, .emp, .emp, .emp, .emp, .val (.str (mk z)), .emp]) (by simp [pt_iter]) (by simp) (fun x hx => ⟨_, by simp; rfl, by simp [pr2], by simp⟩) (by omega) rfl
    rw [this]
    unfold nms
    rw [List.map_map]
    rfl
  have outer := lc_f0 (vs := [13]) (L := List.range 24) (inj := fun k => .str (mk (nm k))) (f := fun k => pr2 (nm k) 0) (p := fun k => !decide (nm k ∈ nms a)) (mi := eIt (toV (eSlV 0 (oNone) (oSome (toV (eC (.int 24))))))) (g := gNm 13) (t := tBoolD (eOp2 fNotIn (toV (eVar 13)) (toV (eLc [14] (eIt (toV (eVar 1))) (gNm 14) (tTrue) (eIxV 14 (toV (eC (.int 0)))))))) (e := eOpN fTup (aCons (toV (eVar 13)) (aCons (toV (eC (.int 0))) (aNil))))
    (ρ := [.val (.list (NL nm)), .val (pt a), .val B, .val Dr, .emp, .emp, .emp, .emp, .emp, .emp, .emp, .emp, .emp, .emp, .emp]) (by
      generalize NL nm = NN at *
      generalize ((List.range 24).map fun k => PyData.str (mk (nm k))) = Y at *
      simp [ecut]) (by simp) (fun x hx => ⟨[.val (.list (NL nm)), .val (pt a), .val B, .val Dr, .emp, .emp, .emp, .emp, .emp, .emp, .emp, .emp, .emp, .val (.str (mk (nm x))), .emp], by simp, (by
        have i1 := inner (nm x)
        have i2 := notin_names (L := nms a) (z := nm x)
        generalize ((nms a).map fun z => PyData.str (mk z)) = Y at *
        simp [i1, i2]), (fun _ => by simp [pr2]), by simp⟩) (by simp) rfl
  have eadd : fAdd (pt a) (.tuple (((List.range 24).filter fun k => !decide (nm k ∈ nms a)).map fun k => pr2 (nm k) 0)) = some (.val (pt (LOW nm a))) := by
    have e : (.tuple (((List.range 24).filter fun k => !decide (nm k ∈ nms a)).map fun k => pr2 (nm k) 0) : D) = pt (((List.range 24).filter fun k => !decide (nm k ∈ nms a)).map fun k => (nm k, (0 : Int))) := by
      unfold pt
      rw [List.map_map]
      rfl
    rw [e]
    refine pt_add ?_
    have := List.length_filter_le (fun k => !decide (nm k ∈ nms a)) (List.range 24)
    rw [List.length_map]
    simp at this ⊢
    omega
  generalize (((List.range 24).filter fun k => !decide (nm k ∈ nms a)).map fun k => pr2 (nm k) 0) = Y at *
  generalize pt (LOW nm a) = W at *
  generalize pt a = AA at *
  simp [outer, eadd]
end
end Law
set_option Elab.async false
set_option linter.all false
set_option maxRecDepth 100000
set_option maxHeartbeats 4000000
namespace Law
open Dn PySem
open L2 (Key)
section
variable {nm : Nat → List Nat}
theorem nms_cons (o : List Nat) (x : Int) (P : List Pr) (q : List Nat) : q ∈ nms ((o, x) :: P) ↔ q = o ∨ q ∈ nms P := by
  show q ∈ o :: nms P ↔ _
  rw [List.mem_cons]
theorem nms_nil (q : List Nat) : q ∈ nms [] ↔ False := by simp [nms]
theorem good_one {o : List Nat} {x : Int} (h0 : 0 ≤ x) (h1 : x ≤ 10000000) : good [(o, x)] := ⟨by simp, by simp [nms], fun p hp => by simp at hp; rw [hp]; exact ⟨h0, h1⟩⟩
theorem SU_two (o : List Nat) (x y : Int) : SU [(o, x), (o, y)] = [(o, x + y)] := by
  rw [← SU_of (P := [(o, x), (o, y)]) (K := [o]) (by simp) (fun q => by simp [nms])]
  have : srt [o] = [o] := by unfold srt; simp
  rw [this]
  show [(o, tt [(o, x), (o, y)] o)] = _
  rw [tt_cons, tt_cons, tt_nil, if_pos rfl, if_pos rfl, Int.add_zero]
theorem Vn2 {L : List Pr} (h : ∀ q ∈ nms L, isNm q = true) : Vn L := fun p hp => h p.1 (List.mem_map.mpr ⟨p, hp, rfl⟩)
theorem bounds_eq (N : NmOk nm) {a b : List Pr} (A : Sh24 nm a) (B : Sh24 nm b) {xs : List Int} (hx : Rows xs 6 27720) : d__law_bounds [.val (.list (NL nm)), .val (pt a), .val (pt b), .val (.list (xs.map .int))] = .ok (.val (.bool true)) [.val (.list (NL nm)), .val (pt a), .val (pt b), .val (.list (xs.map .int))] := by
  refine mkF_ret (ds := [.list (NL nm), pt a, pt b, .list (xs.map .int)]) rfl ?_
  show Ret 4 _ (b__law_bounds [.val (.list (NL nm)), .val (pt a), .val (pt b), .val (.list (xs.map .int)), .emp, .emp, .emp, .emp, .emp, .emp, .emp, .emp, .emp, .emp, .emp])
  have LS := low_sh N A
  obtain ⟨d0, b0, i0⟩ := hx.ix 0 (by decide) (by decide)
  obtain ⟨d1, b1, i1⟩ := hx.ix 1 (by decide) (by decide)
  obtain ⟨d2, b2, i2⟩ := hx.ix 2 (by decide) (by decide)
  obtain ⟨d3, b3, i3⟩ := hx.ix 3 (by decide) (by decide)
  obtain ⟨DL, hDL⟩ : ∃ DL, DL = xs.map PyData.int := ⟨_, rfl⟩
  rw [← hDL] at i0 i1 i2 i3 ⊢
  clear hDL
  have st := low_step (nm := nm) a A.len (pt b) (.list DL)
  -- the first texts
  have m12 := fMod_pos (p := d0) (q := 12) (by decide)
  have bm : 0 ≤ d0 % 12 ∧ d0 % 12 < 12 := by omega
  have cut := pt_cut (P := LOW nm a) (m := 24 - d0 % 12) (by omega)
  have TS := LS.take (24 - d0 % 12).toNat
  have vb := B.vn N
  have vL := LS.vn N
  have vT := TS.vn N
  have j1 := law_joined_yes vT vb (goodJ_2 TS B)
  have j2 := law_joined_yes vL vb (goodJ_2 LS B)
  have p1 := pt_add (P := (LOW nm a).take (24 - d0 % 12).toNat) (Q := b) (by have := TS.len; have := B.len; omega)
  have p2 := pt_add (P := LOW nm a) (Q := b) (by have := LS.len; have := B.len; omega)
  have u1 := law_sums_eq ((LOW nm a).take (24 - d0 % 12).toNat ++ b) (by rw [List.length_append]; have := TS.len; have := B.len; omega) (dl (len2 TS.len B.len))
  have u2 := law_sums_eq (LOW nm a ++ b) (by rw [List.length_append]; have := LS.len; have := B.len; omega) (dl (len2 LS.len B.len))
  have q1 := same_pt (SU ((LOW nm a).take (24 - d0 % 12).toNat ++ b)) (by have := SU_len ((LOW nm a).take (24 - d0 % 12).toNat ++ b); have := len2 TS.len B.len; omega)
  have q2 := same_pt (SU (LOW nm a ++ b)) (by have := SU_len (LOW nm a ++ b); have := len2 LS.len B.len; omega)
  have n24 := NL_ix (nm := nm) (k := 24) (by decide)
  have n24 : fIx (.list (NL nm)) (.int 24) = some (.val (.str (mk (nm 24)))) := n24
  have v24 : isNm (nm 24) = true := N.1 24 (by decide)
  have p3 := pt_add (P := b) (Q := [(nm 24, 1)]) (by have := B.len; simp; omega)
  have all25 : ∀ L : List Pr, nm 24 ∈ nms L → (∀ q ∈ nms (LOW nm a), q ∈ nms L) → ∀ k, k < 25 → nm k ∈ nms L := fun L h1 h2 k hk => by
    rcases Nat.lt_or_ge k 24 with q | q
    · exact h2 _ (low_all q)
    · have : k = 24 := by omega
      rw [this]; exact h1
  have r1 := law_refused_yes (P := LOW nm a) (Q := b ++ [(nm 24, 1)]) vL (Vn_app vb (fun p hp => by simp at hp; rw [hp]; exact v24)) (fun g => bad_len N (all25 _ (by rw [nms_app, nms_app]; simp [nms]) (fun q hq => by rw [nms_app]; exact .inl hq)) g.2.2)
  have r2 := law_refused_yes (P := [(nm 24, 0)]) (Q := LOW nm a) (fun p hp => by simp at hp; rw [hp]; exact v24) vL (fun g => bad_len N (all25 _ (by rw [nms_app]; simp [nms]) (fun q hq => by rw [nms_app]; exact .inr hq)) g.2.2)
  have k1 : pt [(nm 24, (1 : Int))] = .tuple [.tuple [.str (mk (nm 24)), .int 1]] := rfl
  have k0 : pt [(nm 24, (0 : Int))] = .tuple [.tuple [.str (mk (nm 24)), .int 0]] := rfl
  rw [k1] at p3
  rw [k0] at r2
  -- one owner
  have m25 := fMod_pos (p := d1) (q := 25) (by decide)
  obtain ⟨j, ej⟩ : ∃ j : Nat, d1 % 25 = j := ⟨(d1 % 25).toNat, by omega⟩
  have hj : j < 25 := by omega
  rw [ej] at m25
  have nj := NL_ix (nm := nm) hj
  have n0 := NL_ix (nm := nm) (k := 0) (by decide)
  have n0 : fIx (.list (NL nm)) (.int 0) = some (.val (.str (mk (nm 0)))) := n0
  have vO := N.1 j hj
  have vZ := N.1 0 (by decide)
  obtain ⟨O, hO⟩ : ∃ O, O = nm j := ⟨_, rfl⟩
  obtain ⟨Zn, hZn⟩ : ∃ Zn, Zn = nm 0 := ⟨_, rfl⟩
  rw [← hO] at nj vO
  rw [← hZn] at n0 vZ
  clear hO hZn
  have f2 := fMul_l (p := d2) (q := 180) (by omega) (by omega)
  have f3 := fMul_l (p := d3) (q := 180) (by omega) (by omega)
  have g2 := fMod_pos (p := d2 * 180) (q := 5000000) (by decide)
  have g3 := fMod_pos (p := d3 * 180) (q := 5000000) (by decide)
  have bo : 0 ≤ d2 * 180 % 5000000 ∧ d2 * 180 % 5000000 < 5000000 := by omega
  have bt : 0 ≤ d3 * 180 % 5000000 ∧ d3 * 180 % 5000000 < 5000000 := by omega
  obtain ⟨one, hone⟩ : ∃ x, x = d2 * 180 % 5000000 := ⟨_, rfl⟩
  obtain ⟨two, htwo⟩ : ∃ x, x = d3 * 180 % 5000000 := ⟨_, rfl⟩
  rw [← hone] at g2 bo
  rw [← htwo] at g3 bt
  clear hone htwo
  have body : ∀ much : Int, (much = 10000000 - one - two ∨ much = 10000001 - one - two) → True := fun _ _ => trivial
  have tL1 : ∀ q, tt [(O, one), (Zn, 0), (O, two)] q = if O = q then one + two else 0 := fun q => by
    rw [tt_cons, tt_cons, tt_cons, tt_nil]
    split <;> split <;> omega
  have tL2 : ∀ (much : Int) q, tt [(O, two), (O, much)] q = if O = q then two + much else 0 := fun much q => by
    rw [tt_cons, tt_cons, tt_nil]
    split <;> omega
  have tL3 : ∀ q, tt [(O, 10000000), (Zn, 0)] q = if O = q then 10000000 else 0 := fun q => by
    rw [tt_cons, tt_cons, tt_nil]
    split <;> split <;> omega
  have V1 : Vn [(O, one), (Zn, 0), (O, two)] := fun p hp => by
    simp at hp
    rcases hp with rfl | rfl | rfl <;> assumption
  have Vo : ∀ x, Vn [(O, x)] := fun x p hp => by simp at hp; rw [hp]; exact vO
  have Vz : Vn [(Zn, 0)] := fun p hp => by simp at hp; rw [hp]; exact vZ
  have V2 : ∀ x, Vn [(O, two), (O, x)] := fun x p hp => by
    simp at hp
    rcases hp with rfl | rfl <;> exact vO
  have gl : good (SU [(O, one), (Zn, 0), (O, two)]) := good_len (by simp) fun q => by rw [tL1]; split <;> omega
  have s1 := law_sums_eq [(O, one), (Zn, 0), (O, two)] (by simp) (dl (by simp))
  have c1 : pt [(O, one), (Zn, (0 : Int)), (O, two)] = .tuple [.tuple [.str (mk O), .int one], .tuple [.str (mk Zn), .int 0], .tuple [.str (mk O), .int two]] := rfl
  rw [c1] at s1
  have s2 : ∀ much, d__law_sums [.val (.tuple [.tuple [.str (mk O), .int two], .tuple [.str (mk O), .int much]])] = .ok (.val (pt (SU [(O, two), (O, much)]))) [.val (.tuple [.tuple [.str (mk O), .int two], .tuple [.str (mk O), .int much]])] := fun much => law_sums_eq [(O, two), (O, much)] (by simp) (dl (by simp))
  have s3 := law_sums_eq [(O, 10000000), (Zn, 0)] (by simp) (dl (by simp))
  have c3 : pt [(O, (10000000 : Int)), (Zn, (0 : Int))] = .tuple [.tuple [.str (mk O), .int 10000000], .tuple [.str (mk Zn), .int 0]] := rfl
  rw [c3] at s3
  have q3 := same_pt (SU [(O, 10000000), (Zn, 0)]) (by have := SU_len [(O, (10000000 : Int)), (Zn, (0 : Int))]; simp at this; omega)
  have cO : ∀ x : Int, pt [(O, x)] = .tuple [.tuple [.str (mk O), .int x]] := fun _ => rfl
  have cZ : pt [(Zn, (0 : Int))] = .tuple [.tuple [.str (mk Zn), .int 0]] := rfl
  -- the sum is let
  have yes : ∀ much, much = 10000000 - one - two → d__law_joined [.val (pt (SU [(O, one), (Zn, 0), (O, two)])), .val (.tuple [.tuple [.str (mk O), .int much]])] = .ok (.val (pt (SU [(O, 10000000), (Zn, 0)]))) [.val (pt (SU [(O, one), (Zn, 0), (O, two)])), .val (.tuple [.tuple [.str (mk O), .int much]])] ∧
      d__law_joined [.val (.tuple [.tuple [.str (mk O), .int one]]), .val (pt (SU [(O, two), (O, much)]))] = .ok (.val (pt (SU ([(O, one)] ++ SU [(O, two), (O, much)])))) [.val (.tuple [.tuple [.str (mk O), .int one]]), .val (pt (SU [(O, two), (O, much)]))] ∧
      d__law_joined [.val (.tuple [.tuple [.str (mk Zn), .int 0]]), .val (pt (SU ([(O, one)] ++ SU [(O, two), (O, much)])))] = .ok (.val (pt (SU [(O, 10000000), (Zn, 0)]))) [.val (.tuple [.tuple [.str (mk Zn), .int 0]]), .val (pt (SU ([(O, one)] ++ SU [(O, two), (O, much)])))] := by
    intro much em
    have t1 : ∀ q, tt (SU [(O, one), (Zn, 0), (O, two)] ++ [(O, much)]) q = if O = q then 10000000 else 0 := fun q => by
      rw [tt_app, tt_SU, tL1, tt_cons, tt_nil]
      split <;> omega
    have e1 : SU (SU [(O, one), (Zn, 0), (O, two)] ++ [(O, much)]) = SU [(O, 10000000), (Zn, 0)] := SU_congr (fun q => by
      rw [nms_app, nms_SU]
      simp only [nms_cons, nms_nil, or_false]
      constructor
      · rintro ((h | h | h) | h) <;> simp [h]
      · rintro (h | h) <;> simp [h]) fun q => by rw [t1, tL3]
    have t2 : ∀ q, tt ([(O, one)] ++ SU [(O, two), (O, much)]) q = if O = q then 10000000 else 0 := fun q => by
      rw [tt_app, tt_SU, tL2, tt_cons, tt_nil]
      split <;> omega
    have t3 : ∀ q, tt ([(Zn, 0)] ++ SU ([(O, one)] ++ SU [(O, two), (O, much)])) q = if O = q then 10000000 else 0 := fun q => by
      rw [tt_app, tt_SU, t2, tt_cons, tt_nil]
      split <;> split <;> omega
    have e3 : SU ([(Zn, 0)] ++ SU ([(O, one)] ++ SU [(O, two), (O, much)])) = SU [(O, 10000000), (Zn, 0)] := SU_congr (fun q => by
      rw [nms_app, nms_SU, nms_app, nms_SU]
      simp only [nms_cons, nms_nil, or_false]
      constructor
      · rintro (h | h | h | h) <;> simp [h]
      · rintro (h | h) <;> simp [h]) fun q => by rw [t3, tL3]
    have l1 : (SU [(O, one), (Zn, 0), (O, two)] ++ [(O, much)]).length ≤ 24 := by
      have := SU_len [(O, one), (Zn, (0 : Int)), (O, two)]
      rw [List.length_append]
      simp at this ⊢
      omega
    have l2 : ([(O, one)] ++ SU [(O, two), (O, much)]).length ≤ 24 := by rw [SU_two]; simp
    have l3 : ([(Zn, (0 : Int))] ++ SU ([(O, one)] ++ SU [(O, two), (O, much)])).length ≤ 24 := by
      have := SU_len ([(O, one)] ++ SU [(O, two), (O, much)])
      rw [SU_two] at this ⊢
      rw [List.length_append]
      simp at this ⊢
      omega
    have gb : ∀ q, (0 : Int) ≤ (if O = q then 10000000 else 0) ∧ (if O = q then (10000000 : Int) else 0) ≤ 10000000 := fun q => by split <;> omega
    have gr : good (SU [(O, two), (O, much)]) := good_len (by simp) fun q => by rw [tL2]; split <;> omega
    have G2 : good (SU ([(O, one)] ++ SU [(O, two), (O, much)])) := good_len l2 fun q => by rw [t2]; exact gb q
    have w1 := law_joined_yes (Vn_SU V1) (Vo much) ⟨gl, good_one (by omega) (by omega), good_len l1 fun q => by rw [t1]; exact gb q⟩
    rw [e1, cO] at w1
    have w2 := law_joined_yes (Vo one) (Vn_SU (V2 much)) ⟨good_one (by omega) (by omega), gr, G2⟩
    rw [cO] at w2
    have w3 := law_joined_yes Vz (Vn_SU (Vn_app (Vo one) (Vn_SU (V2 much)))) ⟨good_one (by decide) (by decide), G2, good_len l3 fun q => by rw [t3]; exact gb q⟩
    rw [e3, cZ] at w3
    exact ⟨w1, w2, w3⟩
  -- one too many
  have no : ∀ much, much = 10000001 - one - two → d__law_refused [.val (pt (SU [(O, one), (Zn, 0), (O, two)])), .val (.tuple [.tuple [.str (mk O), .int much]])] = .ok (.val (.bool true)) [.val (pt (SU [(O, one), (Zn, 0), (O, two)])), .val (.tuple [.tuple [.str (mk O), .int much]])] ∧
      d__law_refused [.val (.tuple [.tuple [.str (mk O), .int one]]), .val (pt (SU [(O, two), (O, much)]))] = .ok (.val (.bool true)) [.val (.tuple [.tuple [.str (mk O), .int one]]), .val (pt (SU [(O, two), (O, much)]))] := by
    intro much em
    have w1 := law_refused_yes (Vn_SU V1) (Vo much) (fun g => bad_tt (o := O) (by rw [nms_app]; right; simp [nms]) (by
      rw [tt_app, tt_SU, tL1, tt_cons, tt_nil, if_pos rfl, if_pos rfl]
      omega) g.2.2)
    rw [cO] at w1
    have w2 := law_refused_yes (Vo one) (Vn_SU (V2 much)) (fun g => bad_tt (o := O) (by rw [nms_app]; left; simp [nms]) (by
      rw [tt_app, tt_SU, tL2, tt_cons, tt_nil, if_pos rfl, if_pos rfl]
      omega) g.2.2)
    rw [cO] at w2
    exact ⟨w1, w2⟩
  have x1 : ∀ much : Int, fIx (pt (SU [(O, two), (O, much)])) (.int 0) = some (.val (.tuple [.str (mk O), .int (two + much)])) := fun much => by
    rw [SU_two, cO]
    simp
  generalize pt (SU [(O, one), (Zn, 0), (O, two)]) = PL1 at *
  generalize pt (SU [(O, 10000000), (Zn, 0)]) = PL3 at *
  obtain ⟨PL2, hP2⟩ : ∃ PL2 : Int → D, PL2 = fun much => pt (SU [(O, two), (O, much)]) := ⟨_, rfl⟩
  obtain ⟨PL4, hP4⟩ : ∃ PL4 : Int → D, PL4 = fun much => pt (SU ([(O, one)] ++ SU [(O, two), (O, much)])) := ⟨_, rfl⟩
  have hP2' : ∀ much, pt (SU [(O, two), (O, much)]) = PL2 much := fun much => by rw [hP2]
  have hP4' : ∀ much, pt (SU ([(O, one)] ++ SU [(O, two), (O, much)])) = PL4 much := fun much => by rw [hP4]
  simp only [hP2', hP4'] at s2 yes no x1
  clear hP2 hP4 hP2' hP4'
  generalize NL nm = NN at *
  generalize pt (SU ((LOW nm a).take (24 - d0 % 12).toNat ++ b)) = W1 at *
  generalize pt ((LOW nm a).take (24 - d0 % 12).toNat ++ b) = W2 at *
  generalize pt ((LOW nm a).take (24 - d0 % 12).toNat) = W3 at *
  generalize pt (SU (LOW nm a ++ b)) = W4 at *
  generalize pt (LOW nm a ++ b) = W5 at *
  generalize pt (b ++ [(nm 24, 1)]) = W6 at *
  generalize pt (LOW nm a) = W7 at *
  generalize pt a = W8 at *
  generalize pt b = W9 at *
  unfold b__law_bounds
  refine seq_nx st ?_
  refine seq_nx (ρ1 := [.val (.list NN), .val W8, .val W9, .val (.list DL), .val W7, .val W1, .emp, .emp, .emp, .emp, .emp, .emp, .emp, .emp, .emp]) (by simp [i0, m12, cut, j1]) ?_
  refine seq_nx (ρ1 := [.val (.list NN), .val W8, .val W9, .val (.list DL), .val W7, .val W1, .emp, .emp, .emp, .emp, .emp, .emp, .emp, .emp, .emp]) (by simp [i0, m12, cut, p1, u1, q1]) ?_
  refine seq_nx (ρ1 := [.val (.list NN), .val W8, .val W9, .val (.list DL), .val W7, .val W1, .emp, .emp, .emp, .emp, .emp, .emp, .emp, .emp, .emp]) (by simp [j2, p2, u2, q2, n24, p3, r1]) ?_
  refine seq_nx (ρ1 := [.val (.list NN), .val W8, .val W9, .val (.list DL), .val W7, .val W1, .emp, .emp, .emp, .emp, .emp, .emp, .emp, .emp, .emp]) (by simp [n24, r2]) ?_
  refine seq_nx (ρ1 := [.val (.list NN), .val W8, .val W9, .val (.list DL), .val W7, .val W1, .val (.str (mk O)), .emp, .emp, .emp, .emp, .emp, .emp, .emp, .emp]) (by simp [i1, m25, nj]) ?_
  refine seq_nx (ρ1 := [.val (.list NN), .val W8, .val W9, .val (.list DL), .val W7, .val W1, .val (.str (mk O)), .val (.int one), .emp, .emp, .emp, .emp, .emp, .emp, .emp]) (by simp [i2, f2, g2]) ?_
  refine seq_nx (ρ1 := [.val (.list NN), .val W8, .val W9, .val (.list DL), .val W7, .val W1, .val (.str (mk O)), .val (.int one), .val (.int two), .emp, .emp, .emp, .emp, .emp, .emp]) (by simp [i3, f3, g3]) ?_
  refine seq_for (ρ1 := [.val (.list NN), .val W8, .val W9, .val (.list DL), .val W7, .val W1, .val (.str (mk O)), .val (.int one), .val (.int two), .emp, .emp, .emp, .emp, .emp, .emp]) (ds := [.int (10000000 - one - two), .int (10000001 - one - two)]) (by simp) ?_
  refine for_rule (fun r ρ => (∀ d ∈ r, d = .int (10000000 - one - two) ∨ d = .int (10000001 - one - two)) ∧ ∃ s9 s10 s11 s12, isBor s9 = false ∧ isBor s10 = false ∧ isBor s11 = false ∧ isBor s12 = false ∧ ρ = [.val (.list NN), .val W8, .val W9, .val (.list DL), .val W7, .val W1, .val (.str (mk O)), .val (.int one), .val (.int two), s9, s10, s11, s12, .emp, .emp]) ⟨by intro d hd; simpa using hd, .emp, .emp, .emp, .emp, rfl, rfl, rfl, rfl, rfl⟩ ?_ ?_
  · rintro d r ρ ⟨hg, s9, s10, s11, s12, n9, n10, n11, n12, rfl⟩
    have hg' : ∀ d ∈ r, d = .int (10000000 - one - two) ∨ d = .int (10000001 - one - two) := fun d hd => hg d (List.mem_cons_of_mem _ hd)
    obtain ⟨much, em, ed⟩ : ∃ much : Int, (much = 10000000 - one - two ∨ much = 10000001 - one - two) ∧ d = .int much := by
      rcases hg d (List.mem_cons_self ..) with h | h
      · exact ⟨_, .inl rfl, h⟩
      · exact ⟨_, .inr rfl, h⟩
    subst ed
    have s2 := s2 much
    have x1 := x1 much
    refine ⟨[.val (.list NN), .val W8, .val W9, .val (.list DL), .val W7, .val W1, .val (.str (mk O)), .val (.int one), .val (.int two), .val (.int much), s10, s11, s12, .emp, .emp], by simp [gNmS_nb, n9], ?_⟩
    refine seq_nx (ρ1 := [.val (.list NN), .val W8, .val W9, .val (.list DL), .val W7, .val W1, .val (.str (mk O)), .val (.int one), .val (.int two), .val (.int much), .val PL1, s11, s12, .emp, .emp]) (by simp [n0, s1, putS_nb, n10]) ?_
    refine seq_nx (ρ1 := [.val (.list NN), .val W8, .val W9, .val (.list DL), .val W7, .val W1, .val (.str (mk O)), .val (.int one), .val (.int two), .val (.int much), .val PL1, .val (PL2 much), s12, .emp, .emp]) (by simp [s2, putS_nb, n11]) ?_
    rcases em with em | em
    · obtain ⟨w1, w2, w3⟩ := yes much em
      have e0 : one + two + much = 10000000 := by omega
      exact FL_of (ρ := [.val (.list NN), .val W8, .val W9, .val (.list DL), .val W7, .val W1, .val (.str (mk O)), .val (.int one), .val (.int two), .val (.int much), .val PL1, .val (PL2 much), .val PL3, .emp, .emp]) (by simp [e0, n0, s3, w1, w2, w3, q3, putS_nb, n12]) ⟨hg', _, _, _, _, rfl, rfl, rfl, rfl, rfl⟩
    · obtain ⟨w1, w2⟩ := no much em
      have e0 : one + two + much = 10000001 := by omega
      refine FL_of (ρ := [.val (.list NN), .val W8, .val W9, .val (.list DL), .val W7, .val W1, .val (.str (mk O)), .val (.int one), .val (.int two), .val (.int much), .val PL1, .val (PL2 much), s12, .emp, .emp]) ?_ ⟨hg', _, _, _, _, rfl, rfl, rfl, n12, rfl⟩
      by_cases h : two + much ≤ 10000000
      · simp [e0, w1, w2, x1, h]
      · simp [e0, w1, x1, h]
  · rintro ρ ⟨_, s9, s10, s11, s12, n9, n10, n11, n12, rfl⟩
    simp
end
end Law
set_option Elab.async false
set_option linter.all false
set_option maxRecDepth 100000
set_option maxHeartbeats 4000000
namespace Law
open Dn PySem
open L2 (Key)
/-! ### the wear, the law -/
section
variable {nm : Nat → List Nat}
theorem pt_sh (P : List Pr) : pt P = shD P.length (fun k => (nth P k ([], 0)).1) (fun k => (nth P k ([], 0)).2) := by
  unfold pt shD shL
  congr 1
  apply List.ext_getElem
  · simp
  · intro i h1 h2
    have h : i < P.length := by simpa using h1
    simp [nth_lt h]
theorem good_sh {P : List Pr} (g : good P) (v : Vn P) : Shs P.length (fun k => (nth P k ([], 0)).1) (fun k => (nth P k ([], 0)).2) where
  le := g.1
  ok := fun k hk => v _ (nth_mem hk)
  inj := fun j hj k hk e => by
    have e : (nth P j ([], 0)).1 = (nth P k ([], 0)).1 := e
    rw [nth_lt hj, nth_lt hk] at e
    have hj' : j < (nms P).length := by simpa [nms] using hj
    have hk' : k < (nms P).length := by simpa [nms] using hk
    refine (List.getElem_inj (h₀ := hj') (h₁ := hk') g.2.1).mp ?_
    simpa [nms] using e
  lo := fun k hk => (g.2.2 _ (nth_mem hk)).1
  hi := fun k hk => (g.2.2 _ (nth_mem hk)).2
/-- charge and the law's due are one -/
theorem charged {P : List Pr} (g : good P) (v : Vn P) {c : Int} (h0 : 0 ≤ c) (h1 : c ≤ 1000000000) : ∃ Y : D, d_charge [.val (pt P), .val (.int c)] = .ok (.val Y) [.val (pt P), .val (.int c)] ∧ d__law_due [.val (pt P), .val (.int c)] = .ok (.val Y) [.val (pt P), .val (.int c)] ∧ d__law_same [.val Y, .val Y] = .ok (.val (.bool true)) [.val Y, .val Y] := by
  have S := good_sh g v
  have x1 := charge_eq S h0 h1
  have x2 := law_due_eq S h0 h1
  rw [← pt_sh] at x1 x2
  refine ⟨_, x1, x2, ?_⟩
  rw [law_same_eq _ _ (wt_sh S.le) plain_sh, same_sh, eqA_true fun _ _ => rfl]
structure Use (nm : Nat → List Nat) (P : List Pr) : Prop where
  le : P.length ≤ 8
  vn : Vn P
  lo : ∀ p ∈ P, 0 ≤ p.2 ∧ p.2 ≤ 100000
theorem tt_use : ∀ {P : List Pr}, (∀ p ∈ P, 0 ≤ p.2 ∧ p.2 ≤ 100000) → ∀ q, 0 ≤ tt P q ∧ tt P q ≤ 100000 * P.length
  | [], _, q => by rw [tt_nil]; simp
  | (o, x) :: P, h, q => by
    have ih := tt_use (P := P) (fun p hp => h p (List.mem_cons_of_mem _ hp)) q
    have h0 : 0 ≤ x ∧ x ≤ 100000 := h (o, x) (List.mem_cons_self ..)
    rw [tt_cons, List.length_cons]
    split <;> omega
theorem Use.tt {P : List Pr} (U : Use nm P) (q : List Nat) : 0 ≤ Law.tt P q ∧ Law.tt P q ≤ 800000 := by
  have := tt_use U.lo q
  have := U.le
  omega
theorem Use.us {P : List Pr} (U : Use nm P) : Us P := ⟨by have := U.le; omega, U.vn, U.lo⟩
theorem worn_eq (ns : List Int) (hns : ns.length ≤ 63) (N : NmOk nm) (c : Int) (c0 : 0 ≤ c) (c1 : c ≤ 1000000000) : d__law_worn [.val (script ns), .val (.list (NL nm)), .val (.int c)] = .ok (.val (.bool true)) [.val (script ns), .val (.list (NL nm)), .val (.int c)] := by
  refine mkF_ret (ds := [script ns, .list (NL nm), .int c]) rfl ?_
  obtain ⟨xs, hx, ex⟩ := row_eq ns hns 11 3 9 (by decide) (by decide) (by decide) (by decide) (by decide) (by decide)
  have hc : ∀ i : Nat, i < 3 → ∃ v : Int, (0 ≤ v ∧ v < 9) ∧ fIx (.list (xs.map .int)) (.int (i : Int)) = some (.val (.int v)) := fun i hi => hx.ix i (by omega) (by show (i : Int) < ((3 : Int).toNat : Int); simp; omega)
  have hr : ∀ (i : Nat) (v : Int), i < 3 → 0 ≤ v → v < 9 → ∃ ys, Rows ys v.toNat 600000 ∧ d__law_row [.val (script ns), .val (.int (12 + i)), .val (.int v), .val (.int 600000)] = .ok (.val (.list (ys.map .int))) [.val (script ns), .val (.int (12 + i)), .val (.int v), .val (.int 600000)] := fun i v hi h0 h1 => row_eq ns hns (12 + i) v 600000 (by omega) (by omega) h0 (by omega) (by decide) (by decide)
  have iN : ∀ k : Nat, k < 25 → fIx (.list (NL nm)) (.int (k : Int)) = some (.val (.str (mk (nm k)))) := fun k hk => NL_ix hk
  obtain ⟨S, hS⟩ : ∃ S, S = script ns := ⟨_, rfl⟩
  rw [← hS] at ex ⊢
  simp only [← hS] at hr
  clear hS
  show Ret 3 _ (b__law_worn [.val S, .val (.list (NL nm)), .val (.int c), .emp, .emp, .emp, .emp, .emp, .emp, .emp])
  unfold b__law_worn
  generalize NL nm = NN at *
  generalize xs.map PyData.int = XL at *
  refine seq_nx (ρ1 := [.val S, .val (.list NN), .val (.int c), .val (.list XL), .emp, .emp, .emp, .emp, .emp, .emp]) (by simp [ex]) ?_
  refine seq_nx (ρ1 := [.val S, .val (.list NN), .val (.int c), .val (.list XL), .own (.lst []), .emp, .emp, .emp, .emp, .emp]) (by simp) ?_
  have e3 := rg1_ok (n := 3) (by decide) (by decide)
  refine seq_for (ρ1 := [.val S, .val (.list NN), .val (.int c), .val (.list XL), .own (.lst []), .emp, .emp, .emp, .emp, .emp]) (ds := rgD 0 3) (by simp [e3]) ?_
  refine for_rg (fun i ρ => ∃ (Rw : List (List Pr)) (s5 s8 : Sl), isBor s5 = false ∧ isBor s8 = false ∧ Rw.length = i ∧ (∀ P ∈ Rw, Use nm P) ∧ ρ = [.val S, .val (.list NN), .val (.int c), .val (.list XL), .own (.lst (Rw.map pt)), s5, .emp, .emp, s8, .emp]) ⟨[], .emp, .emp, rfl, rfl, rfl, by simp, rfl⟩ ?_ ?_
  · rintro i hi ρ ⟨Rw, s5, s8, n5, n8, hl, hU, rfl⟩
    obtain ⟨v, bv, iv⟩ := hc i hi
    obtain ⟨ys, hy, ey⟩ := hr i v hi bv.1 bv.2
    have yl : ys.length ≤ 8 := by rw [hy.1]; omega
    have e9 := lc_t0 (vs := [9]) (L := ys) (inj := .int) (f := fun y => pr2 (nm (y % 6).toNat) (y / 6 % 100001)) (mi := eIt (toV (eVar 8))) (g := gNm 9) (e := eOpN fTup (aCons (toV (eIxV 1 (toV (eOp2 fMod (toV (eOp1 fInt (ePk 9))) (toV (eC (.int 6))))))) (aCons (toV (eOp2 fMod (toV (eOp1 fInt (toV (eOp2 fFdiv (toV (eVar 9)) (toV (eC (.int 6))))))) (toV (eC (.int 100001))))) (aNil))))
      (ρ := [.val S, .val (.list NN), .val (.int c), .val (.list XL), .own (.lst (Rw.map pt)), .val (.int i), .emp, .emp, .val (.list (ys.map .int)), .emp]) (by simp) (by simp) (fun y hy' => ⟨_, by simp; rfl, (by
        have m1 := fMod_pos (p := y) (q := 6) (by decide)
        have m2 := fFdiv_pos (p := y) (q := 6) (by decide) (by decide)
        have m3 := fMod_pos (p := y / 6) (q := 100001) (by decide)
        have i1 := iN (y % 6).toNat (by omega)
        rw [Int.toNat_of_nonneg (by omega)] at i1
        generalize Rw.map pt = Z at *
        generalize ys.map PyData.int = Z2 at *
        simp [m1, m2, m3, i1, pr2]), by simp⟩) (by omega) rfl
    obtain ⟨P, hP⟩ : ∃ P : List Pr, P = ys.map fun y => (nm (y % 6).toNat, y / 6 % 100001) := ⟨_, rfl⟩
    have eP : (PyData.tuple (ys.map fun y => pr2 (nm (y % 6).toNat) (y / 6 % 100001))) = pt P := by
      rw [hP]
      unfold pt
      rw [List.map_map]
      rfl
    have uP : Use nm P := ⟨by rw [hP, List.length_map]; exact yl, fun p hp => by
        rw [hP] at hp
        obtain ⟨y, _, rfl⟩ := List.mem_map.mp hp
        exact N.1 _ (by omega), fun p hp => by
        rw [hP] at hp
        obtain ⟨y, _, rfl⟩ := List.mem_map.mp hp
        show 0 ≤ y / 6 % 100001 ∧ y / 6 % 100001 ≤ 100000
        omega⟩
    have hlen : (Rw.map pt).length < 16777216 := by rw [List.length_map]; omega
    have em : (Rw ++ [P]).map pt = Rw.map pt ++ [pt P] := by rw [List.map_append]; rfl
    refine ⟨[.val S, .val (.list NN), .val (.int c), .val (.list XL), .own (.lst (Rw.map pt)), .val (.int i), .emp, .emp, s8, .emp], by simp; rw [gNmS_nb n5]; simp, ?_⟩
    refine FL_of (ρ := [.val S, .val (.list NN), .val (.int c), .val (.list XL), .own (.lst ((Rw ++ [P]).map pt)), .val (.int i), .emp, .emp, .val (.list (ys.map .int)), .emp]) ?_ ⟨Rw ++ [P], _, _, rfl, rfl, by simp [hl], fun Q hQ => by
      rcases List.mem_append.mp hQ with hQ | hQ
      · exact hU Q hQ
      · simp at hQ; rw [hQ]; exact uP, rfl⟩
    rw [em]
    generalize Rw.map pt = Z at *
    generalize ys.map PyData.int = Z2 at *
    generalize (ys.map fun y => pr2 (nm (y % 6).toNat) (y / 6 % 100001)) = Z3 at *
    simp [iv, ey, e9, eP, hlen, putS_nb, n8]
  · rintro ρ ⟨Rw, s5, s8, n5, n8, hl, hU, rfl⟩
    match Rw, hl, hU with
    | [a, b, d], _, hU =>
      have A := hU a (by simp)
      have B := hU b (by simp)
      have Dd := hU d (by simp)
      have la := A.le
      have lb := B.le
      have ld := Dd.le
      have w1 := wear_eq A.us
      have w2 := wear_eq B.us
      have w3 := wear_eq Dd.us
      have gA : good (SU a) := good_len (by omega) fun q => by have := A.tt q; omega
      have gB : good (SU b) := good_len (by omega) fun q => by have := B.tt q; omega
      have gD : good (SU d) := good_len (by omega) fun q => by have := Dd.tt q; omega
      have sa := SU_len a
      have sb := SU_len b
      have sd := SU_len d
      have g1 : good (SU (SU a ++ SU b)) := good_len (by rw [List.length_append]; omega) fun q => by rw [tt_app, tt_SU, tt_SU]; have := A.tt q; have := B.tt q; omega
      have sab := SU_len (SU a ++ SU b)
      rw [List.length_append] at sab
      have j1 := law_joined_yes (Vn_SU A.vn) (Vn_SU B.vn) ⟨gA, gB, g1⟩
      have e3 : SU (SU (SU a ++ SU b) ++ SU d) = SU (a ++ b ++ d) := SU_congr (fun o => by rw [nms_app, nms_SU, nms_app, nms_SU, nms_SU, nms_SU, nms_app, nms_app]) fun o => by rw [tt_app, tt_SU, tt_app, tt_SU, tt_SU, tt_SU, tt_app, tt_app]
      have tq : ∀ q, 0 ≤ tt (a ++ b ++ d) q ∧ tt (a ++ b ++ d) q ≤ 10000000 := fun q => by
        rw [tt_app, tt_app]; have := A.tt q; have := B.tt q; have := Dd.tt q; omega
      have l3 : (a ++ b ++ d).length ≤ 24 := by rw [List.length_append, List.length_append]; omega
      have g3 : good (SU (a ++ b ++ d)) := good_len l3 tq
      have j2 := law_joined_yes (Vn_SU (Vn_app (Vn_SU A.vn) (Vn_SU B.vn))) (Vn_SU Dd.vn) ⟨g1, gD, by rw [e3]; exact g3⟩
      rw [e3] at j2
      have p1 := pt_add (P := a) (Q := b) (by omega)
      have p2 := pt_add (P := a ++ b) (Q := d) (by rw [List.length_append]; omega)
      have s1 := law_sums_eq (a ++ b ++ d) (by omega) (dl (by omega))
      have p3 := pt_add (P := d) (Q := a) (by omega)
      have p4 := pt_add (P := d ++ a) (Q := b) (by rw [List.length_append]; omega)
      have w4 := wear_eq (P := d ++ a ++ b) ⟨by rw [List.length_append, List.length_append]; omega, Vn_app (Vn_app Dd.vn A.vn) B.vn, fun p hp => by
        rcases List.mem_append.mp hp with hp | hp
        · rcases List.mem_append.mp hp with hp | hp
          · exact Dd.lo p hp
          · exact A.lo p hp
        · exact B.lo p hp⟩
      have e4 : SU (d ++ a ++ b) = SU (a ++ b ++ d) := SU_congr (fun o => by
        rw [nms_app, nms_app, nms_app, nms_app]
        constructor <;> (intro h; rcases h with (h | h) | h <;> simp [h])) fun o => by rw [tt_app, tt_app, tt_app, tt_app]; omega
      rw [e4] at w4
      have sm := same_pt (SU (a ++ b ++ d)) (by have := SU_len (a ++ b ++ d); omega)
      obtain ⟨Y, y1, y2, y3⟩ := charged g3 (Vn_SU (Vn_app (Vn_app A.vn B.vn) Dd.vn)) c0 c1
      show Ret 3 _ (sSeq _ _ [.val S, .val (.list NN), .val (.int c), .val (.list XL), .own (.lst [pt a, pt b, pt d]), s5, .emp, .emp, s8, .emp])
      generalize pt (SU (a ++ b ++ d)) = W1 at *
      generalize pt (a ++ b ++ d) = W2 at *
      generalize pt (d ++ a ++ b) = W3 at *
      generalize pt (SU (SU a ++ SU b)) = W4 at *
      generalize pt (SU a) = W5 at *
      generalize pt (SU b) = W6 at *
      generalize pt (SU d) = W7 at *
      generalize pt (a ++ b) = W8 at *
      generalize pt (d ++ a) = W9 at *
      generalize pt a = V1 at *
      generalize pt b = V2 at *
      generalize pt d = V3 at *
      refine seq_nx (ρ1 := [.val S, .val (.list NN), .val (.int c), .val (.list XL), .own (.lst [V1, V2, V3]), s5, .val W1, .emp, s8, .emp]) (by simp [w1, w2, w3, j1, j2]) ?_
      refine seq_nx (ρ1 := [.val S, .val (.list NN), .val (.int c), .val (.list XL), .own (.lst [V1, V2, V3]), s5, .val W1, .val W1, s8, .emp]) (by simp [p1, p2, s1]) ?_
      refine seq_nx (ρ1 := [.val S, .val (.list NN), .val (.int c), .val (.list XL), .own (.lst [V1, V2, V3]), s5, .val W1, .val W1, s8, .emp]) (by simp [sm, p3, p4, w4]) ?_
      simp [y1, y2, y3]
theorem lim_ix {m : Int} (h0 : 0 ≤ m) (h1 : m < 3) : ∃ L : Int, (0 < L ∧ L ≤ 3333334) ∧ fIx (.list [.int 4, .int 1001, .int 3333334]) (.int m) = some (.val (.int L)) := by
  have : m = 0 ∨ m = 1 ∨ m = 2 := by omega
  rcases this with rfl | rfl | rfl
  · exact ⟨4, by decide, by simp⟩
  · exact ⟨1001, by decide, by simp⟩
  · exact ⟨3333334, by decide, by simp⟩
theorem law_true (ns : List Int) (hns : ns.length ≤ 63) : ∃ ρ, d_law [.val (script ns)] = .ok (.val (.bool true)) ρ := by
  refine ⟨_, mkF_ret (ds := [script ns]) rfl ?_⟩
  obtain ⟨c0, ec⟩ := cell_eq ns 0 (by decide)
  obtain ⟨F, hF⟩ : ∃ F : Int, F = if c0 < 0 then -c0 else c0 := ⟨_, rfl⟩
  have F0 : 0 ≤ F := by rw [hF]; split <;> omega
  obtain ⟨Nn, ⟨N1, N2, N3⟩, eN⟩ := names_eq ns hns 1 25 (by decide) (by decide) (by decide) (by decide)
  have N1 : Nn.length = 25 := N1
  obtain ⟨nm, hnm⟩ : ∃ nm : Nat → List Nat, nm = fun k => nth Nn k [] := ⟨_, rfl⟩
  have N : NmOk nm := ⟨fun k hk => by rw [hnm]; exact N2 _ (nth_mem (by omega)), fun j hj k hk e => by
    rw [hnm] at e
    have e : nth Nn j [] = nth Nn k [] := e
    rw [nth_lt (by omega), nth_lt (by omega)] at e
    exact (List.getElem_inj N3).mp e⟩
  have eNL : (Nn.map fun z => PyData.str (mk z)) = NL nm := by
    unfold NL
    rw [hnm]
    apply List.ext_getElem
    · simp [N1]
    · intro i h1 h2
      have h : i < Nn.length := by simpa using h1
      simp [nth_lt h]
  rw [eNL] at eN
  obtain ⟨ds, hd, eD⟩ := row_eq ns hns 15 6 27720 (by decide) (by decide) (by decide) (by decide) (by decide) (by decide)
  have m3 := fMod_pos (p := F) (q := 3) (by decide)
  obtain ⟨L, bL, iL⟩ := lim_ix (m := F % 3) (by omega) (by omega)
  obtain ⟨a, A, ea⟩ := shares_eq ns hns N 2 L (by decide) (by decide) bL.1 bL.2
  obtain ⟨b, B, eb⟩ := shares_eq ns hns N 5 L (by decide) (by decide) bL.1 bL.2
  obtain ⟨d, Dd, ed⟩ := shares_eq ns hns N 8 L (by decide) (by decide) bL.1 bL.2
  obtain ⟨d4, b4, i4⟩ := hd.ix 4 (by decide) (by decide)
  obtain ⟨d5, b5, i5⟩ := hd.ix 5 (by decide) (by decide)
  have g1 := grouped_eq N A B Dd
  have g2 := bounds_eq N A B hd
  have mc := fMod_pos (p := d4 * 40000 + d5) (q := 1000000001) (by decide)
  have ml := fMul_l (p := d4) (q := 40000) (by omega) (by omega)
  have g3 := worn_eq ns hns N ((d4 * 40000 + d5) % 1000000001) (by omega) (by omega)
  obtain ⟨S, hS⟩ : ∃ S, S = script ns := ⟨_, rfl⟩
  rw [← hS] at ec eN eD ea eb ed g3
  show Ret 1 _ (b_law [.val (script ns), .emp, .emp, .emp, .emp, .emp, .emp])
  rw [← hS]
  clear hS
  generalize NL nm = NN at *
  generalize ds.map PyData.int = DL at *
  generalize pt a = PA at *
  generalize pt b = PB at *
  generalize pt d = PC at *
  unfold b_law
  refine seq_nx (ρ1 := [.val S, .val (.int F), .emp, .emp, .emp, .emp, .emp]) (by simp [ec, hF]) ?_
  refine seq_nx (ρ1 := [.val S, .val (.int F), .val (.list NN), .emp, .emp, .emp, .emp]) (by simp [eN]) ?_
  refine seq_nx (ρ1 := [.val S, .val (.int F), .val (.list NN), .val (.int L), .emp, .emp, .emp]) (by simp [m3, iL]) ?_
  have e4 := lc_t0 (vs := [6]) (L := [(2, PA), (5, PB), (8, PC)]) (inj := fun p : Int × D => .int p.1) (f := fun p => p.2) (mi := eIt (toV (eOpN fLst (aCons (toV (eC (.int 2))) (aCons (toV (eC (.int 5))) (aCons (toV (eC (.int 8))) (aNil))))))) (g := gNm 6) (e := eCall 4 d__law_shares (aCons (toV (eVar 0)) (aCons (toV (eVar 6)) (aCons (toV (eVar 2)) (aCons (toV (eVar 3)) (aNil))))))
    (ρ := [.val S, .val (.int F), .val (.list NN), .val (.int L), .emp, .emp, .emp]) (by simp) (by simp) (fun x hx => by
      simp only [List.mem_cons, List.not_mem_nil, or_false] at hx
      rcases hx with rfl | rfl | rfl
      · exact ⟨_, by simp; rfl, by simp [ea], by simp⟩
      · exact ⟨_, by simp; rfl, by simp [eb], by simp⟩
      · exact ⟨_, by simp; rfl, by simp [ed], by simp⟩) (by simp) rfl
  refine seq_nx (ρ1 := [.val S, .val (.int F), .val (.list NN), .val (.int L), .own (.lst [PA, PB, PC]), .emp, .emp]) (by simp [e4]) ?_
  refine seq_nx (ρ1 := [.val S, .val (.int F), .val (.list NN), .val (.int L), .own (.lst [PA, PB, PC]), .val (.list DL), .emp]) (by simp [eD]) ?_
  refine seq_nx (ρ1 := [.val S, .val (.int F), .val (.list NN), .val (.int L), .own (.lst [PA, PB, PC]), .val (.list DL), .emp]) (by simp [g1]) ?_
  refine seq_nx (ρ1 := [.val S, .val (.int F), .val (.list NN), .val (.int L), .own (.lst [PA, PB, PC]), .val (.list DL), .emp]) (by simp [g2]) ?_
  simp [i4, i5, ml, mc, g3]
end
end Law
set_option Elab.async false
set_option linter.all false
set_option maxRecDepth 100000
namespace Law
open PySem L2 Dn
def topS (i : Nat) : Stmt := PySem.Challenge.pw_typefoundry_k67_shares_joined.main.body.getD i (.Pass ⟨0, 0, 0, 0⟩)
abbrev s_is_whole : Stmt := topS 6
abbrev N_is_whole : List Str := ["value"]
theorem sc_is_whole : FnScope N_is_whole ["value"] (defScope s_is_whole) := ⟨rfl, rfl, rfl, by decide +kernel, rfl, by decide +kernel, by decide +kernel⟩
abbrev s_is_whole_in : Stmt := topS 7
abbrev N_is_whole_in : List Str := ["value", "low", "high"]
theorem sc_is_whole_in : FnScope N_is_whole_in ["value", "low", "high"] (defScope s_is_whole_in) := ⟨rfl, rfl, rfl, by decide +kernel, rfl, by decide +kernel, by decide +kernel⟩
abbrev s_is_name : Stmt := topS 8
abbrev N_is_name : List Str := ["value", "char"]
theorem sc_is_name : FnScope N_is_name ["value"] (defScope s_is_name) := ⟨rfl, rfl, rfl, by decide +kernel, rfl, by decide +kernel, by decide +kernel⟩
abbrev s_is_tuple_of : Stmt := topS 9
abbrev N_is_tuple_of : List Str := ["value", "low", "high"]
theorem sc_is_tuple_of : FnScope N_is_tuple_of ["value", "low", "high"] (defScope s_is_tuple_of) := ⟨rfl, rfl, rfl, by decide +kernel, rfl, by decide +kernel, by decide +kernel⟩
abbrev s_check_shares : Stmt := topS 14
abbrev N_check_shares : List Str := ["shares", "owners", "share", "owner", "weight"]
theorem sc_check_shares : FnScope N_check_shares ["shares"] (defScope s_check_shares) := ⟨rfl, rfl, rfl, by decide +kernel, rfl, by decide +kernel, by decide +kernel⟩
abbrev s_check_cost : Stmt := topS 15
abbrev N_check_cost : List Str := ["cost"]
theorem sc_check_cost : FnScope N_check_cost ["cost"] (defScope s_check_cost) := ⟨rfl, rfl, rfl, by decide +kernel, rfl, by decide +kernel, by decide +kernel⟩
abbrev s_dues : Stmt := topS 16
abbrev N_dues : List Str := ["shares", "cost", "total", "owner", "weight"]
theorem sc_dues : FnScope N_dues ["shares", "cost"] (defScope s_dues) := ⟨rfl, rfl, rfl, by decide +kernel, rfl, by decide +kernel, by decide +kernel⟩
abbrev s_has_weight : Stmt := topS 17
abbrev N_has_weight : List Str := ["shares", "owner", "weight"]
theorem sc_has_weight : FnScope N_has_weight ["shares"] (defScope s_has_weight) := ⟨rfl, rfl, rfl, by decide +kernel, rfl, by decide +kernel, by decide +kernel⟩
abbrev s_charge : Stmt := topS 18
abbrev N_charge : List Str := ["shares", "cost", "parts", "charges", "missing", "order", "rank", "whole", "remainder", "index", "owner", "weight"]
theorem sc_charge : FnScope N_charge ["shares", "cost"] (defScope s_charge) := ⟨rfl, rfl, rfl, by decide +kernel, rfl, by decide +kernel, by decide +kernel⟩
abbrev s_joined_shares : Stmt := topS 19
abbrev N_joined_shares : List Str := ["first", "second", "weights", "joined", "owner", "weight"]
theorem sc_joined_shares : FnScope N_joined_shares ["first", "second"] (defScope s_joined_shares) := ⟨rfl, rfl, rfl, by decide +kernel, rfl, by decide +kernel, by decide +kernel⟩
abbrev s_check_uses : Stmt := topS 23
abbrev N_check_uses : List Str := ["uses", "use", "owner", "number"]
theorem sc_check_uses : FnScope N_check_uses ["uses"] (defScope s_check_uses) := ⟨rfl, rfl, rfl, by decide +kernel, rfl, by decide +kernel, by decide +kernel⟩
abbrev s_wear_by_owner : Stmt := topS 24
abbrev N_wear_by_owner : List Str := ["uses", "sums", "owner", "number"]
theorem sc_wear_by_owner : FnScope N_wear_by_owner ["uses"] (defScope s_wear_by_owner) := ⟨rfl, rfl, rfl, by decide +kernel, rfl, by decide +kernel, by decide +kernel⟩
abbrev s__law_cell : Stmt := topS 26
abbrev N__law_cell : List Str := ["script", "k"]
theorem sc__law_cell : FnScope N__law_cell ["script", "k"] (defScope s__law_cell) := ⟨rfl, rfl, rfl, by decide +kernel, rfl, by decide +kernel, by decide +kernel⟩
abbrev s__law_row : Stmt := topS 27
abbrev N__law_row : List Str := ["script", "place", "count", "limit", "cell", "rest", "found", "k", "one", "two", "three"]
theorem sc__law_row : FnScope N__law_row ["script", "place", "count", "limit"] (defScope s__law_row) := ⟨rfl, rfl, rfl, by decide +kernel, rfl, by decide +kernel, by decide +kernel⟩
abbrev s__law_same_single : Stmt := topS 28
abbrev N__law_same_single : List Str := ["actual", "due"]
theorem sc__law_same_single : FnScope N__law_same_single ["actual", "due"] (defScope s__law_same_single) := ⟨rfl, rfl, rfl, by decide +kernel, rfl, by decide +kernel, by decide +kernel⟩
abbrev s__law_same : Stmt := topS 29
abbrev N__law_same : List Str := ["actual", "due", "waiting", "step", "one", "other", "k"]
theorem sc__law_same : FnScope N__law_same ["actual", "due"] (defScope s__law_same) := ⟨rfl, rfl, rfl, by decide +kernel, rfl, by decide +kernel, by decide +kernel⟩
abbrev s__law_names : Stmt := topS 30
abbrev N__law_names : List Str := ["script", "place", "count", "letters", "chars", "draws", "way", "turn", "step", "tail", "names", "k", "at", "high", "low", "draw"]
theorem sc__law_names : FnScope N__law_names ["script", "place", "count"] (defScope s__law_names) := ⟨rfl, rfl, rfl, by decide +kernel, rfl, by decide +kernel, by decide +kernel⟩
abbrev s__law_order : Stmt := topS 31
abbrev N__law_order : List Str := ["draws", "row", "k", "other", "kept"]
theorem sc__law_order : FnScope N__law_order ["draws"] (defScope s__law_order) := ⟨rfl, rfl, rfl, by decide +kernel, rfl, by decide +kernel, by decide +kernel⟩
abbrev s__law_sums : Stmt := topS 32
abbrev N__law_sums : List Str := ["pairs", "sums", "owner", "number"]
theorem sc__law_sums : FnScope N__law_sums ["pairs"] (defScope s__law_sums) := ⟨rfl, rfl, rfl, by decide +kernel, rfl, by decide +kernel, by decide +kernel⟩
abbrev s__law_due : Stmt := topS 33
abbrev N__law_due : List Str := ["shares", "cost", "total", "whole", "rest", "missing", "found", "k", "ahead", "share", "j"]
theorem sc__law_due : FnScope N__law_due ["shares", "cost"] (defScope s__law_due) := ⟨rfl, rfl, rfl, by decide +kernel, rfl, by decide +kernel, by decide +kernel⟩
abbrev s__law_joined : Stmt := topS 34
abbrev N__law_joined : List Str := ["first", "second"]
theorem sc__law_joined : FnScope N__law_joined ["first", "second"] (defScope s__law_joined) := ⟨rfl, rfl, rfl, by decide +kernel, rfl, by decide +kernel, by decide +kernel⟩
abbrev s__law_refused : Stmt := topS 35
abbrev N__law_refused : List Str := ["first", "second", "e"]
theorem sc__law_refused : FnScope N__law_refused ["first", "second"] (defScope s__law_refused) := ⟨rfl, rfl, rfl, by decide +kernel, rfl, by decide +kernel, by decide +kernel⟩
abbrev s__law_shares : Stmt := topS 36
abbrev N__law_shares : List Str := ["script", "place", "names", "limit", "draws", "weights", "order", "one", "shares", "k"]
theorem sc__law_shares : FnScope N__law_shares ["script", "place", "names", "limit"] (defScope s__law_shares) := ⟨rfl, rfl, rfl, by decide +kernel, rfl, by decide +kernel, by decide +kernel⟩
abbrev s__law_grouped : Stmt := topS 37
abbrev N__law_grouped : List Str := ["a", "b", "c", "due", "first", "second"]
theorem sc__law_grouped : FnScope N__law_grouped ["a", "b", "c"] (defScope s__law_grouped) := ⟨rfl, rfl, rfl, by decide +kernel, rfl, by decide +kernel, by decide +kernel⟩
abbrev s__law_bounds : Stmt := topS 38
abbrev N__law_bounds : List Str := ["names", "a", "b", "draws", "low", "joined", "owner", "one", "two", "much", "left", "right", "due", "name", "share"]
theorem sc__law_bounds : FnScope N__law_bounds ["names", "a", "b", "draws"] (defScope s__law_bounds) := ⟨rfl, rfl, rfl, by decide +kernel, rfl, by decide +kernel, by decide +kernel⟩
abbrev s__law_worn : Stmt := topS 39
abbrev N__law_worn : List Str := ["script", "names", "cost", "counts", "rows", "part", "told", "due", "draws", "draw"]
theorem sc__law_worn : FnScope N__law_worn ["script", "names", "cost"] (defScope s__law_worn) := ⟨rfl, rfl, rfl, by decide +kernel, rfl, by decide +kernel, by decide +kernel⟩
abbrev s_law : Stmt := topS 40
abbrev N_law : List Str := ["script", "first", "names", "limit", "rows", "draws", "place"]
theorem sc_law : FnScope N_law ["script"] (defScope s_law) := ⟨rfl, rfl, rfl, by decide +kernel, rfl, by decide +kernel, by decide +kernel⟩
section
variable {P : Program} {w : World} {K : PySem.W.Frag} {mg : Str → Option Value} {base : Heap}
set_option maxHeartbeats 4000000 in
theorem ok_is_whole {f : Addr} {fd : FuncData} (F : Fun K "is_whole" "is_whole" s_is_whole f fd) (m_isinstance : mg "isinstance" = none) (m_int : mg "int" = none) (m_bool : mg "bool" = none) : FnOk P w K mg base (L2.CX P w) 1 f fd ["value"] (spG K mg 1 d_is_whole) := by
  refine known F sc_is_whole (fun cdv A outer s H E C hr tk po => ?_)
  exact (js_one (js_ret (je_and (je_isi kit_int bt_int m_isinstance m_int (jp_var (pv 0)) rfl rfl) (je_one (je_not (je_isi kit_bool bt_bool m_isinstance m_bool (jp_var (pv 0)) rfl rfl))))))
set_option maxHeartbeats 4000000 in
theorem ok_is_whole_in {f : Addr} {fd : FuncData} (F : Fun K "is_whole_in" "is_whole_in" s_is_whole_in f fd) (G_is_whole : Known P w K mg base "is_whole" ["value"] 1 d_is_whole) : FnOk P w K mg base (L2.CX P w) 2 f fd ["value", "low", "high"] (spG K mg 3 d_is_whole_in) := by
  obtain ⟨a_is_whole, fd_is_whole, F_is_whole, m_is_whole, k_is_whole, b_is_whole⟩ := G_is_whole
  refine known F sc_is_whole_in (fun cdv A outer s H E C hr tk po => ?_)
  exact (js_one (js_ret (je_and (je_call F_is_whole (hr.mono (by decide)) m_is_whole k_is_whole b_is_whole tk (ja_cons (JE.v (je_var (pv 0))) (ja_nil)) rfl) (je_one (je_chain od_le od_le (JE.v (je_var (pv 1))) (JE.v (je_var (pv 0))) (JE.v (je_var (pv 2))))))))
set_option maxHeartbeats 4000000 in
theorem ok_is_name {f : Addr} {fd : FuncData} (F : Fun K "is_name" "is_name" s_is_name f fd) (m_len : mg "len" = none) (m_isinstance : mg "isinstance" = none) (m_str : mg "str" = none) {t_LETTERS : Tok} (c_LETTERS : mg "LETTERS" = some (.str "abcdefghijklmnopqrstuvwxyz" t_LETTERS)) {t_DIGITS : Tok} (c_DIGITS : mg "DIGITS" = some (.str "0123456789" t_DIGITS)) : FnOk P w K mg base (L2.CX P w) 1 f fd ["value"] (spG K mg 1 d_is_name) := by
  refine known F sc_is_name (fun cdv A outer s H E C hr tk po => ?_)
  exact (js_cons (js_if (jt_not (jt_tru (JE.p (je_isi kit_str bt_str m_isinstance m_str (jp_var (pv 0)) rfl rfl)))) (js_one (js_ret (je_bl))) (js_nil))
    (js_cons (js_if (JW.t (jw_or (jt_cmp od_lt (JE.v (je_b1 cr_len m_len bt_len (jp_var (pv 0)) rfl)) (JE.v (je_int)) (nomark _)) (jw_or1 (jt_cmp od_gt (JE.v (je_b1 cr_len m_len bt_len (jp_var (pv 0)) rfl)) (JE.v (je_int)) (nomark _))))) (js_one (js_ret (je_bl))) (js_nil))
    (js_cons (js_if (jt_cmp od_notin (JE.v (je_ixV (pv 0) (JE.v (je_int)) (fun _ _ => rfl))) (JE.v (je_gstr c_LETTERS rfl)) (by rfl)) (js_one (js_ret (je_bl))) (js_nil))
    (js_cons (js_for po rfl (ji_any (JE.v (je_var (pv 0)))) (jg_name (i := 1) sc_is_name.nd rfl (.inl rfl)) (js_one (js_if (JW.t (jw_and (jt_cmp od_notin (JE.v (je_var (pv 1))) (JE.v (je_gstr c_LETTERS rfl)) (by rfl)) (jw_and1 (jt_cmp od_notin (JE.v (je_var (pv 1))) (JE.v (je_gstr c_DIGITS rfl)) (by rfl))))) (js_one (js_ret (je_bl))) (js_nil))))
    (js_one (js_ret (je_bl)))))))
set_option maxHeartbeats 4000000 in
theorem ok_is_tuple_of {f : Addr} {fd : FuncData} (F : Fun K "is_tuple_of" "is_tuple_of" s_is_tuple_of f fd) (m_isinstance : mg "isinstance" = none) (m_tuple : mg "tuple" = none) (m_len : mg "len" = none) : FnOk P w K mg base (L2.CX P w) 1 f fd ["value", "low", "high"] (spG K mg 3 d_is_tuple_of) := by
  refine known F sc_is_tuple_of (fun cdv A outer s H E C hr tk po => ?_)
  exact (js_one (js_ret (je_and (je_isi kit_tuple bt_tuple m_isinstance m_tuple (jp_var (pv 0)) rfl rfl) (je_one (je_chain od_le od_le (JE.v (je_var (pv 1))) (JE.v (je_b1 cr_len m_len bt_len (jp_var (pv 0)) rfl)) (JE.v (je_var (pv 2))))))))
set_option maxHeartbeats 4000000 in
theorem ok_check_shares {f : Addr} {fd : FuncData} (F : Fun K "check_shares" "check_shares" s_check_shares f fd) (G_is_whole_in : Known P w K mg base "is_whole_in" ["value", "low", "high"] 2 d_is_whole_in) (G_is_name : Known P w K mg base "is_name" ["value"] 1 d_is_name) (G_is_tuple_of : Known P w K mg base "is_tuple_of" ["value", "low", "high"] 1 d_is_tuple_of) {t_MOST_WEIGHT : Tok} (c_MOST_WEIGHT : mg "MOST_WEIGHT" = some (.int (10000000) t_MOST_WEIGHT)) {t_MOST_OWNERS : Tok} (c_MOST_OWNERS : mg "MOST_OWNERS" = some (.int (24) t_MOST_OWNERS)) (E_BadWear : Err K mg "BadWear") : FnOk P w K mg base (L2.CX P w) 3 f fd ["shares"] (spG K mg 1 d_check_shares) := by
  obtain ⟨a_is_whole_in, fd_is_whole_in, F_is_whole_in, m_is_whole_in, k_is_whole_in, b_is_whole_in⟩ := G_is_whole_in
  obtain ⟨a_is_name, fd_is_name, F_is_name, m_is_name, k_is_name, b_is_name⟩ := G_is_name
  obtain ⟨a_is_tuple_of, fd_is_tuple_of, F_is_tuple_of, m_is_tuple_of, k_is_tuple_of, b_is_tuple_of⟩ := G_is_tuple_of
  obtain ⟨A_BadWear, x_BadWear, e_BadWear, ke_BadWear, r1_BadWear, r2_BadWear⟩ := E_BadWear
  refine known F sc_check_shares (fun cdv A outer s H E C hr tk po => ?_)
  have r_BadWear : Raises (cxOf (L2.CX P w) P w K mg base N_check_shares "check_shares" (defScope s_check_shares) f cdv A outer s H E) (.ref A_BadWear) := raises_own r1_BadWear r2_BadWear
  exact (js_cons (js_if (jt_not (jt_tru (JE.p (je_call F_is_tuple_of (hr.mono (by decide)) m_is_tuple_of k_is_tuple_of b_is_tuple_of tk (ja_cons (JE.v (je_var (pv 0))) (ja_cons (JE.v (je_int)) (ja_cons (JE.v (je_gint c_MOST_OWNERS rfl)) (ja_nil)))) rfl)))) (js_one (js_raise rfl tk PySem.F.excBase_ValueError x_BadWear e_BadWear ke_BadWear r_BadWear rfl)) (js_nil))
    (js_cons (js_set (i := 1) sc_check_shares.nd rfl (.inl rfl) (je_lst (ja_nil)))
    (js_one (js_for po rfl (ji_any (JE.v (je_var (pv 0)))) (jg_name (i := 2) sc_check_shares.nd rfl (.inl rfl)) (js_cons (js_if (jt_not (jt_tru (JE.p (je_call F_is_tuple_of (hr.mono (by decide)) m_is_tuple_of k_is_tuple_of b_is_tuple_of tk (ja_cons (JE.v (je_var (pv 2))) (ja_cons (JE.v (je_int)) (ja_cons (JE.v (je_int)) (ja_nil)))) rfl)))) (js_one (js_raise rfl tk PySem.F.excBase_ValueError x_BadWear e_BadWear ke_BadWear r_BadWear rfl)) (js_nil))
    (js_cons (js_asg (JE.v (je_var (pv 2))) (jg_tup rfl (jgs_cons (jg_name (i := 3) sc_check_shares.nd rfl (.inl rfl)) (jgs_cons (jg_name (i := 4) sc_check_shares.nd rfl (.inl rfl)) (jgs_nil)))))
    (js_cons (js_if (jt_not (jt_tru (JE.p (je_call F_is_name (hr.mono (by decide)) m_is_name k_is_name b_is_name tk (ja_cons (JE.v (je_var (pv 3))) (ja_nil)) rfl)))) (js_one (js_raise rfl tk PySem.F.excBase_ValueError x_BadWear e_BadWear ke_BadWear r_BadWear rfl)) (js_nil))
    (js_cons (js_if (jt_cmpP od_inP (JE.v (je_var (pv 3))) (jp_var (pv 1)) (by rfl)) (js_one (js_raise rfl tk PySem.F.excBase_ValueError x_BadWear e_BadWear ke_BadWear r_BadWear rfl)) (js_nil))
    (js_cons (js_if (jt_not (jt_tru (JE.p (je_call F_is_whole_in (hr.mono (by decide)) m_is_whole_in k_is_whole_in b_is_whole_in tk (ja_cons (JE.v (je_var (pv 4))) (ja_cons (JE.v (je_int)) (ja_cons (JE.v (je_gint c_MOST_WEIGHT rfl)) (ja_nil)))) rfl)))) (js_one (js_raise rfl tk PySem.F.excBase_ValueError x_BadWear e_BadWear ke_BadWear r_BadWear rfl)) (js_nil))
    (js_one (js_app (pv 1) (je_var (pv 3)) (fun h => ps_expr (pe_bm PySem.F.plainAttrs_list PySem.F.slot_list_append PySem.F.type_list_append mt_append (pv 1) (pa_cons h pa_nil))))))))))))))
set_option maxHeartbeats 4000000 in
theorem ok_check_cost {f : Addr} {fd : FuncData} (F : Fun K "check_cost" "check_cost" s_check_cost f fd) (G_is_whole_in : Known P w K mg base "is_whole_in" ["value", "low", "high"] 2 d_is_whole_in) {t_MOST_COST : Tok} (c_MOST_COST : mg "MOST_COST" = some (.int (1000000000) t_MOST_COST)) (E_BadWear : Err K mg "BadWear") : FnOk P w K mg base (L2.CX P w) 3 f fd ["cost"] (spG K mg 1 d_check_cost) := by
  obtain ⟨a_is_whole_in, fd_is_whole_in, F_is_whole_in, m_is_whole_in, k_is_whole_in, b_is_whole_in⟩ := G_is_whole_in
  obtain ⟨A_BadWear, x_BadWear, e_BadWear, ke_BadWear, r1_BadWear, r2_BadWear⟩ := E_BadWear
  refine known F sc_check_cost (fun cdv A outer s H E C hr tk po => ?_)
  have r_BadWear : Raises (cxOf (L2.CX P w) P w K mg base N_check_cost "check_cost" (defScope s_check_cost) f cdv A outer s H E) (.ref A_BadWear) := raises_own r1_BadWear r2_BadWear
  exact (js_one (js_if (jt_not (jt_tru (JE.p (je_call F_is_whole_in (hr.mono (by decide)) m_is_whole_in k_is_whole_in b_is_whole_in tk (ja_cons (JE.v (je_var (pv 0))) (ja_cons (JE.v (je_int)) (ja_cons (JE.v (je_gint c_MOST_COST rfl)) (ja_nil)))) rfl)))) (js_one (js_raise rfl tk PySem.F.excBase_ValueError x_BadWear e_BadWear ke_BadWear r_BadWear rfl)) (js_nil)))
set_option maxHeartbeats 4000000 in
theorem ok_dues {f : Addr} {fd : FuncData} (F : Fun K "dues" "dues" s_dues f fd) (m_divmod : mg "divmod" = none) (m_sum : mg "sum" = none) : FnOk P w K mg base (L2.CX P w) 1 f fd ["shares", "cost"] (spG K mg 2 d_dues) := by
  refine known F sc_dues (fun cdv A outer s H E C hr tk po => ?_)
  exact (js_cons (js_set (i := 2) sc_dues.nd rfl (.inr rfl) (je_b1 (cr_sumD rfl) m_sum bt_sum (JE.p (je_lc (own := [("owner", 3), ("weight", 4)]) rfl sc_dues.nd (ji_any (JE.v (je_var (pv 0)))) (blkOk_by (own := [("owner", 3), ("weight", 4)]) (N := N_dues) (sc := defScope s_dues) (by decide +kernel)) (fun _ _ _ _ _ _ => jg_tup rfl (jgs_cons (jg_name (i := 3) sc_dues.nd rfl (.inl rfl)) (jgs_cons (jg_name (i := 4) sc_dues.nd rfl (.inl rfl)) (jgs_nil)))) (fun _ _ _ _ _ _ => jts_nil) (fun _ _ _ _ _ _ => je_var (pv 4)))) rfl))
    (js_one (js_ret (je_lc (own := [("owner", 3), ("weight", 4)]) rfl sc_dues.nd (ji_any (JE.v (je_var (pv 0)))) (blkOk_by (own := [("owner", 3), ("weight", 4)]) (N := N_dues) (sc := defScope s_dues) (by decide +kernel)) (fun _ _ _ _ _ _ => jg_tup rfl (jgs_cons (jg_name (i := 3) sc_dues.nd rfl (.inl rfl)) (jgs_cons (jg_name (i := 4) sc_dues.nd rfl (.inl rfl)) (jgs_nil)))) (fun _ _ _ _ _ _ => jts_nil) (fun _ _ _ _ _ _ => je_bn cr_divmodX m_divmod bt_divmod (ja_cons (JE.v (je_op od_mul (JE.v (je_var (pv 1))) (JE.v (je_var (pv 4))))) (ja_cons (JE.v (je_var (pv 2))) (ja_nil))) rfl)))))
set_option maxHeartbeats 4000000 in
theorem ok_has_weight {f : Addr} {fd : FuncData} (F : Fun K "has_weight" "has_weight" s_has_weight f fd) (m_sum : mg "sum" = none) : FnOk P w K mg base (L2.CX P w) 1 f fd ["shares"] (spG K mg 1 d_has_weight) := by
  refine known F sc_has_weight (fun cdv A outer s H E C hr tk po => ?_)
  exact (js_one (js_ret (je_cmp od_gt (JE.v (je_b1 (cr_sumD rfl) m_sum bt_sum (JE.p (je_lc (own := [("owner", 1), ("weight", 2)]) rfl sc_has_weight.nd (ji_any (JE.v (je_var (pv 0)))) (blkOk_by (own := [("owner", 1), ("weight", 2)]) (N := N_has_weight) (sc := defScope s_has_weight) (by decide +kernel)) (fun _ _ _ _ _ _ => jg_tup rfl (jgs_cons (jg_name (i := 1) sc_has_weight.nd rfl (.inl rfl)) (jgs_cons (jg_name (i := 2) sc_has_weight.nd rfl (.inl rfl)) (jgs_nil)))) (fun _ _ _ _ _ _ => jts_nil) (fun _ _ _ _ _ _ => je_var (pv 2)))) rfl)) (JE.v (je_int)) (nomark _))))
set_option maxHeartbeats 4000000 in
theorem ok_charge {f : Addr} {fd : FuncData} (F : Fun K "charge" "charge" s_charge f fd) (G_dues : Known P w K mg base "dues" ["shares", "cost"] 1 d_dues) (G_has_weight : Known P w K mg base "has_weight" ["shares"] 1 d_has_weight) (G_check_cost : Known P w K mg base "check_cost" ["cost"] 3 d_check_cost) (G_check_shares : Known P w K mg base "check_shares" ["shares"] 3 d_check_shares) (m_enumerate : mg "enumerate" = none) (m_tuple : mg "tuple" = none) (m_sorted : mg "sorted" = none) (m_sum : mg "sum" = none) : FnOk P w K mg base (L2.CX P w) 4 f fd ["shares", "cost"] (spG K mg 2 d_charge) := by
  obtain ⟨a_dues, fd_dues, F_dues, m_dues, k_dues, b_dues⟩ := G_dues
  obtain ⟨a_has_weight, fd_has_weight, F_has_weight, m_has_weight, k_has_weight, b_has_weight⟩ := G_has_weight
  obtain ⟨a_check_cost, fd_check_cost, F_check_cost, m_check_cost, k_check_cost, b_check_cost⟩ := G_check_cost
  obtain ⟨a_check_shares, fd_check_shares, F_check_shares, m_check_shares, k_check_shares, b_check_shares⟩ := G_check_shares
  refine known F sc_charge (fun cdv A outer s H E C hr tk po => ?_)
  exact (js_cons (js_expr (je_call F_check_shares (hr.mono (by decide)) m_check_shares k_check_shares b_check_shares tk (ja_cons (JE.v (je_var (pv 0))) (ja_nil)) rfl))
    (js_cons (js_expr (je_call F_check_cost (hr.mono (by decide)) m_check_cost k_check_cost b_check_cost tk (ja_cons (JE.v (je_var (pv 1))) (ja_nil)) rfl))
    (js_cons (js_if (jt_not (jt_tru (JE.p (je_call F_has_weight (hr.mono (by decide)) m_has_weight k_has_weight b_has_weight tk (ja_cons (JE.v (je_var (pv 0))) (ja_nil)) rfl)))) (js_one (js_ret (je_t1 cr_tuple m_tuple bt_tuple (JE.p (je_lc (own := [("owner", 10), ("weight", 11)]) rfl sc_charge.nd (ji_any (JE.v (je_var (pv 0)))) (blkOk_by (own := [("owner", 10), ("weight", 11)]) (N := N_charge) (sc := defScope s_charge) (by decide +kernel)) (fun _ _ _ _ _ _ => jg_tup rfl (jgs_cons (jg_name (i := 10) sc_charge.nd rfl (.inl rfl)) (jgs_cons (jg_name (i := 11) sc_charge.nd rfl (.inl rfl)) (jgs_nil)))) (fun _ _ _ _ _ _ => jts_nil) (fun _ _ _ _ _ _ => je_tup (ja_cons (JE.v (je_var (pv 10))) (ja_cons (JE.v (je_int)) (ja_nil)))))) rfl))) (js_nil))
    (js_cons (js_set (i := 2) sc_charge.nd rfl (.inl rfl) (je_call F_dues (hr.mono (by decide)) m_dues k_dues b_dues tk (ja_cons (JE.v (je_var (pv 0))) (ja_cons (JE.v (je_var (pv 1))) (ja_nil))) rfl))
    (js_cons (js_set (i := 3) sc_charge.nd rfl (.inr rfl) (je_lc (own := [("whole", 7), ("remainder", 8)]) rfl sc_charge.nd (ji_any (JE.v (je_var (pv 2)))) (blkOk_by (own := [("whole", 7), ("remainder", 8)]) (N := N_charge) (sc := defScope s_charge) (by decide +kernel)) (fun _ _ _ _ _ _ => jg_tup rfl (jgs_cons (jg_name (i := 7) sc_charge.nd rfl (.inl rfl)) (jgs_cons (jg_name (i := 8) sc_charge.nd rfl (.inl rfl)) (jgs_nil)))) (fun _ _ _ _ _ _ => jts_nil) (fun _ _ _ _ _ _ => je_var (pv 7))))
    (js_cons (js_set (i := 4) sc_charge.nd rfl (.inl rfl) (je_op od_sub (JE.v (je_var (pv 1))) (JE.v (je_b1 (cr_sumD rfl) m_sum bt_sum (jp_var (pv 3)) rfl))))
    (js_cons (js_set (i := 5) sc_charge.nd rfl (.inl rfl) (je_b1 (cr_sortedX hr.units) m_sorted bt_sorted (JE.p (je_lc (own := [("index", 9), ("whole", 7), ("remainder", 8)]) rfl sc_charge.nd (ji_enumA m_enumerate (JE.v (je_var (pv 2))) rfl) (blkOk_by (own := [("index", 9), ("whole", 7), ("remainder", 8)]) (N := N_charge) (sc := defScope s_charge) (by decide +kernel)) (fun _ _ _ _ _ _ => jg_tup rfl (jgs_cons (jg_name (i := 9) sc_charge.nd rfl (.inl rfl)) (jgs_cons (jg_tup rfl (jgs_cons (jg_name (i := 7) sc_charge.nd rfl (.inl rfl)) (jgs_cons (jg_name (i := 8) sc_charge.nd rfl (.inl rfl)) (jgs_nil)))) (jgs_nil)))) (fun _ _ _ _ _ _ => jts_nil) (fun _ _ _ _ _ _ => je_tup (ja_cons (JE.v (je_un ud_neg (JE.v (je_var (pv 8))))) (ja_cons (JE.v (je_var (pv 9))) (ja_nil)))))) rfl))
    (js_cons (js_for po rfl (ji_any (JE.v (je_slV (pv 5) (jo_none) (jo_some (JE.v (je_var (pv 4))))))) (jg_name (i := 6) sc_charge.nd rfl (.inl rfl)) (js_one (js_augL (pv 3) (JE.v (je_ixV (pv 6) (JE.v (je_int)) (fun _ _ => rfl))) (JE.v (je_int)) pi_addI)))
    (js_one (js_ret (je_t1 cr_tuple m_tuple bt_tuple (JE.p (je_lc (own := [("index", 9), ("owner", 10), ("weight", 11)]) rfl sc_charge.nd (ji_enumA m_enumerate (JE.v (je_var (pv 0))) rfl) (blkOk_by (own := [("index", 9), ("owner", 10), ("weight", 11)]) (N := N_charge) (sc := defScope s_charge) (by decide +kernel)) (fun _ _ _ _ _ _ => jg_tup rfl (jgs_cons (jg_name (i := 9) sc_charge.nd rfl (.inl rfl)) (jgs_cons (jg_tup rfl (jgs_cons (jg_name (i := 10) sc_charge.nd rfl (.inl rfl)) (jgs_cons (jg_name (i := 11) sc_charge.nd rfl (.inl rfl)) (jgs_nil)))) (jgs_nil)))) (fun _ _ _ _ _ _ => jts_nil) (fun _ _ _ _ _ _ => je_tup (ja_cons (JE.v (je_var (pv 10))) (ja_cons (JE.v (je_ixV (pv 3) (JE.v (je_var (pv 9))) (fun _ _ => rfl))) (ja_nil)))))) rfl)))))))))))
set_option maxHeartbeats 4000000 in
theorem ok_joined_shares {f : Addr} {fd : FuncData} (F : Fun K "joined_shares" "joined_shares" s_joined_shares f fd) (G_check_shares : Known P w K mg base "check_shares" ["shares"] 3 d_check_shares) (m_sorted : mg "sorted" = none) (m_tuple : mg "tuple" = none) : FnOk P w K mg base (L2.CX P w) 4 f fd ["first", "second"] (spG K mg 2 d_joined_shares) := by
  obtain ⟨a_check_shares, fd_check_shares, F_check_shares, m_check_shares, k_check_shares, b_check_shares⟩ := G_check_shares
  refine known F sc_joined_shares (fun cdv A outer s H E C hr tk po => ?_)
  exact (js_cons (js_expr (je_call F_check_shares (hr.mono (by decide)) m_check_shares k_check_shares b_check_shares tk (ja_cons (JE.v (je_var (pv 0))) (ja_nil)) rfl))
    (js_cons (js_expr (je_call F_check_shares (hr.mono (by decide)) m_check_shares k_check_shares b_check_shares tk (ja_cons (JE.v (je_var (pv 1))) (ja_nil)) rfl))
    (js_cons (js_set (i := 2) sc_joined_shares.nd rfl (.inr rfl) (je_dic0))
    (js_cons (js_for po rfl (ji_any (JE.v (je_op od_add (JE.v (je_var (pv 0))) (JE.v (je_var (pv 1)))))) (jg_tup rfl (jgs_cons (jg_name (i := 4) sc_joined_shares.nd rfl (.inl rfl)) (jgs_cons (jg_name (i := 5) sc_joined_shares.nd rfl (.inl rfl)) (jgs_nil)))) (js_one (js_setD (hu_of hr) (JE.v (je_op od_add (JE.v (je_dget (hu_of hr) (pv 2) (JE.v (je_var (pv 4))) (JE.v (je_int)) ⟨rfl, rfl, rfl, rfl⟩)) (JE.v (je_var (pv 5))))) (pv 2) (JE.v (je_var (pv 4))))))
    (js_cons (js_set (i := 3) sc_joined_shares.nd rfl (.inl rfl) (je_t1 cr_tuple m_tuple bt_tuple (JE.p (je_lc (own := [("owner", 4)]) rfl sc_joined_shares.nd (ji_any (JE.v (je_b1 (cr_sortedD rfl) m_sorted bt_sorted (jp_var (pv 2)) rfl))) (blkOk_by (own := [("owner", 4)]) (N := N_joined_shares) (sc := defScope s_joined_shares) (by decide +kernel)) (fun _ _ _ _ _ _ => jg_name (i := 4) sc_joined_shares.nd rfl (.inl rfl)) (fun _ _ _ _ _ _ => jts_nil) (fun _ _ _ _ _ _ => je_tup (ja_cons (JE.v (je_var (pv 4))) (ja_cons (JE.v (je_dix (hu_of hr) (pv 2) (JE.v (je_var (pv 4))) (fun _ _ => rfl))) (ja_nil)))))) rfl))
    (js_cons (js_expr (je_call F_check_shares (hr.mono (by decide)) m_check_shares k_check_shares b_check_shares tk (ja_cons (JE.v (je_var (pv 3))) (ja_nil)) rfl))
    (js_one (js_ret (je_var (pv 3))))))))))
set_option maxHeartbeats 4000000 in
theorem ok_check_uses {f : Addr} {fd : FuncData} (F : Fun K "check_uses" "check_uses" s_check_uses f fd) (G_is_whole_in : Known P w K mg base "is_whole_in" ["value", "low", "high"] 2 d_is_whole_in) (G_is_name : Known P w K mg base "is_name" ["value"] 1 d_is_name) (G_is_tuple_of : Known P w K mg base "is_tuple_of" ["value", "low", "high"] 1 d_is_tuple_of) {t_MOST_NUMBER : Tok} (c_MOST_NUMBER : mg "MOST_NUMBER" = some (.int (100000) t_MOST_NUMBER)) {t_MOST_USES : Tok} (c_MOST_USES : mg "MOST_USES" = some (.int (24) t_MOST_USES)) (E_BadWear : Err K mg "BadWear") : FnOk P w K mg base (L2.CX P w) 3 f fd ["uses"] (spG K mg 1 d_check_uses) := by
  obtain ⟨a_is_whole_in, fd_is_whole_in, F_is_whole_in, m_is_whole_in, k_is_whole_in, b_is_whole_in⟩ := G_is_whole_in
  obtain ⟨a_is_name, fd_is_name, F_is_name, m_is_name, k_is_name, b_is_name⟩ := G_is_name
  obtain ⟨a_is_tuple_of, fd_is_tuple_of, F_is_tuple_of, m_is_tuple_of, k_is_tuple_of, b_is_tuple_of⟩ := G_is_tuple_of
  obtain ⟨A_BadWear, x_BadWear, e_BadWear, ke_BadWear, r1_BadWear, r2_BadWear⟩ := E_BadWear
  refine known F sc_check_uses (fun cdv A outer s H E C hr tk po => ?_)
  have r_BadWear : Raises (cxOf (L2.CX P w) P w K mg base N_check_uses "check_uses" (defScope s_check_uses) f cdv A outer s H E) (.ref A_BadWear) := raises_own r1_BadWear r2_BadWear
  exact (js_cons (js_if (jt_not (jt_tru (JE.p (je_call F_is_tuple_of (hr.mono (by decide)) m_is_tuple_of k_is_tuple_of b_is_tuple_of tk (ja_cons (JE.v (je_var (pv 0))) (ja_cons (JE.v (je_int)) (ja_cons (JE.v (je_gint c_MOST_USES rfl)) (ja_nil)))) rfl)))) (js_one (js_raise rfl tk PySem.F.excBase_ValueError x_BadWear e_BadWear ke_BadWear r_BadWear rfl)) (js_nil))
    (js_one (js_for po rfl (ji_any (JE.v (je_var (pv 0)))) (jg_name (i := 1) sc_check_uses.nd rfl (.inl rfl)) (js_cons (js_if (jt_not (jt_tru (JE.p (je_call F_is_tuple_of (hr.mono (by decide)) m_is_tuple_of k_is_tuple_of b_is_tuple_of tk (ja_cons (JE.v (je_var (pv 1))) (ja_cons (JE.v (je_int)) (ja_cons (JE.v (je_int)) (ja_nil)))) rfl)))) (js_one (js_raise rfl tk PySem.F.excBase_ValueError x_BadWear e_BadWear ke_BadWear r_BadWear rfl)) (js_nil))
    (js_cons (js_asg (JE.v (je_var (pv 1))) (jg_tup rfl (jgs_cons (jg_name (i := 2) sc_check_uses.nd rfl (.inl rfl)) (jgs_cons (jg_name (i := 3) sc_check_uses.nd rfl (.inl rfl)) (jgs_nil)))))
    (js_cons (js_if (jt_not (jt_tru (JE.p (je_call F_is_name (hr.mono (by decide)) m_is_name k_is_name b_is_name tk (ja_cons (JE.v (je_var (pv 2))) (ja_nil)) rfl)))) (js_one (js_raise rfl tk PySem.F.excBase_ValueError x_BadWear e_BadWear ke_BadWear r_BadWear rfl)) (js_nil))
    (js_one (js_if (jt_not (jt_tru (JE.p (je_call F_is_whole_in (hr.mono (by decide)) m_is_whole_in k_is_whole_in b_is_whole_in tk (ja_cons (JE.v (je_var (pv 3))) (ja_cons (JE.v (je_int)) (ja_cons (JE.v (je_gint c_MOST_NUMBER rfl)) (ja_nil)))) rfl)))) (js_one (js_raise rfl tk PySem.F.excBase_ValueError x_BadWear e_BadWear ke_BadWear r_BadWear rfl)) (js_nil)))))))))
set_option maxHeartbeats 4000000 in
theorem ok_wear_by_owner {f : Addr} {fd : FuncData} (F : Fun K "wear_by_owner" "wear_by_owner" s_wear_by_owner f fd) (G_check_uses : Known P w K mg base "check_uses" ["uses"] 3 d_check_uses) (m_sorted : mg "sorted" = none) (m_tuple : mg "tuple" = none) : FnOk P w K mg base (L2.CX P w) 4 f fd ["uses"] (spG K mg 1 d_wear_by_owner) := by
  obtain ⟨a_check_uses, fd_check_uses, F_check_uses, m_check_uses, k_check_uses, b_check_uses⟩ := G_check_uses
  refine known F sc_wear_by_owner (fun cdv A outer s H E C hr tk po => ?_)
  exact (js_cons (js_expr (je_call F_check_uses (hr.mono (by decide)) m_check_uses k_check_uses b_check_uses tk (ja_cons (JE.v (je_var (pv 0))) (ja_nil)) rfl))
    (js_cons (js_set (i := 1) sc_wear_by_owner.nd rfl (.inr rfl) (je_dic0))
    (js_cons (js_for po rfl (ji_any (JE.v (je_var (pv 0)))) (jg_tup rfl (jgs_cons (jg_name (i := 2) sc_wear_by_owner.nd rfl (.inl rfl)) (jgs_cons (jg_name (i := 3) sc_wear_by_owner.nd rfl (.inl rfl)) (jgs_nil)))) (js_one (js_setD (hu_of hr) (JE.v (je_op od_add (JE.v (je_dget (hu_of hr) (pv 1) (JE.v (je_var (pv 2))) (JE.v (je_int)) ⟨rfl, rfl, rfl, rfl⟩)) (JE.v (je_var (pv 3))))) (pv 1) (JE.v (je_var (pv 2))))))
    (js_one (js_ret (je_t1 cr_tuple m_tuple bt_tuple (JE.p (je_lc (own := [("owner", 2)]) rfl sc_wear_by_owner.nd (ji_any (JE.v (je_b1 (cr_sortedD rfl) m_sorted bt_sorted (jp_var (pv 1)) rfl))) (blkOk_by (own := [("owner", 2)]) (N := N_wear_by_owner) (sc := defScope s_wear_by_owner) (by decide +kernel)) (fun _ _ _ _ _ _ => jg_name (i := 2) sc_wear_by_owner.nd rfl (.inl rfl)) (fun _ _ _ _ _ _ => jts_nil) (fun _ _ _ _ _ _ => je_tup (ja_cons (JE.v (je_var (pv 2))) (ja_cons (JE.v (je_dix (hu_of hr) (pv 1) (JE.v (je_var (pv 2))) (fun _ _ => rfl))) (ja_nil)))))) rfl))))))
set_option maxHeartbeats 4000000 in
theorem ok__law_cell {f : Addr} {fd : FuncData} (F : Fun K "_law_cell" "_law_cell" s__law_cell f fd) (m_len : mg "len" = none) (m_int : mg "int" = none) : FnOk P w K mg base (L2.CX P w) 1 f fd ["script", "k"] (spG K mg 2 d__law_cell) := by
  refine known F sc__law_cell (fun cdv A outer s H E C hr tk po => ?_)
  exact (js_cons (js_if (jt_cmp od_lt (JE.v (je_var (pv 1))) (JE.v (je_b1 cr_len m_len bt_len (jp_var (pv 0)) rfl)) (nomark _)) (js_one (js_ret (je_t1 cr_int m_int bt_int (JE.p (je_ixV (pv 0) (JE.v (je_var (pv 1))) (fun _ _ => rfl))) rfl))) (js_nil))
    (js_one (js_ret (je_int))))
set_option maxHeartbeats 4000000 in
theorem ok__law_row {f : Addr} {fd : FuncData} (F : Fun K "_law_row" "_law_row" s__law_row f fd) (m_range : mg "range" = none) (m_int : mg "int" = none) (m_len : mg "len" = none) (m_abs : mg "abs" = none) : FnOk P w K mg base (L2.CX P w) 1 f fd ["script", "place", "count", "limit"] (spG K mg 4 d__law_row) := by
  refine known F sc__law_row (fun cdv A outer s H E C hr tk po => ?_)
  exact (js_cons (js_set (i := 4) sc__law_row.nd rfl (.inl rfl) (je_int))
    (js_cons (js_if (jt_cmp od_gt (JE.v (je_b1 cr_len m_len bt_len (jp_var (pv 0)) rfl)) (JE.v (je_int)) (nomark _)) (js_one (js_set (i := 4) sc__law_row.nd rfl (.inl rfl) (je_b1 cr_abs m_abs bt_abs (JE.p (je_t1 cr_int m_int bt_int (JE.p (je_ixV (pv 0) (JE.v (je_op od_mod (JE.v (je_t1 cr_int m_int bt_int (jp_var (pv 1)) rfl)) (JE.v (je_b1 cr_len m_len bt_len (jp_var (pv 0)) rfl)))) (fun _ _ => rfl))) rfl)) rfl))) (js_nil))
    (js_cons (js_set (i := 5) sc__law_row.nd rfl (.inl rfl) (je_int))
    (js_cons (js_if (jt_cmp od_ge (JE.v (je_var (pv 4))) (JE.v (je_op od_pow (JE.v (je_int)) (JE.v (je_int)))) (nomark _)) (js_one (js_set (i := 5) sc__law_row.nd rfl (.inl rfl) (je_var (pv 4)))) (js_nil))
    (js_cons (js_set (i := 6) sc__law_row.nd rfl (.inl rfl) (je_lst (ja_nil)))
    (js_cons (js_for po rfl (ji_rg1 m_range (JE.v (je_var (pv 2))) rfl) (jg_name (i := 7) sc__law_row.nd rfl (.inl rfl)) (js_one (js_if (jt_cmp od_gt (JE.v (je_var (pv 5))) (JE.v (je_int)) (nomark _)) (js_cons (js_app (pv 6) (je_op od_mod (JE.v (je_t1 cr_int m_int bt_int (jp_var (pv 5)) rfl)) (JE.v (je_var (pv 3)))) (fun h => ps_expr (pe_bm PySem.F.plainAttrs_list PySem.F.slot_list_append PySem.F.type_list_append mt_append (pv 6) (pa_cons h pa_nil))))
    (js_one (js_set (i := 5) sc__law_row.nd rfl (.inl rfl) (je_op od_fdiv (JE.v (je_var (pv 5))) (JE.v (je_var (pv 3))))))) (js_cons (js_set (i := 8) sc__law_row.nd rfl (.inl rfl) (je_op od_mod (JE.v (je_t1 cr_int m_int bt_int (JE.p (je_op od_add (JE.v (je_op od_add (JE.v (je_op od_add (JE.v (je_op od_mul (JE.v (je_var (pv 4))) (JE.v (je_int)))) (JE.v (je_op od_mul (JE.v (je_var (pv 7))) (JE.v (je_int)))))) (JE.v (je_op od_mul (JE.v (je_var (pv 1))) (JE.v (je_int)))))) (JE.v (je_int)))) rfl)) (JE.v (je_int))))
    (js_cons (js_set (i := 9) sc__law_row.nd rfl (.inl rfl) (je_op od_mod (JE.v (je_t1 cr_int m_int bt_int (JE.p (je_op od_add (JE.v (je_op od_add (JE.v (je_op od_mul (JE.v (je_var (pv 8))) (JE.v (je_var (pv 8))))) (JE.v (je_op od_mul (JE.v (je_var (pv 4))) (JE.v (je_int)))))) (JE.v (je_op od_mul (JE.v (je_var (pv 7))) (JE.v (je_int)))))) rfl)) (JE.v (je_int))))
    (js_cons (js_set (i := 10) sc__law_row.nd rfl (.inl rfl) (je_op od_mod (JE.v (je_t1 cr_int m_int bt_int (JE.p (je_op od_add (JE.v (je_op od_add (JE.v (je_op od_mul (JE.v (je_var (pv 9))) (JE.v (je_var (pv 9))))) (JE.v (je_op od_mul (JE.v (je_var (pv 8))) (JE.v (je_int)))))) (JE.v (je_int)))) rfl)) (JE.v (je_int))))
    (js_one (js_app (pv 6) (je_op od_mod (JE.v (je_t1 cr_int m_int bt_int (JE.p (je_op od_fdiv (JE.v (je_var (pv 10))) (JE.v (je_int)))) rfl)) (JE.v (je_var (pv 3)))) (fun h => ps_expr (pe_bm PySem.F.plainAttrs_list PySem.F.slot_list_append PySem.F.type_list_append mt_append (pv 6) (pa_cons h pa_nil)))))))))))
    (js_one (js_ret (je_var (pv 6))))))))))
set_option maxHeartbeats 4000000 in
theorem ok__law_same_single {f : Addr} {fd : FuncData} (F : Fun K "_law_same_single" "_law_same_single" s__law_same_single f fd) (m_isinstance : mg "isinstance" = none) (m_str : mg "str" = none) (m_int : mg "int" = none) (m_bool : mg "bool" = none) : FnOk P w K mg base (L2.CX P w) 1 f fd ["actual", "due"] (spG K mg 2 d__law_same_single) := by
  refine known F sc__law_same_single (fun cdv A outer s H E C hr tk po => ?_)
  exact (js_cons (js_if (jt_cmp od_is (JE.v (je_var (pv 1))) (JE.v (je_non)) (nomark _)) (js_one (js_ret (je_cmp od_is (JE.v (je_var (pv 0))) (JE.v (je_non)) (nomark _)))) (js_nil))
    (js_cons (js_if (jt_tru (JE.p (je_isi kit_bool bt_bool m_isinstance m_bool (jp_var (pv 1)) rfl rfl))) (js_one (js_ret (je_and (je_isi kit_bool bt_bool m_isinstance m_bool (jp_var (pv 0)) rfl rfl) (je_one (je_cmp (od_eq hr.units) (JE.v (je_var (pv 0))) (JE.v (je_var (pv 1))) (nomark _)))))) (js_nil))
    (js_cons (js_if (jt_tru (JE.p (je_isi kit_int bt_int m_isinstance m_int (jp_var (pv 1)) rfl rfl))) (js_one (js_ret (je_and (je_isi kit_int bt_int m_isinstance m_int (jp_var (pv 0)) rfl rfl) (je_and (je_not (je_isi kit_bool bt_bool m_isinstance m_bool (jp_var (pv 0)) rfl rfl)) (je_one (je_cmp (od_eq hr.units) (JE.v (je_var (pv 0))) (JE.v (je_var (pv 1))) (nomark _))))))) (js_nil))
    (js_one (js_ret (je_and (je_isi kit_str bt_str m_isinstance m_str (jp_var (pv 0)) rfl rfl) (je_one (je_cmp (od_eq hr.units) (JE.v (je_var (pv 0))) (JE.v (je_var (pv 1))) (nomark _)))))))))
set_option maxHeartbeats 4000000 in
theorem ok__law_same {f : Addr} {fd : FuncData} (F : Fun K "_law_same" "_law_same" s__law_same f fd) (G__law_same_single : Known P w K mg base "_law_same_single" ["actual", "due"] 1 d__law_same_single) (m_range : mg "range" = none) (m_isinstance : mg "isinstance" = none) (m_tuple : mg "tuple" = none) (m_len : mg "len" = none) : FnOk P w K mg base (L2.CX P w) 2 f fd ["actual", "due"] (spG K mg 2 d__law_same) := by
  obtain ⟨a__law_same_single, fd__law_same_single, F__law_same_single, m__law_same_single, k__law_same_single, b__law_same_single⟩ := G__law_same_single
  refine known F sc__law_same (fun cdv A outer s H E C hr tk po => ?_)
  exact (js_cons (js_set (i := 2) sc__law_same.nd rfl (.inl rfl) (je_lst (ja_cons (JE.v (je_tup (ja_cons (JE.v (je_var (pv 0))) (ja_cons (JE.v (je_var (pv 1))) (ja_nil))))) (ja_nil))))
    (js_cons (js_for po rfl (ji_rg1 m_range (JE.v (je_int)) rfl) (jg_name (i := 3) sc__law_same.nd rfl (.inl rfl)) (js_cons (js_if (jt_cmp (od_eq hr.units) (JE.v (je_b1 cr_len m_len bt_len (jp_var (pv 2)) rfl)) (JE.v (je_int)) (nomark _)) (js_one (js_ret (je_bl))) (js_nil))
    (js_cons (js_asg (JE.v (je_pop (pe_bm0 PySem.F.plainAttrs_list PySem.F.slot_list_pop PySem.F.type_list_pop mt_pop (pv 2)))) (jg_tup rfl (jgs_cons (jg_name (i := 4) sc__law_same.nd rfl (.inl rfl)) (jgs_cons (jg_name (i := 5) sc__law_same.nd rfl (.inl rfl)) (jgs_nil)))))
    (js_one (js_if (jt_tru (JE.p (je_isi kit_tuple bt_tuple m_isinstance m_tuple (jp_var (pv 5)) rfl rfl))) (js_cons (js_if (JW.t (jw_or (jt_not (jt_tru (JE.p (je_isi kit_tuple bt_tuple m_isinstance m_tuple (jp_var (pv 4)) rfl rfl)))) (jw_or1 (jt_cmp (od_ne hr.units) (JE.v (je_b1 cr_len m_len bt_len (jp_var (pv 4)) rfl)) (JE.v (je_b1 cr_len m_len bt_len (jp_var (pv 5)) rfl)) (nomark _))))) (js_one (js_ret (je_bl))) (js_nil))
    (js_one (js_for po rfl (ji_rg1 m_range (JE.v (je_b1 cr_len m_len bt_len (jp_var (pv 5)) rfl)) rfl) (jg_name (i := 6) sc__law_same.nd rfl (.inl rfl)) (js_one (js_app (pv 2) (je_tup (ja_cons (JE.v (je_ixV (pv 4) (JE.v (je_var (pv 6))) (fun _ _ => rfl))) (ja_cons (JE.v (je_ixV (pv 5) (JE.v (je_var (pv 6))) (fun _ _ => rfl))) (ja_nil)))) (fun h => ps_expr (pe_bm PySem.F.plainAttrs_list PySem.F.slot_list_append PySem.F.type_list_append mt_append (pv 2) (pa_cons h pa_nil)))))))) (js_one (js_if (jt_not (jt_tru (JE.p (je_call F__law_same_single (hr.mono (by decide)) m__law_same_single k__law_same_single b__law_same_single tk (ja_cons (JE.v (je_var (pv 4))) (ja_cons (JE.v (je_var (pv 5))) (ja_nil))) rfl)))) (js_one (js_ret (je_bl))) (js_nil))))))))
    (js_one (js_ret (je_bl)))))
set_option maxHeartbeats 4000000 in
theorem ok__law_names {f : Addr} {fd : FuncData} (F : Fun K "_law_names" "_law_names" s__law_names f fd) (G__law_row : Known P w K mg base "_law_row" ["script", "place", "count", "limit"] 1 d__law_row) (m_range : mg "range" = none) (m_int : mg "int" = none) : FnOk P w K mg base (L2.CX P w) 2 f fd ["script", "place", "count"] (spG K mg 3 d__law_names) := by
  obtain ⟨a__law_row, fd__law_row, F__law_row, m__law_row, k__law_row, b__law_row⟩ := G__law_row
  refine known F sc__law_names (fun cdv A outer s H E C hr tk po => ?_)
  exact (js_cons (js_set (i := 3) sc__law_names.nd rfl (.inl rfl) (je_str))
    (js_cons (js_set (i := 4) sc__law_names.nd rfl (.inr rfl) (je_str))
    (js_cons (js_set (i := 5) sc__law_names.nd rfl (.inl rfl) (je_call F__law_row (hr.mono (by decide)) m__law_row k__law_row b__law_row tk (ja_cons (JE.v (je_var (pv 0))) (ja_cons (JE.v (je_var (pv 1))) (ja_cons (JE.v (je_int)) (ja_cons (JE.v (je_int)) (ja_nil))))) rfl))
    (js_cons (js_set (i := 6) sc__law_names.nd rfl (.inl rfl) (je_op od_mod (JE.v (je_t1 cr_int m_int bt_int (JE.p (je_ixV (pv 5) (JE.v (je_int)) (fun _ _ => rfl))) rfl)) (JE.v (je_int))))
    (js_cons (js_set (i := 7) sc__law_names.nd rfl (.inl rfl) (je_op od_mod (JE.v (je_t1 cr_int m_int bt_int (JE.p (je_ixV (pv 5) (JE.v (je_int)) (fun _ _ => rfl))) rfl)) (JE.v (je_ix ix_d (JE.v (je_lst (ja_cons (JE.v (je_int)) (ja_cons (JE.v (je_int)) (ja_cons (JE.v (je_int)) (ja_nil)))))) (JE.v (je_var (pv 6))) (fun _ _ => rfl)))))
    (js_cons (js_set (i := 8) sc__law_names.nd rfl (.inl rfl) (je_ix ix_d (JE.v (je_lst (ja_cons (JE.v (je_int)) (ja_cons (JE.v (je_int)) (ja_cons (JE.v (je_int)) (ja_cons (JE.v (je_int)) (ja_cons (JE.v (je_int)) (ja_cons (JE.v (je_int)) (ja_cons (JE.v (je_int)) (ja_cons (JE.v (je_int)) (ja_nil))))))))))) (JE.v (je_op od_mod (JE.v (je_t1 cr_int m_int bt_int (JE.p (je_ixV (pv 5) (JE.v (je_int)) (fun _ _ => rfl))) rfl)) (JE.v (je_int)))) (fun _ _ => rfl)))
    (js_cons (js_set (i := 9) sc__law_names.nd rfl (.inl rfl) (je_m1 PySem.F.slot_str_join PySem.F.type_str_join mr_join (JE.v (je_str)) (JE.p (je_lc (own := [("draw", 15)]) rfl sc__law_names.nd (ji_any (JE.v (je_slV (pv 5) (jo_some (JE.v (je_int))) (jo_some (JE.v (je_op od_add (JE.v (je_int)) (JE.v (je_op od_mod (JE.v (je_t1 cr_int m_int bt_int (JE.p (je_ixV (pv 5) (JE.v (je_int)) (fun _ _ => rfl))) rfl)) (JE.v (je_int)))))))))) (blkOk_by (own := [("draw", 15)]) (N := N__law_names) (sc := defScope s__law_names) (by decide +kernel)) (fun _ _ _ _ _ _ => jg_name (i := 15) sc__law_names.nd rfl (.inl rfl)) (fun _ _ _ _ _ _ => jts_nil) (fun _ _ _ _ _ _ => je_ixV (pv 4) (JE.v (je_op od_mod (JE.v (je_t1 cr_int m_int bt_int (jp_var (pv 15)) rfl)) (JE.v (je_int)))) (fun _ _ => rfl))))))
    (js_cons (js_set (i := 10) sc__law_names.nd rfl (.inl rfl) (je_lst (ja_nil)))
    (js_cons (js_for po rfl (ji_rg1 m_range (JE.v (je_var (pv 2))) rfl) (jg_name (i := 11) sc__law_names.nd rfl (.inl rfl)) (js_cons (js_set (i := 12) sc__law_names.nd rfl (.inl rfl) (je_op od_mod (JE.v (je_t1 cr_int m_int bt_int (JE.p (je_op od_add (JE.v (je_var (pv 7))) (JE.v (je_op od_mul (JE.v (je_var (pv 11))) (JE.v (je_var (pv 8))))))) rfl)) (JE.v (je_int))))
    (js_cons (js_set (i := 13) sc__law_names.nd rfl (.inl rfl) (je_ixV (pv 3) (JE.v (je_op od_fdiv (JE.v (je_var (pv 12))) (JE.v (je_int)))) (fun _ _ => rfl)))
    (js_cons (js_set (i := 14) sc__law_names.nd rfl (.inl rfl) (je_ixV (pv 3) (JE.v (je_op od_mod (JE.v (je_t1 cr_int m_int bt_int (jp_var (pv 12)) rfl)) (JE.v (je_int)))) (fun _ _ => rfl)))
    (js_one (js_if (jt_cmp (od_eq hr.units) (JE.v (je_var (pv 6))) (JE.v (je_int)) (nomark _)) (js_one (js_app (pv 10) (je_op od_add (JE.v (je_op od_add (JE.v (je_var (pv 13))) (JE.v (je_var (pv 14))))) (JE.v (je_slV (pv 9) (jo_none) (jo_some (JE.v (je_op od_mod (JE.v (je_t1 cr_int m_int bt_int (JE.p (je_op od_add (JE.v (je_var (pv 11))) (JE.v (je_ixV (pv 5) (JE.v (je_int)) (fun _ _ => rfl))))) rfl)) (JE.v (je_int)))))))) (fun h => ps_expr (pe_bm PySem.F.plainAttrs_list PySem.F.slot_list_append PySem.F.type_list_append mt_append (pv 10) (pa_cons h pa_nil))))) (js_one (js_if (jt_cmp (od_eq hr.units) (JE.v (je_var (pv 6))) (JE.v (je_int)) (nomark _)) (js_one (js_app (pv 10) (je_op od_add (JE.v (je_op od_add (JE.v (je_op od_add (JE.v (je_str)) (JE.v (je_var (pv 9))))) (JE.v (je_var (pv 13))))) (JE.v (je_var (pv 14)))) (fun h => ps_expr (pe_bm PySem.F.plainAttrs_list PySem.F.slot_list_append PySem.F.type_list_append mt_append (pv 10) (pa_cons h pa_nil))))) (js_one (js_if (jt_cmp od_lt (JE.v (je_var (pv 12))) (JE.v (je_int)) (nomark _)) (js_one (js_app (pv 10) (je_var (pv 14)) (fun h => ps_expr (pe_bm PySem.F.plainAttrs_list PySem.F.slot_list_append PySem.F.type_list_append mt_append (pv 10) (pa_cons h pa_nil))))) (js_one (js_app (pv 10) (je_op od_add (JE.v (je_var (pv 14))) (JE.v (je_var (pv 13)))) (fun h => ps_expr (pe_bm PySem.F.plainAttrs_list PySem.F.slot_list_append PySem.F.type_list_append mt_append (pv 10) (pa_cons h pa_nil)))))))))))))))
    (js_one (js_ret (je_var (pv 10)))))))))))))
set_option maxHeartbeats 4000000 in
theorem ok__law_order {f : Addr} {fd : FuncData} (F : Fun K "_law_order" "_law_order" s__law_order f fd) (m_tuple : mg "tuple" = none) (m_len : mg "len" = none) (m_range : mg "range" = none) (m_int : mg "int" = none) (m_list : mg "list" = none) : FnOk P w K mg base (L2.CX P w) 1 f fd ["draws"] (spG K mg 1 d__law_order) := by
  refine known F sc__law_order (fun cdv A outer s H E C hr tk po => ?_)
  exact (js_cons (js_set (i := 1) sc__law_order.nd rfl (.inl rfl) (je_listRg rfl m_list m_range (JE.v (je_b1 cr_len m_len bt_len (jp_var (pv 0)) rfl)) rfl rfl))
    (js_cons (js_for po rfl (ji_rg1 m_range (JE.v (je_b1 cr_len m_len bt_len (jp_var (pv 0)) rfl)) rfl) (jg_name (i := 2) sc__law_order.nd rfl (.inl rfl)) (js_cons (js_set (i := 3) sc__law_order.nd rfl (.inl rfl) (je_op od_mod (JE.v (je_t1 cr_int m_int bt_int (JE.p (je_ixV (pv 0) (JE.v (je_var (pv 2))) (fun _ _ => rfl))) rfl)) (JE.v (je_op od_add (JE.v (je_var (pv 2))) (JE.v (je_int))))))
    (js_cons (js_set (i := 4) sc__law_order.nd rfl (.inl rfl) (je_ixV (pv 1) (JE.v (je_var (pv 2))) (fun _ _ => rfl)))
    (js_cons (js_setL (JE.v (je_ixV (pv 1) (JE.v (je_var (pv 3))) (fun _ _ => rfl))) (pv 1) (JE.v (je_var (pv 2))) (ps_asg (JE.v (je_ixV (pv 1) (JE.v (je_var (pv 3))) (fun _ _ => rfl))) (pg_sub (pv 1) (JE.v (je_var (pv 2))) set_list)))
    (js_one (js_setL (JE.v (je_var (pv 4))) (pv 1) (JE.v (je_var (pv 3))) (ps_asg (JE.v (je_var (pv 4))) (pg_sub (pv 1) (JE.v (je_var (pv 3))) set_list))))))))
    (js_one (js_ret (je_t1 cr_tuple m_tuple bt_tuple (jp_var (pv 1)) rfl)))))
set_option maxHeartbeats 4000000 in
theorem ok__law_sums {f : Addr} {fd : FuncData} (F : Fun K "_law_sums" "_law_sums" s__law_sums f fd) (m_sorted : mg "sorted" = none) (m_tuple : mg "tuple" = none) : FnOk P w K mg base (L2.CX P w) 1 f fd ["pairs"] (spG K mg 1 d__law_sums) := by
  refine known F sc__law_sums (fun cdv A outer s H E C hr tk po => ?_)
  exact (js_cons (js_set (i := 1) sc__law_sums.nd rfl (.inr rfl) (je_dic0))
    (js_cons (js_for po rfl (ji_any (JE.v (je_var (pv 0)))) (jg_tup rfl (jgs_cons (jg_name (i := 2) sc__law_sums.nd rfl (.inl rfl)) (jgs_cons (jg_name (i := 3) sc__law_sums.nd rfl (.inl rfl)) (jgs_nil)))) (js_one (js_setD (hu_of hr) (JE.v (je_op od_add (JE.v (je_dget (hu_of hr) (pv 1) (JE.v (je_var (pv 2))) (JE.v (je_int)) ⟨rfl, rfl, rfl, rfl⟩)) (JE.v (je_var (pv 3))))) (pv 1) (JE.v (je_var (pv 2))))))
    (js_one (js_ret (je_t1 cr_tuple m_tuple bt_tuple (JE.p (je_lc (own := [("owner", 2)]) rfl sc__law_sums.nd (ji_any (JE.v (je_b1 (cr_sortedD rfl) m_sorted bt_sorted (jp_var (pv 1)) rfl))) (blkOk_by (own := [("owner", 2)]) (N := N__law_sums) (sc := defScope s__law_sums) (by decide +kernel)) (fun _ _ _ _ _ _ => jg_name (i := 2) sc__law_sums.nd rfl (.inl rfl)) (fun _ _ _ _ _ _ => jts_nil) (fun _ _ _ _ _ _ => je_tup (ja_cons (JE.v (je_var (pv 2))) (ja_cons (JE.v (je_dix (hu_of hr) (pv 1) (JE.v (je_var (pv 2))) (fun _ _ => rfl))) (ja_nil)))))) rfl)))))
set_option maxHeartbeats 4000000 in
theorem ok__law_due {f : Addr} {fd : FuncData} (F : Fun K "_law_due" "_law_due" s__law_due f fd) (m_tuple : mg "tuple" = none) (m_len : mg "len" = none) (m_range : mg "range" = none) (m_int : mg "int" = none) (m_sum : mg "sum" = none) : FnOk P w K mg base (L2.CX P w) 1 f fd ["shares", "cost"] (spG K mg 2 d__law_due) := by
  refine known F sc__law_due (fun cdv A outer s H E C hr tk po => ?_)
  exact (js_cons (js_set (i := 2) sc__law_due.nd rfl (.inr rfl) (je_b1 (cr_sumD rfl) m_sum bt_sum (JE.p (je_lc (own := [("share", 9)]) rfl sc__law_due.nd (ji_any (JE.v (je_var (pv 0)))) (blkOk_by (own := [("share", 9)]) (N := N__law_due) (sc := defScope s__law_due) (by decide +kernel)) (fun _ _ _ _ _ _ => jg_name (i := 9) sc__law_due.nd rfl (.inl rfl)) (fun _ _ _ _ _ _ => jts_nil) (fun _ _ _ _ _ _ => je_ixV (pv 9) (JE.v (je_int)) (fun _ _ => rfl)))) rfl))
    (js_cons (js_if (jt_cmp (od_eq hr.units) (JE.v (je_var (pv 2))) (JE.v (je_int)) (nomark _)) (js_one (js_ret (je_t1 cr_tuple m_tuple bt_tuple (JE.p (je_lc (own := [("share", 9)]) rfl sc__law_due.nd (ji_any (JE.v (je_var (pv 0)))) (blkOk_by (own := [("share", 9)]) (N := N__law_due) (sc := defScope s__law_due) (by decide +kernel)) (fun _ _ _ _ _ _ => jg_name (i := 9) sc__law_due.nd rfl (.inl rfl)) (fun _ _ _ _ _ _ => jts_nil) (fun _ _ _ _ _ _ => je_tup (ja_cons (JE.v (je_ixV (pv 9) (JE.v (je_int)) (fun _ _ => rfl))) (ja_cons (JE.v (je_int)) (ja_nil)))))) rfl))) (js_nil))
    (js_cons (js_set (i := 3) sc__law_due.nd rfl (.inr rfl) (je_lc (own := [("share", 9)]) rfl sc__law_due.nd (ji_any (JE.v (je_var (pv 0)))) (blkOk_by (own := [("share", 9)]) (N := N__law_due) (sc := defScope s__law_due) (by decide +kernel)) (fun _ _ _ _ _ _ => jg_name (i := 9) sc__law_due.nd rfl (.inl rfl)) (fun _ _ _ _ _ _ => jts_nil) (fun _ _ _ _ _ _ => je_op od_fdiv (JE.v (je_op od_mul (JE.v (je_var (pv 1))) (JE.v (je_ixV (pv 9) (JE.v (je_int)) (fun _ _ => rfl))))) (JE.v (je_var (pv 2))))))
    (js_cons (js_set (i := 4) sc__law_due.nd rfl (.inr rfl) (je_lc (own := [("k", 7)]) rfl sc__law_due.nd (ji_rg1 m_range (JE.v (je_b1 cr_len m_len bt_len (jp_var (pv 0)) rfl)) rfl) (blkOk_by (own := [("k", 7)]) (N := N__law_due) (sc := defScope s__law_due) (by decide +kernel)) (fun _ _ _ _ _ _ => jg_name (i := 7) sc__law_due.nd rfl (.inl rfl)) (fun _ _ _ _ _ _ => jts_nil) (fun _ _ _ _ _ _ => je_op od_sub (JE.v (je_op od_mul (JE.v (je_var (pv 1))) (JE.v (je_ix ix_d (JE.v (je_ixV (pv 0) (JE.v (je_var (pv 7))) (fun _ _ => rfl))) (JE.v (je_int)) (fun _ _ => rfl))))) (JE.v (je_op od_mul (JE.v (je_ixV (pv 3) (JE.v (je_var (pv 7))) (fun _ _ => rfl))) (JE.v (je_var (pv 2))))))))
    (js_cons (js_set (i := 5) sc__law_due.nd rfl (.inl rfl) (je_op od_sub (JE.v (je_var (pv 1))) (JE.v (je_b1 (cr_sumD rfl) m_sum bt_sum (jp_var (pv 3)) rfl))))
    (js_cons (js_set (i := 6) sc__law_due.nd rfl (.inl rfl) (je_lst (ja_nil)))
    (js_cons (js_for po rfl (ji_rg1 m_range (JE.v (je_b1 cr_len m_len bt_len (jp_var (pv 0)) rfl)) rfl) (jg_name (i := 7) sc__law_due.nd rfl (.inr rfl)) (js_cons (js_set (i := 8) sc__law_due.nd rfl (.inl rfl) (je_b1 cr_len m_len bt_len (JE.p (je_lc (own := [("j", 10)]) rfl sc__law_due.nd (ji_rg1 m_range (JE.v (je_b1 cr_len m_len bt_len (jp_var (pv 0)) rfl)) rfl) (blkOk_by (own := [("j", 10)]) (N := N__law_due) (sc := defScope s__law_due) (by decide +kernel)) (fun _ _ _ _ _ _ => jg_name (i := 10) sc__law_due.nd rfl (.inl rfl)) (fun _ _ _ _ _ _ => jts_one (JW.t (jw_or (jt_cmp od_gt (JE.v (je_ixV (pv 4) (JE.v (je_var (pv 10))) (fun _ _ => rfl))) (JE.v (je_ixV (pv 4) (JE.v (je_var (pv 7))) (fun _ _ => rfl))) (nomark _)) (jw_or1 (JW.t (jw_and (jt_cmp (od_eq hr.units) (JE.v (je_ixV (pv 4) (JE.v (je_var (pv 10))) (fun _ _ => rfl))) (JE.v (je_ixV (pv 4) (JE.v (je_var (pv 7))) (fun _ _ => rfl))) (nomark _)) (jw_and1 (jt_cmp od_lt (JE.v (je_var (pv 10))) (JE.v (je_var (pv 7))) (nomark _))))))))) (fun _ _ _ _ _ _ => je_var (pv 10)))) rfl))
    (js_one (js_app (pv 6) (je_tup (ja_cons (JE.v (je_ix ix_d (JE.v (je_ixV (pv 0) (JE.v (je_var (pv 7))) (fun _ _ => rfl))) (JE.v (je_int)) (fun _ _ => rfl))) (ja_cons (JE.v (je_op od_add (JE.v (je_ixV (pv 3) (JE.v (je_var (pv 7))) (fun _ _ => rfl))) (JE.v (je_t1 cr_int m_int bt_int (JE.p (je_cmp od_lt (JE.v (je_var (pv 8))) (JE.v (je_var (pv 5))) (nomark _))) rfl)))) (ja_nil)))) (fun h => ps_expr (pe_bm PySem.F.plainAttrs_list PySem.F.slot_list_append PySem.F.type_list_append mt_append (pv 6) (pa_cons h pa_nil)))))))
    (js_one (js_ret (je_t1 cr_tuple m_tuple bt_tuple (jp_var (pv 6)) rfl))))))))))
set_option maxHeartbeats 4000000 in
theorem ok__law_joined {f : Addr} {fd : FuncData} (F : Fun K "_law_joined" "_law_joined" s__law_joined f fd) (G_joined_shares : Known P w K mg base "joined_shares" ["first", "second"] 4 d_joined_shares) {C_BadWear : Addr} (u_BadWear : mg "BadWear" = some (.ref C_BadWear)) (xm_BadWear_BadWear : PySem.W.exmOne K (.ref C_BadWear) (.ref C_BadWear) = some true) : FnOk P w K mg base (L2.CX P w) 5 f fd ["first", "second"] (spG K mg 2 d__law_joined) := by
  obtain ⟨a_joined_shares, fd_joined_shares, F_joined_shares, m_joined_shares, k_joined_shares, b_joined_shares⟩ := G_joined_shares
  refine known F sc__law_joined (fun cdv A outer s H E C hr tk po => ?_)
  exact (js_one (js_tryO1 rfl rfl u_BadWear rfl tk u_BadWear xm_BadWear_BadWear (fun W1 pn1 xe1 tk1 po1 => js_one (js_ret (je_call F_joined_shares (hr.mono (by decide)) m_joined_shares k_joined_shares b_joined_shares tk1 (ja_cons (JE.v (je_var (pv 0))) (ja_cons (JE.v (je_var (pv 1))) (ja_nil))) rfl))) (fun a2 oe2 pn2 => pe_non)))
set_option maxHeartbeats 4000000 in
theorem ok__law_refused {f : Addr} {fd : FuncData} (F : Fun K "_law_refused" "_law_refused" s__law_refused f fd) (G_joined_shares : Known P w K mg base "joined_shares" ["first", "second"] 4 d_joined_shares) (m_isinstance : mg "isinstance" = none) {C_BadWear : Addr} (u_BadWear : mg "BadWear" = some (.ref C_BadWear)) {C_FoundryError : Addr} (u_FoundryError : mg "FoundryError" = some (.ref C_FoundryError)) (xc_BadWear : ExcC K C_BadWear) (xm_BadWear_BadWear : PySem.W.exmOne K (.ref C_BadWear) (.ref C_BadWear) = some true) (xk_BadWear_FoundryError : PySem.W.kitOne K (.ref C_BadWear) (.ref C_FoundryError) = some true) : FnOk P w K mg base (L2.CX P w) 5 f fd ["first", "second"] (spG K mg 2 d__law_refused) := by
  obtain ⟨a_joined_shares, fd_joined_shares, F_joined_shares, m_joined_shares, k_joined_shares, b_joined_shares⟩ := G_joined_shares
  refine known F sc__law_refused (fun cdv A outer s H E C hr tk po => ?_)
  exact (js_cons (js_try1 rfl rfl sc__law_refused.nd rfl rfl u_BadWear rfl tk u_BadWear xm_BadWear_BadWear (fun W1 pn1 xe1 tk1 po1 => js_one (js_expr (je_call F_joined_shares (hr.mono (by decide)) m_joined_shares k_joined_shares b_joined_shares tk1 (ja_cons (JE.v (je_var (pv 0))) (ja_cons (JE.v (je_var (pv 1))) (ja_nil))) rfl))) (fun a2 oe2 pn2 hz2 hf2 => ke_is xc_BadWear hz2 hf2 (pv 2) (ke_own u_FoundryError rfl) (fun _ h => h) xk_BadWear_FoundryError rfl m_isinstance))
    (js_one (js_ret (je_bl))))
set_option maxHeartbeats 4000000 in
theorem ok__law_shares {f : Addr} {fd : FuncData} (F : Fun K "_law_shares" "_law_shares" s__law_shares f fd) (G__law_order : Known P w K mg base "_law_order" ["draws"] 1 d__law_order) (G__law_row : Known P w K mg base "_law_row" ["script", "place", "count", "limit"] 1 d__law_row) (m_tuple : mg "tuple" = none) (m_int : mg "int" = none) : FnOk P w K mg base (L2.CX P w) 2 f fd ["script", "place", "names", "limit"] (spG K mg 4 d__law_shares) := by
  obtain ⟨a__law_order, fd__law_order, F__law_order, m__law_order, k__law_order, b__law_order⟩ := G__law_order
  obtain ⟨a__law_row, fd__law_row, F__law_row, m__law_row, k__law_row, b__law_row⟩ := G__law_row
  refine known F sc__law_shares (fun cdv A outer s H E C hr tk po => ?_)
  exact (js_cons (js_set (i := 4) sc__law_shares.nd rfl (.inl rfl) (je_call F__law_row (hr.mono (by decide)) m__law_row k__law_row b__law_row tk (ja_cons (JE.v (je_var (pv 0))) (ja_cons (JE.v (je_var (pv 1))) (ja_cons (JE.v (je_int)) (ja_cons (JE.v (je_int)) (ja_nil))))) rfl))
    (js_cons (js_set (i := 5) sc__law_shares.nd rfl (.inl rfl) (je_call F__law_row (hr.mono (by decide)) m__law_row k__law_row b__law_row tk (ja_cons (JE.v (je_var (pv 0))) (ja_cons (JE.v (je_op od_add (JE.v (je_var (pv 1))) (JE.v (je_int)))) (ja_cons (JE.v (je_int)) (ja_cons (JE.v (je_var (pv 3))) (ja_nil))))) rfl))
    (js_cons (js_set (i := 6) sc__law_shares.nd rfl (.inl rfl) (je_call F__law_order (hr.mono (by decide)) m__law_order k__law_order b__law_order tk (ja_cons (JE.v (je_call F__law_row (hr.mono (by decide)) m__law_row k__law_row b__law_row tk (ja_cons (JE.v (je_var (pv 0))) (ja_cons (JE.v (je_op od_add (JE.v (je_var (pv 1))) (JE.v (je_int)))) (ja_cons (JE.v (je_int)) (ja_cons (JE.v (je_int)) (ja_nil))))) rfl)) (ja_nil)) rfl))
    (js_cons (js_set (i := 7) sc__law_shares.nd rfl (.inl rfl) (je_op od_add (JE.v (je_int)) (JE.v (je_op od_mod (JE.v (je_t1 cr_int m_int bt_int (JE.p (je_ixV (pv 4) (JE.v (je_int)) (fun _ _ => rfl))) rfl)) (JE.v (je_int))))))
    (js_cons (js_set (i := 8) sc__law_shares.nd rfl (.inl rfl) (je_lst (ja_nil)))
    (js_cons (js_for po rfl (ji_any (JE.v (je_var (pv 6)))) (jg_name (i := 9) sc__law_shares.nd rfl (.inl rfl)) (js_one (js_if (jt_cmp (od_eq hr.units) (JE.v (je_op od_mod (JE.v (je_t1 cr_int m_int bt_int (JE.p (je_ixV (pv 4) (JE.v (je_var (pv 9))) (fun _ _ => rfl))) rfl)) (JE.v (je_var (pv 7))))) (JE.v (je_int)) (nomark _)) (js_one (js_app (pv 8) (je_tup (ja_cons (JE.v (je_ixV (pv 2) (JE.v (je_var (pv 9))) (fun _ _ => rfl))) (ja_cons (JE.v (je_ixV (pv 5) (JE.v (je_var (pv 9))) (fun _ _ => rfl))) (ja_nil)))) (fun h => ps_expr (pe_bm PySem.F.plainAttrs_list PySem.F.slot_list_append PySem.F.type_list_append mt_append (pv 8) (pa_cons h pa_nil))))) (js_nil))))
    (js_one (js_ret (je_t1 cr_tuple m_tuple bt_tuple (jp_var (pv 8)) rfl)))))))))
set_option maxHeartbeats 4000000 in
theorem ok__law_grouped {f : Addr} {fd : FuncData} (F : Fun K "_law_grouped" "_law_grouped" s__law_grouped f fd) (G__law_same : Known P w K mg base "_law_same" ["actual", "due"] 2 d__law_same) (G__law_joined : Known P w K mg base "_law_joined" ["first", "second"] 5 d__law_joined) (G__law_sums : Known P w K mg base "_law_sums" ["pairs"] 1 d__law_sums) : FnOk P w K mg base (L2.CX P w) 6 f fd ["a", "b", "c"] (spG K mg 3 d__law_grouped) := by
  obtain ⟨a__law_same, fd__law_same, F__law_same, m__law_same, k__law_same, b__law_same⟩ := G__law_same
  obtain ⟨a__law_joined, fd__law_joined, F__law_joined, m__law_joined, k__law_joined, b__law_joined⟩ := G__law_joined
  obtain ⟨a__law_sums, fd__law_sums, F__law_sums, m__law_sums, k__law_sums, b__law_sums⟩ := G__law_sums
  refine known F sc__law_grouped (fun cdv A outer s H E C hr tk po => ?_)
  exact (js_cons (js_set (i := 3) sc__law_grouped.nd rfl (.inl rfl) (je_call F__law_sums (hr.mono (by decide)) m__law_sums k__law_sums b__law_sums tk (ja_cons (JE.v (je_op od_add (JE.v (je_op od_add (JE.v (je_var (pv 0))) (JE.v (je_var (pv 1))))) (JE.v (je_var (pv 2))))) (ja_nil)) rfl))
    (js_cons (js_for po rfl (ji_any (JE.v (je_lst (ja_cons (JE.v (je_tup (ja_cons (JE.v (je_var (pv 0))) (ja_cons (JE.v (je_var (pv 1))) (ja_nil))))) (ja_cons (JE.v (je_tup (ja_cons (JE.v (je_var (pv 1))) (ja_cons (JE.v (je_var (pv 0))) (ja_nil))))) (ja_cons (JE.v (je_tup (ja_cons (JE.v (je_var (pv 1))) (ja_cons (JE.v (je_var (pv 2))) (ja_nil))))) (ja_cons (JE.v (je_tup (ja_cons (JE.v (je_var (pv 2))) (ja_cons (JE.v (je_var (pv 0))) (ja_nil))))) (ja_cons (JE.v (je_tup (ja_cons (JE.v (je_var (pv 0))) (ja_cons (JE.v (je_tup (ja_nil))) (ja_nil))))) (ja_cons (JE.v (je_tup (ja_cons (JE.v (je_tup (ja_nil))) (ja_cons (JE.v (je_var (pv 2))) (ja_nil))))) (ja_nil)))))))))) (jg_tup rfl (jgs_cons (jg_name (i := 4) sc__law_grouped.nd rfl (.inl rfl)) (jgs_cons (jg_name (i := 5) sc__law_grouped.nd rfl (.inl rfl)) (jgs_nil)))) (js_one (js_if (jt_not (jt_tru (JE.p (je_call F__law_same (hr.mono (by decide)) m__law_same k__law_same b__law_same tk (ja_cons (JE.v (je_call F__law_joined (hr.mono (by decide)) m__law_joined k__law_joined b__law_joined tk (ja_cons (JE.v (je_var (pv 4))) (ja_cons (JE.v (je_var (pv 5))) (ja_nil))) rfl)) (ja_cons (JE.v (je_call F__law_sums (hr.mono (by decide)) m__law_sums k__law_sums b__law_sums tk (ja_cons (JE.v (je_op od_add (JE.v (je_var (pv 4))) (JE.v (je_var (pv 5))))) (ja_nil)) rfl)) (ja_nil))) rfl)))) (js_one (js_ret (je_bl))) (js_nil))))
    (js_cons (js_if (jt_not (jt_tru (JE.p (je_call F__law_same (hr.mono (by decide)) m__law_same k__law_same b__law_same tk (ja_cons (JE.v (je_call F__law_joined (hr.mono (by decide)) m__law_joined k__law_joined b__law_joined tk (ja_cons (JE.v (je_call F__law_sums (hr.mono (by decide)) m__law_sums k__law_sums b__law_sums tk (ja_cons (JE.v (je_op od_add (JE.v (je_var (pv 0))) (JE.v (je_var (pv 1))))) (ja_nil)) rfl)) (ja_cons (JE.v (je_var (pv 2))) (ja_nil))) rfl)) (ja_cons (JE.v (je_var (pv 3))) (ja_nil))) rfl)))) (js_one (js_ret (je_bl))) (js_nil))
    (js_cons (js_if (jt_not (jt_tru (JE.p (je_call F__law_same (hr.mono (by decide)) m__law_same k__law_same b__law_same tk (ja_cons (JE.v (je_call F__law_joined (hr.mono (by decide)) m__law_joined k__law_joined b__law_joined tk (ja_cons (JE.v (je_call F__law_joined (hr.mono (by decide)) m__law_joined k__law_joined b__law_joined tk (ja_cons (JE.v (je_var (pv 2))) (ja_cons (JE.v (je_var (pv 0))) (ja_nil))) rfl)) (ja_cons (JE.v (je_var (pv 1))) (ja_nil))) rfl)) (ja_cons (JE.v (je_var (pv 3))) (ja_nil))) rfl)))) (js_one (js_ret (je_bl))) (js_nil))
    (js_one (js_ret (je_call F__law_same (hr.mono (by decide)) m__law_same k__law_same b__law_same tk (ja_cons (JE.v (je_call F__law_joined (hr.mono (by decide)) m__law_joined k__law_joined b__law_joined tk (ja_cons (JE.v (je_var (pv 0))) (ja_cons (JE.v (je_call F__law_joined (hr.mono (by decide)) m__law_joined k__law_joined b__law_joined tk (ja_cons (JE.v (je_var (pv 1))) (ja_cons (JE.v (je_var (pv 2))) (ja_nil))) rfl)) (ja_nil))) rfl)) (ja_cons (JE.v (je_var (pv 3))) (ja_nil))) rfl)))))))
set_option maxHeartbeats 4000000 in
theorem ok__law_bounds {f : Addr} {fd : FuncData} (F : Fun K "_law_bounds" "_law_bounds" s__law_bounds f fd) (G__law_same : Known P w K mg base "_law_same" ["actual", "due"] 2 d__law_same) (G__law_joined : Known P w K mg base "_law_joined" ["first", "second"] 5 d__law_joined) (G__law_sums : Known P w K mg base "_law_sums" ["pairs"] 1 d__law_sums) (G__law_refused : Known P w K mg base "_law_refused" ["first", "second"] 5 d__law_refused) (m_int : mg "int" = none) (m_tuple : mg "tuple" = none) : FnOk P w K mg base (L2.CX P w) 6 f fd ["names", "a", "b", "draws"] (spG K mg 4 d__law_bounds) := by
  obtain ⟨a__law_same, fd__law_same, F__law_same, m__law_same, k__law_same, b__law_same⟩ := G__law_same
  obtain ⟨a__law_joined, fd__law_joined, F__law_joined, m__law_joined, k__law_joined, b__law_joined⟩ := G__law_joined
  obtain ⟨a__law_sums, fd__law_sums, F__law_sums, m__law_sums, k__law_sums, b__law_sums⟩ := G__law_sums
  obtain ⟨a__law_refused, fd__law_refused, F__law_refused, m__law_refused, k__law_refused, b__law_refused⟩ := G__law_refused
  refine known F sc__law_bounds (fun cdv A outer s H E C hr tk po => ?_)
  exact (js_cons (js_set (i := 4) sc__law_bounds.nd rfl (.inl rfl) (je_op od_add (JE.v (je_var (pv 1))) (JE.v (je_t1 cr_tuple m_tuple bt_tuple (JE.p (je_lc (own := [("name", 13)]) rfl sc__law_bounds.nd (ji_any (JE.v (je_slV (pv 0) (jo_none) (jo_some (JE.v (je_int)))))) (blkOk_by (own := [("name", 13)]) (N := N__law_bounds) (sc := defScope s__law_bounds) (by decide +kernel)) (fun _ _ _ _ _ _ => jg_name (i := 13) sc__law_bounds.nd rfl (.inl rfl)) (fun _ _ _ _ _ _ => jts_one (jt_cmp od_notin (JE.v (je_var (pv 13))) (JE.v (je_lc (own := [("share", 14)]) rfl sc__law_bounds.nd (ji_any (JE.v (je_var (pv 1)))) (blkOk_nof (own := [("share", 14)]) (N := N__law_bounds) (by decide +kernel)) (fun _ _ _ _ _ _ => jg_name (i := 14) sc__law_bounds.nd rfl (.inl rfl)) (fun _ _ _ _ _ _ => jts_nil) (fun _ _ _ _ _ _ => je_ixV (pv 14) (JE.v (je_int)) (fun _ _ => rfl)))) (by rfl))) (fun _ _ _ _ _ _ => je_tup (ja_cons (JE.v (je_var (pv 13))) (ja_cons (JE.v (je_int)) (ja_nil)))))) rfl))))
    (js_cons (js_set (i := 5) sc__law_bounds.nd rfl (.inl rfl) (je_call F__law_joined (hr.mono (by decide)) m__law_joined k__law_joined b__law_joined tk (ja_cons (JE.v (je_slV (pv 4) (jo_none) (jo_some (JE.v (je_op od_sub (JE.v (je_int)) (JE.v (je_op od_mod (JE.v (je_t1 cr_int m_int bt_int (JE.p (je_ixV (pv 3) (JE.v (je_int)) (fun _ _ => rfl))) rfl)) (JE.v (je_int))))))))) (ja_cons (JE.v (je_var (pv 2))) (ja_nil))) rfl))
    (js_cons (js_if (jt_not (jt_tru (JE.p (je_call F__law_same (hr.mono (by decide)) m__law_same k__law_same b__law_same tk (ja_cons (JE.v (je_var (pv 5))) (ja_cons (JE.v (je_call F__law_sums (hr.mono (by decide)) m__law_sums k__law_sums b__law_sums tk (ja_cons (JE.v (je_op od_add (JE.v (je_slV (pv 4) (jo_none) (jo_some (JE.v (je_op od_sub (JE.v (je_int)) (JE.v (je_op od_mod (JE.v (je_t1 cr_int m_int bt_int (JE.p (je_ixV (pv 3) (JE.v (je_int)) (fun _ _ => rfl))) rfl)) (JE.v (je_int))))))))) (JE.v (je_var (pv 2))))) (ja_nil)) rfl)) (ja_nil))) rfl)))) (js_one (js_ret (je_bl))) (js_nil))
    (js_cons (js_if (JW.t (jw_or (jt_not (jt_tru (JE.p (je_call F__law_same (hr.mono (by decide)) m__law_same k__law_same b__law_same tk (ja_cons (JE.v (je_call F__law_joined (hr.mono (by decide)) m__law_joined k__law_joined b__law_joined tk (ja_cons (JE.v (je_var (pv 4))) (ja_cons (JE.v (je_var (pv 2))) (ja_nil))) rfl)) (ja_cons (JE.v (je_call F__law_sums (hr.mono (by decide)) m__law_sums k__law_sums b__law_sums tk (ja_cons (JE.v (je_op od_add (JE.v (je_var (pv 4))) (JE.v (je_var (pv 2))))) (ja_nil)) rfl)) (ja_nil))) rfl)))) (jw_or1 (jt_not (jt_tru (JE.p (je_call F__law_refused (hr.mono (by decide)) m__law_refused k__law_refused b__law_refused tk (ja_cons (JE.v (je_var (pv 4))) (ja_cons (JE.v (je_op od_add (JE.v (je_var (pv 2))) (JE.v (je_tup (ja_cons (JE.v (je_tup (ja_cons (JE.v (je_ixV (pv 0) (JE.v (je_int)) (fun _ _ => rfl))) (ja_cons (JE.v (je_int)) (ja_nil))))) (ja_nil)))))) (ja_nil))) rfl))))))) (js_one (js_ret (je_bl))) (js_nil))
    (js_cons (js_if (jt_not (jt_tru (JE.p (je_call F__law_refused (hr.mono (by decide)) m__law_refused k__law_refused b__law_refused tk (ja_cons (JE.v (je_tup (ja_cons (JE.v (je_tup (ja_cons (JE.v (je_ixV (pv 0) (JE.v (je_int)) (fun _ _ => rfl))) (ja_cons (JE.v (je_int)) (ja_nil))))) (ja_nil)))) (ja_cons (JE.v (je_var (pv 4))) (ja_nil))) rfl)))) (js_one (js_ret (je_bl))) (js_nil))
    (js_cons (js_set (i := 6) sc__law_bounds.nd rfl (.inl rfl) (je_ixV (pv 0) (JE.v (je_op od_mod (JE.v (je_t1 cr_int m_int bt_int (JE.p (je_ixV (pv 3) (JE.v (je_int)) (fun _ _ => rfl))) rfl)) (JE.v (je_int)))) (fun _ _ => rfl)))
    (js_cons (js_set (i := 7) sc__law_bounds.nd rfl (.inl rfl) (je_op od_mod (JE.v (je_t1 cr_int m_int bt_int (JE.p (je_op od_mul (JE.v (je_ixV (pv 3) (JE.v (je_int)) (fun _ _ => rfl))) (JE.v (je_int)))) rfl)) (JE.v (je_int))))
    (js_cons (js_set (i := 8) sc__law_bounds.nd rfl (.inl rfl) (je_op od_mod (JE.v (je_t1 cr_int m_int bt_int (JE.p (je_op od_mul (JE.v (je_ixV (pv 3) (JE.v (je_int)) (fun _ _ => rfl))) (JE.v (je_int)))) rfl)) (JE.v (je_int))))
    (js_cons (js_for po rfl (ji_any (JE.v (je_lst (ja_cons (JE.v (je_op od_sub (JE.v (je_op od_sub (JE.v (je_int)) (JE.v (je_var (pv 7))))) (JE.v (je_var (pv 8))))) (ja_cons (JE.v (je_op od_sub (JE.v (je_op od_sub (JE.v (je_int)) (JE.v (je_var (pv 7))))) (JE.v (je_var (pv 8))))) (ja_nil)))))) (jg_name (i := 9) sc__law_bounds.nd rfl (.inl rfl)) (js_cons (js_set (i := 10) sc__law_bounds.nd rfl (.inl rfl) (je_call F__law_sums (hr.mono (by decide)) m__law_sums k__law_sums b__law_sums tk (ja_cons (JE.v (je_tup (ja_cons (JE.v (je_tup (ja_cons (JE.v (je_var (pv 6))) (ja_cons (JE.v (je_var (pv 7))) (ja_nil))))) (ja_cons (JE.v (je_tup (ja_cons (JE.v (je_ixV (pv 0) (JE.v (je_int)) (fun _ _ => rfl))) (ja_cons (JE.v (je_int)) (ja_nil))))) (ja_cons (JE.v (je_tup (ja_cons (JE.v (je_var (pv 6))) (ja_cons (JE.v (je_var (pv 8))) (ja_nil))))) (ja_nil)))))) (ja_nil)) rfl))
    (js_cons (js_set (i := 11) sc__law_bounds.nd rfl (.inl rfl) (je_call F__law_sums (hr.mono (by decide)) m__law_sums k__law_sums b__law_sums tk (ja_cons (JE.v (je_tup (ja_cons (JE.v (je_tup (ja_cons (JE.v (je_var (pv 6))) (ja_cons (JE.v (je_var (pv 8))) (ja_nil))))) (ja_cons (JE.v (je_tup (ja_cons (JE.v (je_var (pv 6))) (ja_cons (JE.v (je_var (pv 9))) (ja_nil))))) (ja_nil))))) (ja_nil)) rfl))
    (js_one (js_if (jt_cmp (od_eq hr.units) (JE.v (je_op od_add (JE.v (je_op od_add (JE.v (je_var (pv 7))) (JE.v (je_var (pv 8))))) (JE.v (je_var (pv 9))))) (JE.v (je_int)) (nomark _)) (js_cons (js_set (i := 12) sc__law_bounds.nd rfl (.inl rfl) (je_call F__law_sums (hr.mono (by decide)) m__law_sums k__law_sums b__law_sums tk (ja_cons (JE.v (je_tup (ja_cons (JE.v (je_tup (ja_cons (JE.v (je_var (pv 6))) (ja_cons (JE.v (je_int)) (ja_nil))))) (ja_cons (JE.v (je_tup (ja_cons (JE.v (je_ixV (pv 0) (JE.v (je_int)) (fun _ _ => rfl))) (ja_cons (JE.v (je_int)) (ja_nil))))) (ja_nil))))) (ja_nil)) rfl))
    (js_cons (js_if (jt_not (jt_tru (JE.p (je_call F__law_same (hr.mono (by decide)) m__law_same k__law_same b__law_same tk (ja_cons (JE.v (je_call F__law_joined (hr.mono (by decide)) m__law_joined k__law_joined b__law_joined tk (ja_cons (JE.v (je_var (pv 10))) (ja_cons (JE.v (je_tup (ja_cons (JE.v (je_tup (ja_cons (JE.v (je_var (pv 6))) (ja_cons (JE.v (je_var (pv 9))) (ja_nil))))) (ja_nil)))) (ja_nil))) rfl)) (ja_cons (JE.v (je_var (pv 12))) (ja_nil))) rfl)))) (js_one (js_ret (je_bl))) (js_nil))
    (js_one (js_if (jt_not (jt_tru (JE.p (je_call F__law_same (hr.mono (by decide)) m__law_same k__law_same b__law_same tk (ja_cons (JE.v (je_call F__law_joined (hr.mono (by decide)) m__law_joined k__law_joined b__law_joined tk (ja_cons (JE.v (je_tup (ja_cons (JE.v (je_tup (ja_cons (JE.v (je_ixV (pv 0) (JE.v (je_int)) (fun _ _ => rfl))) (ja_cons (JE.v (je_int)) (ja_nil))))) (ja_nil)))) (ja_cons (JE.v (je_call F__law_joined (hr.mono (by decide)) m__law_joined k__law_joined b__law_joined tk (ja_cons (JE.v (je_tup (ja_cons (JE.v (je_tup (ja_cons (JE.v (je_var (pv 6))) (ja_cons (JE.v (je_var (pv 7))) (ja_nil))))) (ja_nil)))) (ja_cons (JE.v (je_var (pv 11))) (ja_nil))) rfl)) (ja_nil))) rfl)) (ja_cons (JE.v (je_var (pv 12))) (ja_nil))) rfl)))) (js_one (js_ret (je_bl))) (js_nil))))) (js_one (js_if (jt_not (jt_tru (JE.p (je_call F__law_refused (hr.mono (by decide)) m__law_refused k__law_refused b__law_refused tk (ja_cons (JE.v (je_var (pv 10))) (ja_cons (JE.v (je_tup (ja_cons (JE.v (je_tup (ja_cons (JE.v (je_var (pv 6))) (ja_cons (JE.v (je_var (pv 9))) (ja_nil))))) (ja_nil)))) (ja_nil))) rfl)))) (js_one (js_ret (je_bl))) (js_one (js_if (JW.t (jw_and (jt_cmp od_le (JE.v (je_ix ix_d (JE.v (je_ixV (pv 11) (JE.v (je_int)) (fun _ _ => rfl))) (JE.v (je_int)) (fun _ _ => rfl))) (JE.v (je_int)) (nomark _)) (jw_and1 (jt_not (jt_tru (JE.p (je_call F__law_refused (hr.mono (by decide)) m__law_refused k__law_refused b__law_refused tk (ja_cons (JE.v (je_tup (ja_cons (JE.v (je_tup (ja_cons (JE.v (je_var (pv 6))) (ja_cons (JE.v (je_var (pv 7))) (ja_nil))))) (ja_nil)))) (ja_cons (JE.v (je_var (pv 11))) (ja_nil))) rfl))))))) (js_one (js_ret (je_bl))) (js_nil))))))))))
    (js_one (js_ret (je_bl))))))))))))
set_option maxHeartbeats 4000000 in
theorem ok__law_worn {f : Addr} {fd : FuncData} (F : Fun K "_law_worn" "_law_worn" s__law_worn f fd) (G__law_same : Known P w K mg base "_law_same" ["actual", "due"] 2 d__law_same) (G__law_due : Known P w K mg base "_law_due" ["shares", "cost"] 1 d__law_due) (G_charge : Known P w K mg base "charge" ["shares", "cost"] 4 d_charge) (G_wear_by_owner : Known P w K mg base "wear_by_owner" ["uses"] 4 d_wear_by_owner) (G__law_sums : Known P w K mg base "_law_sums" ["pairs"] 1 d__law_sums) (G__law_joined : Known P w K mg base "_law_joined" ["first", "second"] 5 d__law_joined) (G__law_row : Known P w K mg base "_law_row" ["script", "place", "count", "limit"] 1 d__law_row) (m_range : mg "range" = none) (m_int : mg "int" = none) (m_tuple : mg "tuple" = none) : FnOk P w K mg base (L2.CX P w) 6 f fd ["script", "names", "cost"] (spG K mg 3 d__law_worn) := by
  obtain ⟨a__law_same, fd__law_same, F__law_same, m__law_same, k__law_same, b__law_same⟩ := G__law_same
  obtain ⟨a__law_due, fd__law_due, F__law_due, m__law_due, k__law_due, b__law_due⟩ := G__law_due
  obtain ⟨a_charge, fd_charge, F_charge, m_charge, k_charge, b_charge⟩ := G_charge
  obtain ⟨a_wear_by_owner, fd_wear_by_owner, F_wear_by_owner, m_wear_by_owner, k_wear_by_owner, b_wear_by_owner⟩ := G_wear_by_owner
  obtain ⟨a__law_sums, fd__law_sums, F__law_sums, m__law_sums, k__law_sums, b__law_sums⟩ := G__law_sums
  obtain ⟨a__law_joined, fd__law_joined, F__law_joined, m__law_joined, k__law_joined, b__law_joined⟩ := G__law_joined
  obtain ⟨a__law_row, fd__law_row, F__law_row, m__law_row, k__law_row, b__law_row⟩ := G__law_row
  refine known F sc__law_worn (fun cdv A outer s H E C hr tk po => ?_)
  exact (js_cons (js_set (i := 3) sc__law_worn.nd rfl (.inl rfl) (je_call F__law_row (hr.mono (by decide)) m__law_row k__law_row b__law_row tk (ja_cons (JE.v (je_var (pv 0))) (ja_cons (JE.v (je_int)) (ja_cons (JE.v (je_int)) (ja_cons (JE.v (je_int)) (ja_nil))))) rfl))
    (js_cons (js_set (i := 4) sc__law_worn.nd rfl (.inl rfl) (je_lst (ja_nil)))
    (js_cons (js_for po rfl (ji_rg1 m_range (JE.v (je_int)) rfl) (jg_name (i := 5) sc__law_worn.nd rfl (.inl rfl)) (js_cons (js_set (i := 8) sc__law_worn.nd rfl (.inl rfl) (je_call F__law_row (hr.mono (by decide)) m__law_row k__law_row b__law_row tk (ja_cons (JE.v (je_var (pv 0))) (ja_cons (JE.v (je_op od_add (JE.v (je_int)) (JE.v (je_var (pv 5))))) (ja_cons (JE.v (je_ixV (pv 3) (JE.v (je_var (pv 5))) (fun _ _ => rfl))) (ja_cons (JE.v (je_int)) (ja_nil))))) rfl))
    (js_one (js_app (pv 4) (je_t1 cr_tuple m_tuple bt_tuple (JE.p (je_lc (own := [("draw", 9)]) rfl sc__law_worn.nd (ji_any (JE.v (je_var (pv 8)))) (blkOk_by (own := [("draw", 9)]) (N := N__law_worn) (sc := defScope s__law_worn) (by decide +kernel)) (fun _ _ _ _ _ _ => jg_name (i := 9) sc__law_worn.nd rfl (.inl rfl)) (fun _ _ _ _ _ _ => jts_nil) (fun _ _ _ _ _ _ => je_tup (ja_cons (JE.v (je_ixV (pv 1) (JE.v (je_op od_mod (JE.v (je_t1 cr_int m_int bt_int (jp_var (pv 9)) rfl)) (JE.v (je_int)))) (fun _ _ => rfl))) (ja_cons (JE.v (je_op od_mod (JE.v (je_t1 cr_int m_int bt_int (JE.p (je_op od_fdiv (JE.v (je_var (pv 9))) (JE.v (je_int)))) rfl)) (JE.v (je_int)))) (ja_nil)))))) rfl) (fun h => ps_expr (pe_bm PySem.F.plainAttrs_list PySem.F.slot_list_append PySem.F.type_list_append mt_append (pv 4) (pa_cons h pa_nil)))))))
    (js_cons (js_set (i := 6) sc__law_worn.nd rfl (.inl rfl) (je_call F__law_joined (hr.mono (by decide)) m__law_joined k__law_joined b__law_joined tk (ja_cons (JE.v (je_call F__law_joined (hr.mono (by decide)) m__law_joined k__law_joined b__law_joined tk (ja_cons (JE.v (je_call F_wear_by_owner (hr.mono (by decide)) m_wear_by_owner k_wear_by_owner b_wear_by_owner tk (ja_cons (JE.v (je_ixV (pv 4) (JE.v (je_int)) (fun _ _ => rfl))) (ja_nil)) rfl)) (ja_cons (JE.v (je_call F_wear_by_owner (hr.mono (by decide)) m_wear_by_owner k_wear_by_owner b_wear_by_owner tk (ja_cons (JE.v (je_ixV (pv 4) (JE.v (je_int)) (fun _ _ => rfl))) (ja_nil)) rfl)) (ja_nil))) rfl)) (ja_cons (JE.v (je_call F_wear_by_owner (hr.mono (by decide)) m_wear_by_owner k_wear_by_owner b_wear_by_owner tk (ja_cons (JE.v (je_ixV (pv 4) (JE.v (je_int)) (fun _ _ => rfl))) (ja_nil)) rfl)) (ja_nil))) rfl))
    (js_cons (js_set (i := 7) sc__law_worn.nd rfl (.inl rfl) (je_call F__law_sums (hr.mono (by decide)) m__law_sums k__law_sums b__law_sums tk (ja_cons (JE.v (je_op od_add (JE.v (je_op od_add (JE.v (je_ixV (pv 4) (JE.v (je_int)) (fun _ _ => rfl))) (JE.v (je_ixV (pv 4) (JE.v (je_int)) (fun _ _ => rfl))))) (JE.v (je_ixV (pv 4) (JE.v (je_int)) (fun _ _ => rfl))))) (ja_nil)) rfl))
    (js_cons (js_if (JW.t (jw_or (jt_not (jt_tru (JE.p (je_call F__law_same (hr.mono (by decide)) m__law_same k__law_same b__law_same tk (ja_cons (JE.v (je_var (pv 6))) (ja_cons (JE.v (je_var (pv 7))) (ja_nil))) rfl)))) (jw_or1 (jt_not (jt_tru (JE.p (je_call F__law_same (hr.mono (by decide)) m__law_same k__law_same b__law_same tk (ja_cons (JE.v (je_call F_wear_by_owner (hr.mono (by decide)) m_wear_by_owner k_wear_by_owner b_wear_by_owner tk (ja_cons (JE.v (je_op od_add (JE.v (je_op od_add (JE.v (je_ixV (pv 4) (JE.v (je_int)) (fun _ _ => rfl))) (JE.v (je_ixV (pv 4) (JE.v (je_int)) (fun _ _ => rfl))))) (JE.v (je_ixV (pv 4) (JE.v (je_int)) (fun _ _ => rfl))))) (ja_nil)) rfl)) (ja_cons (JE.v (je_var (pv 7))) (ja_nil))) rfl))))))) (js_one (js_ret (je_bl))) (js_nil))
    (js_one (js_ret (je_call F__law_same (hr.mono (by decide)) m__law_same k__law_same b__law_same tk (ja_cons (JE.v (je_call F_charge (hr.mono (by decide)) m_charge k_charge b_charge tk (ja_cons (JE.v (je_var (pv 6))) (ja_cons (JE.v (je_var (pv 2))) (ja_nil))) rfl)) (ja_cons (JE.v (je_call F__law_due (hr.mono (by decide)) m__law_due k__law_due b__law_due tk (ja_cons (JE.v (je_var (pv 7))) (ja_cons (JE.v (je_var (pv 2))) (ja_nil))) rfl)) (ja_nil))) rfl)))))))))
set_option maxHeartbeats 4000000 in
theorem ok_law {f : Addr} {fd : FuncData} (F : Fun K "law" "law" s_law f fd) (G__law_worn : Known P w K mg base "_law_worn" ["script", "names", "cost"] 6 d__law_worn) (G__law_bounds : Known P w K mg base "_law_bounds" ["names", "a", "b", "draws"] 6 d__law_bounds) (G__law_grouped : Known P w K mg base "_law_grouped" ["a", "b", "c"] 6 d__law_grouped) (G__law_row : Known P w K mg base "_law_row" ["script", "place", "count", "limit"] 1 d__law_row) (G__law_shares : Known P w K mg base "_law_shares" ["script", "place", "names", "limit"] 2 d__law_shares) (G__law_names : Known P w K mg base "_law_names" ["script", "place", "count"] 2 d__law_names) (G__law_cell : Known P w K mg base "_law_cell" ["script", "k"] 1 d__law_cell) (m_int : mg "int" = none) (m_abs : mg "abs" = none) : FnOk P w K mg base (L2.CX P w) 7 f fd ["script"] (spG K mg 1 d_law) := by
  obtain ⟨a__law_worn, fd__law_worn, F__law_worn, m__law_worn, k__law_worn, b__law_worn⟩ := G__law_worn
  obtain ⟨a__law_bounds, fd__law_bounds, F__law_bounds, m__law_bounds, k__law_bounds, b__law_bounds⟩ := G__law_bounds
  obtain ⟨a__law_grouped, fd__law_grouped, F__law_grouped, m__law_grouped, k__law_grouped, b__law_grouped⟩ := G__law_grouped
  obtain ⟨a__law_row, fd__law_row, F__law_row, m__law_row, k__law_row, b__law_row⟩ := G__law_row
  obtain ⟨a__law_shares, fd__law_shares, F__law_shares, m__law_shares, k__law_shares, b__law_shares⟩ := G__law_shares
  obtain ⟨a__law_names, fd__law_names, F__law_names, m__law_names, k__law_names, b__law_names⟩ := G__law_names
  obtain ⟨a__law_cell, fd__law_cell, F__law_cell, m__law_cell, k__law_cell, b__law_cell⟩ := G__law_cell
  refine known F sc_law (fun cdv A outer s H E C hr tk po => ?_)
  exact (js_cons (js_set (i := 1) sc_law.nd rfl (.inl rfl) (je_b1 cr_abs m_abs bt_abs (JE.p (je_call F__law_cell (hr.mono (by decide)) m__law_cell k__law_cell b__law_cell tk (ja_cons (JE.v (je_var (pv 0))) (ja_cons (JE.v (je_int)) (ja_nil))) rfl)) rfl))
    (js_cons (js_set (i := 2) sc_law.nd rfl (.inr rfl) (je_call F__law_names (hr.mono (by decide)) m__law_names k__law_names b__law_names tk (ja_cons (JE.v (je_var (pv 0))) (ja_cons (JE.v (je_int)) (ja_cons (JE.v (je_int)) (ja_nil)))) rfl))
    (js_cons (js_set (i := 3) sc_law.nd rfl (.inr rfl) (je_ix ix_d (JE.v (je_lst (ja_cons (JE.v (je_int)) (ja_cons (JE.v (je_int)) (ja_cons (JE.v (je_int)) (ja_nil)))))) (JE.v (je_op od_mod (JE.v (je_t1 cr_int m_int bt_int (jp_var (pv 1)) rfl)) (JE.v (je_int)))) (fun _ _ => rfl)))
    (js_cons (js_setLc (i := 4) (own := [("place", 6)]) rfl sc_law.nd rfl rfl (sw_true rfl rfl rfl (by decide +kernel)) (ji_any (JE.v (je_lst (ja_cons (JE.v (je_int)) (ja_cons (JE.v (je_int)) (ja_cons (JE.v (je_int)) (ja_nil))))))) (blkOk_by (own := [("place", 6)]) (N := N_law) (sc := defScope s_law) (by decide +kernel)) (fun _ _ _ _ _ _ => jg_name (i := 6) sc_law.nd rfl (.inl rfl)) (fun _ _ _ _ _ _ => jts_nil) (fun _ _ _ _ _ _ => je_call F__law_shares (hr.mono (by decide)) m__law_shares k__law_shares b__law_shares takes0 (ja_cons (JE.v (je_var (pv 0))) (ja_cons (JE.v (je_var (pv 6))) (ja_cons (JE.v (je_var (pv 2))) (ja_cons (JE.v (je_var (pv 3))) (ja_nil))))) rfl))
    (js_cons (js_set (i := 5) sc_law.nd rfl (.inl rfl) (je_call F__law_row (hr.mono (by decide)) m__law_row k__law_row b__law_row tk (ja_cons (JE.v (je_var (pv 0))) (ja_cons (JE.v (je_int)) (ja_cons (JE.v (je_int)) (ja_cons (JE.v (je_int)) (ja_nil))))) rfl))
    (js_cons (js_if (jt_not (jt_tru (JE.p (je_call F__law_grouped (hr.mono (by decide)) m__law_grouped k__law_grouped b__law_grouped tk (ja_cons (JE.v (je_ixV (pv 4) (JE.v (je_int)) (fun _ _ => rfl))) (ja_cons (JE.v (je_ixV (pv 4) (JE.v (je_int)) (fun _ _ => rfl))) (ja_cons (JE.v (je_ixV (pv 4) (JE.v (je_int)) (fun _ _ => rfl))) (ja_nil)))) rfl)))) (js_one (js_ret (je_bl))) (js_nil))
    (js_cons (js_if (jt_not (jt_tru (JE.p (je_call F__law_bounds (hr.mono (by decide)) m__law_bounds k__law_bounds b__law_bounds tk (ja_cons (JE.v (je_var (pv 2))) (ja_cons (JE.v (je_ixV (pv 4) (JE.v (je_int)) (fun _ _ => rfl))) (ja_cons (JE.v (je_ixV (pv 4) (JE.v (je_int)) (fun _ _ => rfl))) (ja_cons (JE.v (je_var (pv 5))) (ja_nil))))) rfl)))) (js_one (js_ret (je_bl))) (js_nil))
    (js_one (js_ret (je_call F__law_worn (hr.mono (by decide)) m__law_worn k__law_worn b__law_worn tk (ja_cons (JE.v (je_var (pv 0))) (ja_cons (JE.v (je_var (pv 2))) (ja_cons (JE.v (je_op od_mod (JE.v (je_t1 cr_int m_int bt_int (JE.p (je_op od_add (JE.v (je_op od_mul (JE.v (je_ixV (pv 5) (JE.v (je_int)) (fun _ _ => rfl))) (JE.v (je_int)))) (JE.v (je_ixV (pv 5) (JE.v (je_int)) (fun _ _ => rfl))))) rfl)) (JE.v (je_int)))) (ja_nil)))) rfl))))))))))
end
set_option maxHeartbeats 4000000 in
theorem all_mk (hp : ∀ ns : List Int, ns.length ≤ 63 → ∃ ρ, d_law [.val (script ns)] = .ok (.val (.bool true)) ρ) {l : PySem.W.OpenLaw} {w : World} {K : PySem.W.Frag} {h : Heap} {mg : Str → Option Value} {fa : Addr} (X : K.In h) (G : h.Ns mainGlobals mg) (hfa : mg "law" = some (.ref fa))
    {f0 : Addr} {od0 an0 : Option Addr} {sl0 : Array (Option Value)} {oc0 kV0 dc0 pm0 cd0 ct0 : Value}
    {f1 : Addr} {od1 an1 : Option Addr} {sl1 : Array (Option Value)} {oc1 kV1 dc1 pm1 cd1 ct1 : Value}
    {f2 : Addr} {od2 an2 : Option Addr} {sl2 : Array (Option Value)} {oc2 kV2 dc2 pm2 cd2 ct2 : Value}
    {f3 : Addr} {od3 an3 : Option Addr} {sl3 : Array (Option Value)} {oc3 kV3 dc3 pm3 cd3 ct3 : Value}
    {f4 : Addr} {od4 an4 : Option Addr} {sl4 : Array (Option Value)} {oc4 kV4 dc4 pm4 cd4 ct4 : Value}
    {f5 : Addr} {od5 an5 : Option Addr} {sl5 : Array (Option Value)} {oc5 kV5 dc5 pm5 cd5 ct5 : Value}
    {f6 : Addr} {od6 an6 : Option Addr} {sl6 : Array (Option Value)} {oc6 kV6 dc6 pm6 cd6 ct6 : Value}
    {f7 : Addr} {od7 an7 : Option Addr} {sl7 : Array (Option Value)} {oc7 kV7 dc7 pm7 cd7 ct7 : Value}
    {f8 : Addr} {od8 an8 : Option Addr} {sl8 : Array (Option Value)} {oc8 kV8 dc8 pm8 cd8 ct8 : Value}
    {f9 : Addr} {od9 an9 : Option Addr} {sl9 : Array (Option Value)} {oc9 kV9 dc9 pm9 cd9 ct9 : Value}
    {f10 : Addr} {od10 an10 : Option Addr} {sl10 : Array (Option Value)} {oc10 kV10 dc10 pm10 cd10 ct10 : Value}
    {f11 : Addr} {od11 an11 : Option Addr} {sl11 : Array (Option Value)} {oc11 kV11 dc11 pm11 cd11 ct11 : Value}
    {f12 : Addr} {od12 an12 : Option Addr} {sl12 : Array (Option Value)} {oc12 kV12 dc12 pm12 cd12 ct12 : Value}
    {f13 : Addr} {od13 an13 : Option Addr} {sl13 : Array (Option Value)} {oc13 kV13 dc13 pm13 cd13 ct13 : Value}
    {f14 : Addr} {od14 an14 : Option Addr} {sl14 : Array (Option Value)} {oc14 kV14 dc14 pm14 cd14 ct14 : Value}
    {f15 : Addr} {od15 an15 : Option Addr} {sl15 : Array (Option Value)} {oc15 kV15 dc15 pm15 cd15 ct15 : Value}
    {f16 : Addr} {od16 an16 : Option Addr} {sl16 : Array (Option Value)} {oc16 kV16 dc16 pm16 cd16 ct16 : Value}
    {f17 : Addr} {od17 an17 : Option Addr} {sl17 : Array (Option Value)} {oc17 kV17 dc17 pm17 cd17 ct17 : Value}
    {f18 : Addr} {od18 an18 : Option Addr} {sl18 : Array (Option Value)} {oc18 kV18 dc18 pm18 cd18 ct18 : Value}
    {f19 : Addr} {od19 an19 : Option Addr} {sl19 : Array (Option Value)} {oc19 kV19 dc19 pm19 cd19 ct19 : Value}
    {f20 : Addr} {od20 an20 : Option Addr} {sl20 : Array (Option Value)} {oc20 kV20 dc20 pm20 cd20 ct20 : Value}
    {f21 : Addr} {od21 an21 : Option Addr} {sl21 : Array (Option Value)} {oc21 kV21 dc21 pm21 cd21 ct21 : Value}
    {f22 : Addr} {od22 an22 : Option Addr} {sl22 : Array (Option Value)} {oc22 kV22 dc22 pm22 cd22 ct22 : Value}
    {f23 : Addr} {od23 an23 : Option Addr} {sl23 : Array (Option Value)} {oc23 kV23 dc23 pm23 cd23 ct23 : Value}
    {f24 : Addr} {od24 an24 : Option Addr} {sl24 : Array (Option Value)} {oc24 kV24 dc24 pm24 cd24 ct24 : Value}
    {f25 : Addr} {od25 an25 : Option Addr} {sl25 : Array (Option Value)} {oc25 kV25 dc25 pm25 cd25 ct25 : Value}
    {f26 : Addr} {od26 an26 : Option Addr} {sl26 : Array (Option Value)} {oc26 kV26 dc26 pm26 cd26 ct26 : Value}
    {t_LETTERS : Tok}
    {t_DIGITS : Tok}
    {t_MOST_WEIGHT : Tok}
    {t_MOST_OWNERS : Tok}
    {t_MOST_COST : Tok}
    {t_MOST_NUMBER : Tok}
    {t_MOST_USES : Tok}
    {E_BadWear : Addr}
    {E_FoundryError : Addr}
    (a0 : PySem.W.nsIn K mainGlobals "is_whole" = some (some (.ref f0)))
    (l0 : K.lookup f0 = some ⟨oc0, od0, .func (PySem.W.fnOf "is_whole" "is_whole" (defArgs s_is_whole) (defBody s_is_whole) (defScope s_is_whole) .none kV0 dc0 pm0 an0 cd0 ct0), sl0⟩)
    (c0 : PySem.W.codeIn K cd0 "is_whole" = true)
    (k0 : PySem.W.keepIn K (.ref f0) = true)
    (a1 : PySem.W.nsIn K mainGlobals "is_whole_in" = some (some (.ref f1)))
    (l1 : K.lookup f1 = some ⟨oc1, od1, .func (PySem.W.fnOf "is_whole_in" "is_whole_in" (defArgs s_is_whole_in) (defBody s_is_whole_in) (defScope s_is_whole_in) .none kV1 dc1 pm1 an1 cd1 ct1), sl1⟩)
    (c1 : PySem.W.codeIn K cd1 "is_whole_in" = true)
    (k1 : PySem.W.keepIn K (.ref f1) = true)
    (a2 : PySem.W.nsIn K mainGlobals "is_name" = some (some (.ref f2)))
    (l2 : K.lookup f2 = some ⟨oc2, od2, .func (PySem.W.fnOf "is_name" "is_name" (defArgs s_is_name) (defBody s_is_name) (defScope s_is_name) .none kV2 dc2 pm2 an2 cd2 ct2), sl2⟩)
    (c2 : PySem.W.codeIn K cd2 "is_name" = true)
    (k2 : PySem.W.keepIn K (.ref f2) = true)
    (a3 : PySem.W.nsIn K mainGlobals "is_tuple_of" = some (some (.ref f3)))
    (l3 : K.lookup f3 = some ⟨oc3, od3, .func (PySem.W.fnOf "is_tuple_of" "is_tuple_of" (defArgs s_is_tuple_of) (defBody s_is_tuple_of) (defScope s_is_tuple_of) .none kV3 dc3 pm3 an3 cd3 ct3), sl3⟩)
    (c3 : PySem.W.codeIn K cd3 "is_tuple_of" = true)
    (k3 : PySem.W.keepIn K (.ref f3) = true)
    (a4 : PySem.W.nsIn K mainGlobals "check_shares" = some (some (.ref f4)))
    (l4 : K.lookup f4 = some ⟨oc4, od4, .func (PySem.W.fnOf "check_shares" "check_shares" (defArgs s_check_shares) (defBody s_check_shares) (defScope s_check_shares) .none kV4 dc4 pm4 an4 cd4 ct4), sl4⟩)
    (c4 : PySem.W.codeIn K cd4 "check_shares" = true)
    (k4 : PySem.W.keepIn K (.ref f4) = true)
    (a5 : PySem.W.nsIn K mainGlobals "check_cost" = some (some (.ref f5)))
    (l5 : K.lookup f5 = some ⟨oc5, od5, .func (PySem.W.fnOf "check_cost" "check_cost" (defArgs s_check_cost) (defBody s_check_cost) (defScope s_check_cost) .none kV5 dc5 pm5 an5 cd5 ct5), sl5⟩)
    (c5 : PySem.W.codeIn K cd5 "check_cost" = true)
    (k5 : PySem.W.keepIn K (.ref f5) = true)
    (a6 : PySem.W.nsIn K mainGlobals "dues" = some (some (.ref f6)))
    (l6 : K.lookup f6 = some ⟨oc6, od6, .func (PySem.W.fnOf "dues" "dues" (defArgs s_dues) (defBody s_dues) (defScope s_dues) .none kV6 dc6 pm6 an6 cd6 ct6), sl6⟩)
    (c6 : PySem.W.codeIn K cd6 "dues" = true)
    (k6 : PySem.W.keepIn K (.ref f6) = true)
    (a7 : PySem.W.nsIn K mainGlobals "has_weight" = some (some (.ref f7)))
    (l7 : K.lookup f7 = some ⟨oc7, od7, .func (PySem.W.fnOf "has_weight" "has_weight" (defArgs s_has_weight) (defBody s_has_weight) (defScope s_has_weight) .none kV7 dc7 pm7 an7 cd7 ct7), sl7⟩)
    (c7 : PySem.W.codeIn K cd7 "has_weight" = true)
    (k7 : PySem.W.keepIn K (.ref f7) = true)
    (a8 : PySem.W.nsIn K mainGlobals "charge" = some (some (.ref f8)))
    (l8 : K.lookup f8 = some ⟨oc8, od8, .func (PySem.W.fnOf "charge" "charge" (defArgs s_charge) (defBody s_charge) (defScope s_charge) .none kV8 dc8 pm8 an8 cd8 ct8), sl8⟩)
    (c8 : PySem.W.codeIn K cd8 "charge" = true)
    (k8 : PySem.W.keepIn K (.ref f8) = true)
    (a9 : PySem.W.nsIn K mainGlobals "joined_shares" = some (some (.ref f9)))
    (l9 : K.lookup f9 = some ⟨oc9, od9, .func (PySem.W.fnOf "joined_shares" "joined_shares" (defArgs s_joined_shares) (defBody s_joined_shares) (defScope s_joined_shares) .none kV9 dc9 pm9 an9 cd9 ct9), sl9⟩)
    (c9 : PySem.W.codeIn K cd9 "joined_shares" = true)
    (k9 : PySem.W.keepIn K (.ref f9) = true)
    (a10 : PySem.W.nsIn K mainGlobals "check_uses" = some (some (.ref f10)))
    (l10 : K.lookup f10 = some ⟨oc10, od10, .func (PySem.W.fnOf "check_uses" "check_uses" (defArgs s_check_uses) (defBody s_check_uses) (defScope s_check_uses) .none kV10 dc10 pm10 an10 cd10 ct10), sl10⟩)
    (c10 : PySem.W.codeIn K cd10 "check_uses" = true)
    (k10 : PySem.W.keepIn K (.ref f10) = true)
    (a11 : PySem.W.nsIn K mainGlobals "wear_by_owner" = some (some (.ref f11)))
    (l11 : K.lookup f11 = some ⟨oc11, od11, .func (PySem.W.fnOf "wear_by_owner" "wear_by_owner" (defArgs s_wear_by_owner) (defBody s_wear_by_owner) (defScope s_wear_by_owner) .none kV11 dc11 pm11 an11 cd11 ct11), sl11⟩)
    (c11 : PySem.W.codeIn K cd11 "wear_by_owner" = true)
    (k11 : PySem.W.keepIn K (.ref f11) = true)
    (a12 : PySem.W.nsIn K mainGlobals "_law_cell" = some (some (.ref f12)))
    (l12 : K.lookup f12 = some ⟨oc12, od12, .func (PySem.W.fnOf "_law_cell" "_law_cell" (defArgs s__law_cell) (defBody s__law_cell) (defScope s__law_cell) .none kV12 dc12 pm12 an12 cd12 ct12), sl12⟩)
    (c12 : PySem.W.codeIn K cd12 "_law_cell" = true)
    (k12 : PySem.W.keepIn K (.ref f12) = true)
    (a13 : PySem.W.nsIn K mainGlobals "_law_row" = some (some (.ref f13)))
    (l13 : K.lookup f13 = some ⟨oc13, od13, .func (PySem.W.fnOf "_law_row" "_law_row" (defArgs s__law_row) (defBody s__law_row) (defScope s__law_row) .none kV13 dc13 pm13 an13 cd13 ct13), sl13⟩)
    (c13 : PySem.W.codeIn K cd13 "_law_row" = true)
    (k13 : PySem.W.keepIn K (.ref f13) = true)
    (a14 : PySem.W.nsIn K mainGlobals "_law_same_single" = some (some (.ref f14)))
    (l14 : K.lookup f14 = some ⟨oc14, od14, .func (PySem.W.fnOf "_law_same_single" "_law_same_single" (defArgs s__law_same_single) (defBody s__law_same_single) (defScope s__law_same_single) .none kV14 dc14 pm14 an14 cd14 ct14), sl14⟩)
    (c14 : PySem.W.codeIn K cd14 "_law_same_single" = true)
    (k14 : PySem.W.keepIn K (.ref f14) = true)
    (a15 : PySem.W.nsIn K mainGlobals "_law_same" = some (some (.ref f15)))
    (l15 : K.lookup f15 = some ⟨oc15, od15, .func (PySem.W.fnOf "_law_same" "_law_same" (defArgs s__law_same) (defBody s__law_same) (defScope s__law_same) .none kV15 dc15 pm15 an15 cd15 ct15), sl15⟩)
    (c15 : PySem.W.codeIn K cd15 "_law_same" = true)
    (k15 : PySem.W.keepIn K (.ref f15) = true)
    (a16 : PySem.W.nsIn K mainGlobals "_law_names" = some (some (.ref f16)))
    (l16 : K.lookup f16 = some ⟨oc16, od16, .func (PySem.W.fnOf "_law_names" "_law_names" (defArgs s__law_names) (defBody s__law_names) (defScope s__law_names) .none kV16 dc16 pm16 an16 cd16 ct16), sl16⟩)
    (c16 : PySem.W.codeIn K cd16 "_law_names" = true)
    (k16 : PySem.W.keepIn K (.ref f16) = true)
    (a17 : PySem.W.nsIn K mainGlobals "_law_order" = some (some (.ref f17)))
    (l17 : K.lookup f17 = some ⟨oc17, od17, .func (PySem.W.fnOf "_law_order" "_law_order" (defArgs s__law_order) (defBody s__law_order) (defScope s__law_order) .none kV17 dc17 pm17 an17 cd17 ct17), sl17⟩)
    (c17 : PySem.W.codeIn K cd17 "_law_order" = true)
    (k17 : PySem.W.keepIn K (.ref f17) = true)
    (a18 : PySem.W.nsIn K mainGlobals "_law_sums" = some (some (.ref f18)))
    (l18 : K.lookup f18 = some ⟨oc18, od18, .func (PySem.W.fnOf "_law_sums" "_law_sums" (defArgs s__law_sums) (defBody s__law_sums) (defScope s__law_sums) .none kV18 dc18 pm18 an18 cd18 ct18), sl18⟩)
    (c18 : PySem.W.codeIn K cd18 "_law_sums" = true)
    (k18 : PySem.W.keepIn K (.ref f18) = true)
    (a19 : PySem.W.nsIn K mainGlobals "_law_due" = some (some (.ref f19)))
    (l19 : K.lookup f19 = some ⟨oc19, od19, .func (PySem.W.fnOf "_law_due" "_law_due" (defArgs s__law_due) (defBody s__law_due) (defScope s__law_due) .none kV19 dc19 pm19 an19 cd19 ct19), sl19⟩)
    (c19 : PySem.W.codeIn K cd19 "_law_due" = true)
    (k19 : PySem.W.keepIn K (.ref f19) = true)
    (a20 : PySem.W.nsIn K mainGlobals "_law_joined" = some (some (.ref f20)))
    (l20 : K.lookup f20 = some ⟨oc20, od20, .func (PySem.W.fnOf "_law_joined" "_law_joined" (defArgs s__law_joined) (defBody s__law_joined) (defScope s__law_joined) .none kV20 dc20 pm20 an20 cd20 ct20), sl20⟩)
    (c20 : PySem.W.codeIn K cd20 "_law_joined" = true)
    (k20 : PySem.W.keepIn K (.ref f20) = true)
    (a21 : PySem.W.nsIn K mainGlobals "_law_refused" = some (some (.ref f21)))
    (l21 : K.lookup f21 = some ⟨oc21, od21, .func (PySem.W.fnOf "_law_refused" "_law_refused" (defArgs s__law_refused) (defBody s__law_refused) (defScope s__law_refused) .none kV21 dc21 pm21 an21 cd21 ct21), sl21⟩)
    (c21 : PySem.W.codeIn K cd21 "_law_refused" = true)
    (k21 : PySem.W.keepIn K (.ref f21) = true)
    (a22 : PySem.W.nsIn K mainGlobals "_law_shares" = some (some (.ref f22)))
    (l22 : K.lookup f22 = some ⟨oc22, od22, .func (PySem.W.fnOf "_law_shares" "_law_shares" (defArgs s__law_shares) (defBody s__law_shares) (defScope s__law_shares) .none kV22 dc22 pm22 an22 cd22 ct22), sl22⟩)
    (c22 : PySem.W.codeIn K cd22 "_law_shares" = true)
    (k22 : PySem.W.keepIn K (.ref f22) = true)
    (a23 : PySem.W.nsIn K mainGlobals "_law_grouped" = some (some (.ref f23)))
    (l23 : K.lookup f23 = some ⟨oc23, od23, .func (PySem.W.fnOf "_law_grouped" "_law_grouped" (defArgs s__law_grouped) (defBody s__law_grouped) (defScope s__law_grouped) .none kV23 dc23 pm23 an23 cd23 ct23), sl23⟩)
    (c23 : PySem.W.codeIn K cd23 "_law_grouped" = true)
    (k23 : PySem.W.keepIn K (.ref f23) = true)
    (a24 : PySem.W.nsIn K mainGlobals "_law_bounds" = some (some (.ref f24)))
    (l24 : K.lookup f24 = some ⟨oc24, od24, .func (PySem.W.fnOf "_law_bounds" "_law_bounds" (defArgs s__law_bounds) (defBody s__law_bounds) (defScope s__law_bounds) .none kV24 dc24 pm24 an24 cd24 ct24), sl24⟩)
    (c24 : PySem.W.codeIn K cd24 "_law_bounds" = true)
    (k24 : PySem.W.keepIn K (.ref f24) = true)
    (a25 : PySem.W.nsIn K mainGlobals "_law_worn" = some (some (.ref f25)))
    (l25 : K.lookup f25 = some ⟨oc25, od25, .func (PySem.W.fnOf "_law_worn" "_law_worn" (defArgs s__law_worn) (defBody s__law_worn) (defScope s__law_worn) .none kV25 dc25 pm25 an25 cd25 ct25), sl25⟩)
    (c25 : PySem.W.codeIn K cd25 "_law_worn" = true)
    (k25 : PySem.W.keepIn K (.ref f25) = true)
    (a26 : PySem.W.nsIn K mainGlobals "law" = some (some (.ref f26)))
    (l26 : K.lookup f26 = some ⟨oc26, od26, .func (PySem.W.fnOf "law" "law" (defArgs s_law) (defBody s_law) (defScope s_law) .none kV26 dc26 pm26 an26 cd26 ct26), sl26⟩)
    (c26 : PySem.W.codeIn K cd26 "law" = true)
    (k26 : PySem.W.keepIn K (.ref f26) = true)
    (z_isinstance : PySem.W.nsIn K mainGlobals "isinstance" = some none)
    (z_int : PySem.W.nsIn K mainGlobals "int" = some none)
    (z_bool : PySem.W.nsIn K mainGlobals "bool" = some none)
    (z_len : PySem.W.nsIn K mainGlobals "len" = some none)
    (z_str : PySem.W.nsIn K mainGlobals "str" = some none)
    (z_tuple : PySem.W.nsIn K mainGlobals "tuple" = some none)
    (z_divmod : PySem.W.nsIn K mainGlobals "divmod" = some none)
    (z_sum : PySem.W.nsIn K mainGlobals "sum" = some none)
    (z_enumerate : PySem.W.nsIn K mainGlobals "enumerate" = some none)
    (z_sorted : PySem.W.nsIn K mainGlobals "sorted" = some none)
    (z_range : PySem.W.nsIn K mainGlobals "range" = some none)
    (z_abs : PySem.W.nsIn K mainGlobals "abs" = some none)
    (z_list : PySem.W.nsIn K mainGlobals "list" = some none)
    (g_LETTERS : PySem.W.nsIn K mainGlobals "LETTERS" = some (some (.str "abcdefghijklmnopqrstuvwxyz" t_LETTERS)))
    (g_DIGITS : PySem.W.nsIn K mainGlobals "DIGITS" = some (some (.str "0123456789" t_DIGITS)))
    (g_MOST_WEIGHT : PySem.W.nsIn K mainGlobals "MOST_WEIGHT" = some (some (.int (10000000) t_MOST_WEIGHT)))
    (g_MOST_OWNERS : PySem.W.nsIn K mainGlobals "MOST_OWNERS" = some (some (.int (24) t_MOST_OWNERS)))
    (g_MOST_COST : PySem.W.nsIn K mainGlobals "MOST_COST" = some (some (.int (1000000000) t_MOST_COST)))
    (g_MOST_NUMBER : PySem.W.nsIn K mainGlobals "MOST_NUMBER" = some (some (.int (100000) t_MOST_NUMBER)))
    (g_MOST_USES : PySem.W.nsIn K mainGlobals "MOST_USES" = some (some (.int (24) t_MOST_USES)))
    (ee_BadWear : PySem.W.nsIn K mainGlobals "BadWear" = some (some (.ref E_BadWear)))
    (ex_BadWear : PySem.W.excIn K E_BadWear [.type "ValueError", .type "Exception", .type "BaseException", .type "object"] "ValueError.__new__" = true)
    (ek_BadWear : PySem.W.keepIn K (.ref E_BadWear) = true)
    (eb_BadWear : PySem.W.subIn K (.ref E_BadWear) (.type "BaseException") = some true)
    (et_BadWear : PySem.W.typeIn K (.ref E_BadWear) = some (.type "type"))
    (ee_FoundryError : PySem.W.nsIn K mainGlobals "FoundryError" = some (some (.ref E_FoundryError)))
    (xc_BadWear : ExcC K E_BadWear)
    (hd_BadWear : PySem.W.hasDictIn K E_BadWear = true)
    (ht_BadWear : PySem.W.typeIn K (.ref E_BadWear) = some (.type "type"))
    (hs_BadWear : PySem.W.subIn K (.ref E_BadWear) (.type "BaseException") = some true)
    (hd_FoundryError : PySem.W.hasDictIn K E_FoundryError = true)
    (ht_FoundryError : PySem.W.typeIn K (.ref E_FoundryError) = some (.type "type"))
    (hs_FoundryError : PySem.W.subIn K (.ref E_FoundryError) (.type "BaseException") = some true)
    (sb_BadWear_BadWear : PySem.W.subIn K (.ref E_BadWear) (.ref E_BadWear) = some true)
    (sb_BadWear_FoundryError : PySem.W.subIn K (.ref E_BadWear) (.ref E_FoundryError) = some true) :
    ∃ fd : FuncData, (∀ (s : Shared) (v : Value), BindsTo s fd ⟨[v], []⟩ [("script", v)]) ∧ ∀ base : Heap, K.In base → base.Ns mainGlobals mg → FnOk l.prog w K mg base (L2.CX l.prog w) 7 fa fd ["script"] (spLaw K) := by
  have e := hfa.symm.trans (PySem.W.mg_of X G a26)
  cases e
  have F0 := fun_mk (st := s_is_whole) l0 c0 k0
  have b0 := F0.binds (ps := ["value"]) fun _ _ _ _ _ _ us hl => match us, hl with | [_], _ => rfl
  have F1 := fun_mk (st := s_is_whole_in) l1 c1 k1
  have b1 := F1.binds (ps := ["value", "low", "high"]) fun _ _ _ _ _ _ us hl => match us, hl with | [_, _, _], _ => rfl
  have F2 := fun_mk (st := s_is_name) l2 c2 k2
  have b2 := F2.binds (ps := ["value"]) fun _ _ _ _ _ _ us hl => match us, hl with | [_], _ => rfl
  have F3 := fun_mk (st := s_is_tuple_of) l3 c3 k3
  have b3 := F3.binds (ps := ["value", "low", "high"]) fun _ _ _ _ _ _ us hl => match us, hl with | [_, _, _], _ => rfl
  have F4 := fun_mk (st := s_check_shares) l4 c4 k4
  have b4 := F4.binds (ps := ["shares"]) fun _ _ _ _ _ _ us hl => match us, hl with | [_], _ => rfl
  have F5 := fun_mk (st := s_check_cost) l5 c5 k5
  have b5 := F5.binds (ps := ["cost"]) fun _ _ _ _ _ _ us hl => match us, hl with | [_], _ => rfl
  have F6 := fun_mk (st := s_dues) l6 c6 k6
  have b6 := F6.binds (ps := ["shares", "cost"]) fun _ _ _ _ _ _ us hl => match us, hl with | [_, _], _ => rfl
  have F7 := fun_mk (st := s_has_weight) l7 c7 k7
  have b7 := F7.binds (ps := ["shares"]) fun _ _ _ _ _ _ us hl => match us, hl with | [_], _ => rfl
  have F8 := fun_mk (st := s_charge) l8 c8 k8
  have b8 := F8.binds (ps := ["shares", "cost"]) fun _ _ _ _ _ _ us hl => match us, hl with | [_, _], _ => rfl
  have F9 := fun_mk (st := s_joined_shares) l9 c9 k9
  have b9 := F9.binds (ps := ["first", "second"]) fun _ _ _ _ _ _ us hl => match us, hl with | [_, _], _ => rfl
  have F10 := fun_mk (st := s_check_uses) l10 c10 k10
  have b10 := F10.binds (ps := ["uses"]) fun _ _ _ _ _ _ us hl => match us, hl with | [_], _ => rfl
  have F11 := fun_mk (st := s_wear_by_owner) l11 c11 k11
  have b11 := F11.binds (ps := ["uses"]) fun _ _ _ _ _ _ us hl => match us, hl with | [_], _ => rfl
  have F12 := fun_mk (st := s__law_cell) l12 c12 k12
  have b12 := F12.binds (ps := ["script", "k"]) fun _ _ _ _ _ _ us hl => match us, hl with | [_, _], _ => rfl
  have F13 := fun_mk (st := s__law_row) l13 c13 k13
  have b13 := F13.binds (ps := ["script", "place", "count", "limit"]) fun _ _ _ _ _ _ us hl => match us, hl with | [_, _, _, _], _ => rfl
  have F14 := fun_mk (st := s__law_same_single) l14 c14 k14
  have b14 := F14.binds (ps := ["actual", "due"]) fun _ _ _ _ _ _ us hl => match us, hl with | [_, _], _ => rfl
  have F15 := fun_mk (st := s__law_same) l15 c15 k15
  have b15 := F15.binds (ps := ["actual", "due"]) fun _ _ _ _ _ _ us hl => match us, hl with | [_, _], _ => rfl
  have F16 := fun_mk (st := s__law_names) l16 c16 k16
  have b16 := F16.binds (ps := ["script", "place", "count"]) fun _ _ _ _ _ _ us hl => match us, hl with | [_, _, _], _ => rfl
  have F17 := fun_mk (st := s__law_order) l17 c17 k17
  have b17 := F17.binds (ps := ["draws"]) fun _ _ _ _ _ _ us hl => match us, hl with | [_], _ => rfl
  have F18 := fun_mk (st := s__law_sums) l18 c18 k18
  have b18 := F18.binds (ps := ["pairs"]) fun _ _ _ _ _ _ us hl => match us, hl with | [_], _ => rfl
  have F19 := fun_mk (st := s__law_due) l19 c19 k19
  have b19 := F19.binds (ps := ["shares", "cost"]) fun _ _ _ _ _ _ us hl => match us, hl with | [_, _], _ => rfl
  have F20 := fun_mk (st := s__law_joined) l20 c20 k20
  have b20 := F20.binds (ps := ["first", "second"]) fun _ _ _ _ _ _ us hl => match us, hl with | [_, _], _ => rfl
  have F21 := fun_mk (st := s__law_refused) l21 c21 k21
  have b21 := F21.binds (ps := ["first", "second"]) fun _ _ _ _ _ _ us hl => match us, hl with | [_, _], _ => rfl
  have F22 := fun_mk (st := s__law_shares) l22 c22 k22
  have b22 := F22.binds (ps := ["script", "place", "names", "limit"]) fun _ _ _ _ _ _ us hl => match us, hl with | [_, _, _, _], _ => rfl
  have F23 := fun_mk (st := s__law_grouped) l23 c23 k23
  have b23 := F23.binds (ps := ["a", "b", "c"]) fun _ _ _ _ _ _ us hl => match us, hl with | [_, _, _], _ => rfl
  have F24 := fun_mk (st := s__law_bounds) l24 c24 k24
  have b24 := F24.binds (ps := ["names", "a", "b", "draws"]) fun _ _ _ _ _ _ us hl => match us, hl with | [_, _, _, _], _ => rfl
  have F25 := fun_mk (st := s__law_worn) l25 c25 k25
  have b25 := F25.binds (ps := ["script", "names", "cost"]) fun _ _ _ _ _ _ us hl => match us, hl with | [_, _, _], _ => rfl
  have F26 := fun_mk (st := s_law) l26 c26 k26
  have b26 := F26.binds (ps := ["script"]) fun _ _ _ _ _ _ us hl => match us, hl with | [_], _ => rfl
  refine ⟨PySem.W.fnOf "law" "law" (defArgs s_law) (defBody s_law) (defScope s_law) .none kV26 dc26 pm26 an26 cd26 ct26, fun s v => .of_eq rfl, fun base _ _ => ?_⟩
  have K_BadWear : Err K mg "BadWear" := ⟨_, ex_BadWear, PySem.W.mg_of X G ee_BadWear, ek_BadWear, eb_BadWear, et_BadWear⟩
  have xm_BadWear_BadWear := PySem.W.exm_ref hs_BadWear hd_BadWear ht_BadWear sb_BadWear_BadWear
  have xk_BadWear_FoundryError := kit_own hd_FoundryError ht_FoundryError sb_BadWear_FoundryError
  have G_is_whole : Known l.prog w K mg base "is_whole" ["value"] 1 d_is_whole := ⟨_, _, ok_is_whole (P := l.prog) (w := w) (base := base) F0 (PySem.W.mg_none_of X G z_isinstance) (PySem.W.mg_none_of X G z_int) (PySem.W.mg_none_of X G z_bool), PySem.W.mg_of X G a0, k0, b0⟩
  have G_is_whole_in : Known l.prog w K mg base "is_whole_in" ["value", "low", "high"] 2 d_is_whole_in := ⟨_, _, ok_is_whole_in (P := l.prog) (w := w) (base := base) F1 G_is_whole, PySem.W.mg_of X G a1, k1, b1⟩
  have G_is_name : Known l.prog w K mg base "is_name" ["value"] 1 d_is_name := ⟨_, _, ok_is_name (P := l.prog) (w := w) (base := base) F2 (PySem.W.mg_none_of X G z_len) (PySem.W.mg_none_of X G z_isinstance) (PySem.W.mg_none_of X G z_str) (PySem.W.mg_of X G g_LETTERS) (PySem.W.mg_of X G g_DIGITS), PySem.W.mg_of X G a2, k2, b2⟩
  have G_is_tuple_of : Known l.prog w K mg base "is_tuple_of" ["value", "low", "high"] 1 d_is_tuple_of := ⟨_, _, ok_is_tuple_of (P := l.prog) (w := w) (base := base) F3 (PySem.W.mg_none_of X G z_isinstance) (PySem.W.mg_none_of X G z_tuple) (PySem.W.mg_none_of X G z_len), PySem.W.mg_of X G a3, k3, b3⟩
  have G_check_shares : Known l.prog w K mg base "check_shares" ["shares"] 3 d_check_shares := ⟨_, _, ok_check_shares (P := l.prog) (w := w) (base := base) F4 G_is_whole_in G_is_name G_is_tuple_of (PySem.W.mg_of X G g_MOST_WEIGHT) (PySem.W.mg_of X G g_MOST_OWNERS) K_BadWear, PySem.W.mg_of X G a4, k4, b4⟩
  have G_check_cost : Known l.prog w K mg base "check_cost" ["cost"] 3 d_check_cost := ⟨_, _, ok_check_cost (P := l.prog) (w := w) (base := base) F5 G_is_whole_in (PySem.W.mg_of X G g_MOST_COST) K_BadWear, PySem.W.mg_of X G a5, k5, b5⟩
  have G_dues : Known l.prog w K mg base "dues" ["shares", "cost"] 1 d_dues := ⟨_, _, ok_dues (P := l.prog) (w := w) (base := base) F6 (PySem.W.mg_none_of X G z_divmod) (PySem.W.mg_none_of X G z_sum), PySem.W.mg_of X G a6, k6, b6⟩
  have G_has_weight : Known l.prog w K mg base "has_weight" ["shares"] 1 d_has_weight := ⟨_, _, ok_has_weight (P := l.prog) (w := w) (base := base) F7 (PySem.W.mg_none_of X G z_sum), PySem.W.mg_of X G a7, k7, b7⟩
  have G_charge : Known l.prog w K mg base "charge" ["shares", "cost"] 4 d_charge := ⟨_, _, ok_charge (P := l.prog) (w := w) (base := base) F8 G_dues G_has_weight G_check_cost G_check_shares (PySem.W.mg_none_of X G z_enumerate) (PySem.W.mg_none_of X G z_tuple) (PySem.W.mg_none_of X G z_sorted) (PySem.W.mg_none_of X G z_sum), PySem.W.mg_of X G a8, k8, b8⟩
  have G_joined_shares : Known l.prog w K mg base "joined_shares" ["first", "second"] 4 d_joined_shares := ⟨_, _, ok_joined_shares (P := l.prog) (w := w) (base := base) F9 G_check_shares (PySem.W.mg_none_of X G z_sorted) (PySem.W.mg_none_of X G z_tuple), PySem.W.mg_of X G a9, k9, b9⟩
  have G_check_uses : Known l.prog w K mg base "check_uses" ["uses"] 3 d_check_uses := ⟨_, _, ok_check_uses (P := l.prog) (w := w) (base := base) F10 G_is_whole_in G_is_name G_is_tuple_of (PySem.W.mg_of X G g_MOST_NUMBER) (PySem.W.mg_of X G g_MOST_USES) K_BadWear, PySem.W.mg_of X G a10, k10, b10⟩
  have G_wear_by_owner : Known l.prog w K mg base "wear_by_owner" ["uses"] 4 d_wear_by_owner := ⟨_, _, ok_wear_by_owner (P := l.prog) (w := w) (base := base) F11 G_check_uses (PySem.W.mg_none_of X G z_sorted) (PySem.W.mg_none_of X G z_tuple), PySem.W.mg_of X G a11, k11, b11⟩
  have G__law_cell : Known l.prog w K mg base "_law_cell" ["script", "k"] 1 d__law_cell := ⟨_, _, ok__law_cell (P := l.prog) (w := w) (base := base) F12 (PySem.W.mg_none_of X G z_len) (PySem.W.mg_none_of X G z_int), PySem.W.mg_of X G a12, k12, b12⟩
  have G__law_row : Known l.prog w K mg base "_law_row" ["script", "place", "count", "limit"] 1 d__law_row := ⟨_, _, ok__law_row (P := l.prog) (w := w) (base := base) F13 (PySem.W.mg_none_of X G z_range) (PySem.W.mg_none_of X G z_int) (PySem.W.mg_none_of X G z_len) (PySem.W.mg_none_of X G z_abs), PySem.W.mg_of X G a13, k13, b13⟩
  have G__law_same_single : Known l.prog w K mg base "_law_same_single" ["actual", "due"] 1 d__law_same_single := ⟨_, _, ok__law_same_single (P := l.prog) (w := w) (base := base) F14 (PySem.W.mg_none_of X G z_isinstance) (PySem.W.mg_none_of X G z_str) (PySem.W.mg_none_of X G z_int) (PySem.W.mg_none_of X G z_bool), PySem.W.mg_of X G a14, k14, b14⟩
  have G__law_same : Known l.prog w K mg base "_law_same" ["actual", "due"] 2 d__law_same := ⟨_, _, ok__law_same (P := l.prog) (w := w) (base := base) F15 G__law_same_single (PySem.W.mg_none_of X G z_range) (PySem.W.mg_none_of X G z_isinstance) (PySem.W.mg_none_of X G z_tuple) (PySem.W.mg_none_of X G z_len), PySem.W.mg_of X G a15, k15, b15⟩
  have G__law_names : Known l.prog w K mg base "_law_names" ["script", "place", "count"] 2 d__law_names := ⟨_, _, ok__law_names (P := l.prog) (w := w) (base := base) F16 G__law_row (PySem.W.mg_none_of X G z_range) (PySem.W.mg_none_of X G z_int), PySem.W.mg_of X G a16, k16, b16⟩
  have G__law_order : Known l.prog w K mg base "_law_order" ["draws"] 1 d__law_order := ⟨_, _, ok__law_order (P := l.prog) (w := w) (base := base) F17 (PySem.W.mg_none_of X G z_tuple) (PySem.W.mg_none_of X G z_len) (PySem.W.mg_none_of X G z_range) (PySem.W.mg_none_of X G z_int) (PySem.W.mg_none_of X G z_list), PySem.W.mg_of X G a17, k17, b17⟩
  have G__law_sums : Known l.prog w K mg base "_law_sums" ["pairs"] 1 d__law_sums := ⟨_, _, ok__law_sums (P := l.prog) (w := w) (base := base) F18 (PySem.W.mg_none_of X G z_sorted) (PySem.W.mg_none_of X G z_tuple), PySem.W.mg_of X G a18, k18, b18⟩
  have G__law_due : Known l.prog w K mg base "_law_due" ["shares", "cost"] 1 d__law_due := ⟨_, _, ok__law_due (P := l.prog) (w := w) (base := base) F19 (PySem.W.mg_none_of X G z_tuple) (PySem.W.mg_none_of X G z_len) (PySem.W.mg_none_of X G z_range) (PySem.W.mg_none_of X G z_int) (PySem.W.mg_none_of X G z_sum), PySem.W.mg_of X G a19, k19, b19⟩
  have G__law_joined : Known l.prog w K mg base "_law_joined" ["first", "second"] 5 d__law_joined := ⟨_, _, ok__law_joined (P := l.prog) (w := w) (base := base) F20 G_joined_shares (PySem.W.mg_of X G ee_BadWear) xm_BadWear_BadWear, PySem.W.mg_of X G a20, k20, b20⟩
  have G__law_refused : Known l.prog w K mg base "_law_refused" ["first", "second"] 5 d__law_refused := ⟨_, _, ok__law_refused (P := l.prog) (w := w) (base := base) F21 G_joined_shares (PySem.W.mg_none_of X G z_isinstance) (PySem.W.mg_of X G ee_BadWear) (PySem.W.mg_of X G ee_FoundryError) xc_BadWear xm_BadWear_BadWear xk_BadWear_FoundryError, PySem.W.mg_of X G a21, k21, b21⟩
  have G__law_shares : Known l.prog w K mg base "_law_shares" ["script", "place", "names", "limit"] 2 d__law_shares := ⟨_, _, ok__law_shares (P := l.prog) (w := w) (base := base) F22 G__law_order G__law_row (PySem.W.mg_none_of X G z_tuple) (PySem.W.mg_none_of X G z_int), PySem.W.mg_of X G a22, k22, b22⟩
  have G__law_grouped : Known l.prog w K mg base "_law_grouped" ["a", "b", "c"] 6 d__law_grouped := ⟨_, _, ok__law_grouped (P := l.prog) (w := w) (base := base) F23 G__law_same G__law_joined G__law_sums, PySem.W.mg_of X G a23, k23, b23⟩
  have G__law_bounds : Known l.prog w K mg base "_law_bounds" ["names", "a", "b", "draws"] 6 d__law_bounds := ⟨_, _, ok__law_bounds (P := l.prog) (w := w) (base := base) F24 G__law_same G__law_joined G__law_sums G__law_refused (PySem.W.mg_none_of X G z_int) (PySem.W.mg_none_of X G z_tuple), PySem.W.mg_of X G a24, k24, b24⟩
  have G__law_worn : Known l.prog w K mg base "_law_worn" ["script", "names", "cost"] 6 d__law_worn := ⟨_, _, ok__law_worn (P := l.prog) (w := w) (base := base) F25 G__law_same G__law_due G_charge G_wear_by_owner G__law_sums G__law_joined G__law_row (PySem.W.mg_none_of X G z_range) (PySem.W.mg_none_of X G z_int) (PySem.W.mg_none_of X G z_tuple), PySem.W.mg_of X G a25, k25, b25⟩
  exact law_fn hp (ok_law (P := l.prog) (w := w) (base := base) F26 G__law_worn G__law_bounds G__law_grouped G__law_row G__law_shares G__law_names G__law_cell (PySem.W.mg_none_of X G z_int) (PySem.W.mg_none_of X G z_abs))
end Law
open PySem PySem.W PyProof.Rows
set_option maxHeartbeats 0 in
theorem PySem.Challenge.cw_typefoundry_k67_shares_joined_holds : PySem.Challenge.rw_typefoundry_k67_shares_joined.Holds := by
  w_on; o_law; k_head; (case hw => w_witness2)
  k_fill
  refine Dn.walk (l := PySem.Challenge.rw_typefoundry_k67_shares_joined) 7 rfl ⟨rfl, by decide, by decide⟩ rfl (fun w h Y => PySem.W.kIn_of Y) ?F
  case F =>
    intro w mg fa h KX G hmg
    refine' Law.all_mk Law.law_true KX G hmg ?a0 ?l0 ?c0 ?k0 ?a1 ?l1 ?c1 ?k1 ?a2 ?l2 ?c2 ?k2 ?a3 ?l3 ?c3 ?k3 ?a4 ?l4 ?c4 ?k4 ?a5 ?l5 ?c5 ?k5 ?a6 ?l6 ?c6 ?k6 ?a7 ?l7 ?c7 ?k7 ?a8 ?l8 ?c8 ?k8 ?a9 ?l9 ?c9 ?k9 ?a10 ?l10 ?c10 ?k10 ?a11 ?l11 ?c11 ?k11 ?a12 ?l12 ?c12 ?k12 ?a13 ?l13 ?c13 ?k13 ?a14 ?l14 ?c14 ?k14 ?a15 ?l15 ?c15 ?k15 ?a16 ?l16 ?c16 ?k16 ?a17 ?l17 ?c17 ?k17 ?a18 ?l18 ?c18 ?k18 ?a19 ?l19 ?c19 ?k19 ?a20 ?l20 ?c20 ?k20 ?a21 ?l21 ?c21 ?k21 ?a22 ?l22 ?c22 ?k22 ?a23 ?l23 ?c23 ?k23 ?a24 ?l24 ?c24 ?k24 ?a25 ?l25 ?c25 ?k25 ?a26 ?l26 ?c26 ?k26 ?z_isinstance ?z_int ?z_bool ?z_len ?z_str ?z_tuple ?z_divmod ?z_sum ?z_enumerate ?z_sorted ?z_range ?z_abs ?z_list ?g_LETTERS ?g_DIGITS ?g_MOST_WEIGHT ?g_MOST_OWNERS ?g_MOST_COST ?g_MOST_NUMBER ?g_MOST_USES ?ee_BadWear ?ex_BadWear ?ek_BadWear ?eb_BadWear ?et_BadWear ?ee_FoundryError ?xc_BadWear ?hd_BadWear ?ht_BadWear ?hs_BadWear ?hd_FoundryError ?ht_FoundryError ?hs_FoundryError ?sb_BadWear_BadWear ?sb_BadWear_FoundryError
    (case a0 => k_is)
    (case l0 => k_is)
    (case c0 => k_is)
    (case k0 => k_is)
    (case a1 => k_is)
    (case l1 => k_is)
    (case c1 => k_is)
    (case k1 => k_is)
    (case a2 => k_is)
    (case l2 => k_is)
    (case c2 => k_is)
    (case k2 => k_is)
    (case a3 => k_is)
    (case l3 => k_is)
    (case c3 => k_is)
    (case k3 => k_is)
    (case a4 => k_is)
    (case l4 => k_is)
    (case c4 => k_is)
    (case k4 => k_is)
    (case a5 => k_is)
    (case l5 => k_is)
    (case c5 => k_is)
    (case k5 => k_is)
    (case a6 => k_is)
    (case l6 => k_is)
    (case c6 => k_is)
    (case k6 => k_is)
    (case a7 => k_is)
    (case l7 => k_is)
    (case c7 => k_is)
    (case k7 => k_is)
    (case a8 => k_is)
    (case l8 => k_is)
    (case c8 => k_is)
    (case k8 => k_is)
    (case a9 => k_is)
    (case l9 => k_is)
    (case c9 => k_is)
    (case k9 => k_is)
    (case a10 => k_is)
    (case l10 => k_is)
    (case c10 => k_is)
    (case k10 => k_is)
    (case a11 => k_is)
    (case l11 => k_is)
    (case c11 => k_is)
    (case k11 => k_is)
    (case a12 => k_is)
    (case l12 => k_is)
    (case c12 => k_is)
    (case k12 => k_is)
    (case a13 => k_is)
    (case l13 => k_is)
    (case c13 => k_is)
    (case k13 => k_is)
    (case a14 => k_is)
    (case l14 => k_is)
    (case c14 => k_is)
    (case k14 => k_is)
    (case a15 => k_is)
    (case l15 => k_is)
    (case c15 => k_is)
    (case k15 => k_is)
    (case a16 => k_is)
    (case l16 => k_is)
    (case c16 => k_is)
    (case k16 => k_is)
    (case a17 => k_is)
    (case l17 => k_is)
    (case c17 => k_is)
    (case k17 => k_is)
    (case a18 => k_is)
    (case l18 => k_is)
    (case c18 => k_is)
    (case k18 => k_is)
    (case a19 => k_is)
    (case l19 => k_is)
    (case c19 => k_is)
    (case k19 => k_is)
    (case a20 => k_is)
    (case l20 => k_is)
    (case c20 => k_is)
    (case k20 => k_is)
    (case a21 => k_is)
    (case l21 => k_is)
    (case c21 => k_is)
    (case k21 => k_is)
    (case a22 => k_is)
    (case l22 => k_is)
    (case c22 => k_is)
    (case k22 => k_is)
    (case a23 => k_is)
    (case l23 => k_is)
    (case c23 => k_is)
    (case k23 => k_is)
    (case a24 => k_is)
    (case l24 => k_is)
    (case c24 => k_is)
    (case k24 => k_is)
    (case a25 => k_is)
    (case l25 => k_is)
    (case c25 => k_is)
    (case k25 => k_is)
    (case a26 => k_is)
    (case l26 => k_is)
    (case c26 => k_is)
    (case k26 => k_is)
    (case z_isinstance => k_is)
    (case z_int => k_is)
    (case z_bool => k_is)
    (case z_len => k_is)
    (case z_str => k_is)
    (case z_tuple => k_is)
    (case z_divmod => k_is)
    (case z_sum => k_is)
    (case z_enumerate => k_is)
    (case z_sorted => k_is)
    (case z_range => k_is)
    (case z_abs => k_is)
    (case z_list => k_is)
    (case g_LETTERS => k_is)
    (case g_DIGITS => k_is)
    (case g_MOST_WEIGHT => k_is)
    (case g_MOST_OWNERS => k_is)
    (case g_MOST_COST => k_is)
    (case g_MOST_NUMBER => k_is)
    (case g_MOST_USES => k_is)
    (case ee_BadWear => k_is)
    (case ex_BadWear => k_exc)
    (case ek_BadWear => k_is)
    (case eb_BadWear => k_is)
    (case et_BadWear => k_is)
    (case ee_FoundryError => k_is)
    (case xc_BadWear => exact ⟨by k_is, by k_is, by k_is, by k_is, by k_is, by k_is, by k_is, by k_is⟩)
    (case hd_BadWear => k_is)
    (case ht_BadWear => k_is)
    (case hs_BadWear => k_is)
    (case hd_FoundryError => k_is)
    (case ht_FoundryError => k_is)
    (case hs_FoundryError => k_is)
    (case sb_BadWear_BadWear => k_is)
    (case sb_BadWear_FoundryError => k_is)
