import PyProof.Rows.All
import PyProof.ConsumeS
import PyProof.WalkInts
import PyProof.Rows.MinMaxN
import HandS.ForMost
import HandS.ForExc
import HandS.IsInst
import HandS.Wide
import HandS.Gcd
import HandS.TupAny
import HandS.StrMore
import HandS.ExcIs
import HandS.TryOnly
import HandS.Text
import HandS.Replace
import HandS.SortKw
import HandS.TupMul
import PyProof.StrBlock2
import HandS.Style
import HandS.Rev
import HandS.Zip
import HandS.WideBits
import KE.DataMinMax
import KE.DataCmp
import KE.SortData
import KE.GoesMore
import HandS.More
import HandS.Conv
import HandS.DictTup
import HandS.ListItems
import PySem.Challenge.RW_typefoundry_k54_letters_of_many_words
set_option Elab.async false
set_option linter.all false
set_option maxRecDepth 100000
/-! Dx1: min and max of a list of whole numbers, with default= -/
namespace PySem
section
variable {prog : Program} {w : World} {A : Around} {E : Value → Shared → Prop} {s : Shared}
theorem call_tree_kw {id : String} {b : Builtin} {us : List Value} {kw : List (Str × Value)} {Q : Value → Shared → Prop} (hk : builtinKind id = none) (hp : plainId id = true) (hb : entryFor table id = some b) (ha : argsOk id ⟨us, kw⟩)
    (q : wpAny (model prog w) A.in1 (b ⟨us, kw⟩) (fun fin z => match fin with
      | .done f => (match (Except.ok f : Result) with | .ok (.ret v) => Q v z | .ok _ => False | .error e => E e z)
      | .again c' => c'.quiet = true ∧ codeAny (model prog w) A c' (fun r y => match r with | .ok (.ret v) => Q v y | .ok _ => False | .error e => E e y) z) E s) : wpAny (model prog w) A (call (.builtin id) us kw) Q E s := by
  refine wpAny_call (codeAny_call_builtin hp hb ?_)
  simp only [checkBuiltinCall, hk]
  cases sg : Manifest.signature? id with
  | none => exact wpAny_pure q
  | some g =>
    simp only [argsOk, sg] at ha
    have e2 : Bind.checkArgs id g ⟨us, kw⟩ = pure () := ha
    show wpAny _ _ (Bind.checkArgs id g ⟨us, kw⟩) _ _ _
    rw [e2]
    exact wpAny_pure q
end
section
variable {prog : Program} {w : World} {A : Around} {R : Result → Shared → Prop} {I : Addr} {fp wr : List Addr} {G : Array GenState → Array GenState → Prop} {n : Nat} {P : Nat → Value → Prop} {St : Nat → Shared → Prop} {kw : List (Str × Value)}
theorem dmin_loop (W : WalksS prog w A.in1 I fp wr G n P St) (bt : Nat → Nat → Bool) (hcmp : CmpOf prog w A.in1 .Lt P bt) (S : Addr) (out : S ∉ fp) (fuel : Nat) :
    ∀ (j : Nat) (s : Shared) (x : Value) (c : Nat), n - (j + 1) = fuel → j + 1 ≤ n → St (j + 1) s → P (argBest bt j) x → s.heap.get? S = some { cls := .type "list", dict := none, data := .seq #[x, x] c, slots := #[] } →
    (∀ y z, P (argBest bt (n - 1)) y → Moved (S :: wr) G s z → R (.ok (.ret y)) z) → codeAny (model prog w) A (.builtin "min.loop" ⟨[.ref I, .none, .ref S], kw⟩) R s := by
  have inw : S ∉ wr := fun z => out (W.sub _ z)
  have ne : ∀ {b : Addr}, b ∉ S :: wr → S ≠ b := fun {b} z e => z (e ▸ List.mem_cons_self ..)
  have more : ∀ b ∈ wr, b ∈ S :: wr := fun b z => List.mem_cons_of_mem _ z
  have nm : (toString "min" ++ toString ".loop" : String) = "min.loop" := by decide
  induction fuel with
  | zero =>
    intro j s x c e1 e2 st px hS k
    have en : j + 1 = n := by omega
    refine codeAny_builtin F.entry_min_loop ?_
    rw [Around.under_plainId F.plain_min_loop _]
    show wpAny _ A.in1 (seqItems? (.ref S) >>= _) _ _ _
    refine wpAny_bind (wpAny_seqItems hS (by rfl) ?_)
    show wpAny _ A.in1 (tryCatch (pyNext (.ref I)) _ >>= _) _ _ _
    refine wpAny_bind (wpAny_tryCatch (W.done s _ _ (en ▸ st) fun z mv => ?_))
    have hz := mv.heap S _ inw hS
    show wpAny _ A.in1 (updateSeq S (fun _ => #[]) >>= _) _ _ _
    exact wpAny_bind (wpAny_updateSeq hz rfl (wpAny_bind (wpAny_letGo (wpAny_pure (k x _ (by rw [← en]; exact px) ((mv.mono more).then_heap (tk := z.toks) (Nat.le_refl _) fun b o q e => (Heap.get?_update_other _ _ (ne q)).trans e))))))
  | succ fuel ih =>
    intro j s x c e1 e2 st px hS k
    have lt : j + 1 < n := by omega
    refine codeAny_builtin F.entry_min_loop ?_
    rw [Around.under_plainId F.plain_min_loop _]
    show wpAny _ A.in1 (seqItems? (.ref S) >>= _) _ _ _
    refine wpAny_bind (wpAny_seqItems hS (by rfl) ?_)
    show wpAny _ A.in1 (tryCatch (pyNext (.ref I)) _ >>= _) _ _ _
    refine wpAny_bind (wpAny_tryCatch (W.item (j + 1) s _ _ lt st fun y z py st2 mv => ?_))
    have hz := mv.heap S _ inw hS
    show wpAny _ A.in1 (tryCatch (holding [y, y] (richCompare .Lt y x >>= _)) _ >>= _) _ _ _
    refine wpAny_bind (wpAny_tryCatch (wpAny_holding (wpAny_bind (hcmp (j + 1) (argBest bt j) y x _ _ _ py px ?_))))
    refine wpAny_bind (wpAny_holding (wpAny_truthy_bool (wpAny_bind (wpAny_letGo (wpAny_pure ?_)))))
    cases hb : bt (j + 1) (argBest bt j) with
    | true =>
      simp only [if_true]
      refine wpAny_bind (wpAny_updateSeq hz rfl (wpAny_bind (wpAny_letGo ?_)))
      rw [nm]
      refine wpAny_pure ⟨plainId_quiet F.plain_min_loop _, ih (j + 1) _ y _ (by omega) lt (W.frame _ z _ z.toks st2 (Nat.le_refl _) fun b q o e => ?_) (by simp only [argBest, hb, if_true]; exact py) (Heap.get?_update_self _ hz rfl) fun y2 z2 p2 mv2 => ?_⟩
      · exact (Heap.get?_update_other _ _ (fun g : S = b => out (g ▸ q))).trans e
      · exact k y2 z2 p2 (Moved.trans W.gtrans ((mv.mono more).then_heap (tk := z.toks) (Nat.le_refl _) fun b o q e => (Heap.get?_update_other _ _ (ne q)).trans e) mv2)
    | false =>
      simp only [Bool.false_eq_true, if_false]
      refine wpAny_bind (wpAny_letGo ?_)
      rw [nm]
      exact wpAny_pure ⟨plainId_quiet F.plain_min_loop _, ih (j + 1) _ x c (by omega) lt st2 (by simp only [argBest, hb, Bool.false_eq_true, if_false]; exact px) hz fun y2 z2 p2 mv2 => k y2 z2 p2 (Moved.trans W.gtrans (mv.mono more) mv2)⟩
theorem dmin_from (W : WalksS prog w A.in1 I fp wr G n P St) (bt : Nat → Nat → Bool) (hcmp : CmpOf prog w A.in1 .Lt P bt) (S : Addr) (out : S ∉ fp) {d : Value} {s : Shared} {c : Nat} (st : St 0 s) (hS : s.heap.get? S = some { cls := .type "list", dict := none, data := .seq #[] c, slots := #[] })
    (k0 : n = 0 → ∀ z, Moved (S :: wr) G s z → R (.ok (.ret d)) z) (k : 0 < n → ∀ y z, P (argBest bt (n - 1)) y → Moved (S :: wr) G s z → R (.ok (.ret y)) z) :
    codeAny (model prog w) A (.builtin "min.loop" ⟨[.ref I, .none, .ref S], [(Str.ofString "default", d)]⟩) R s := by
  have inw : S ∉ wr := fun z => out (W.sub _ z)
  have ne : ∀ {b : Addr}, b ∉ S :: wr → S ≠ b := fun {b} z e => z (e ▸ List.mem_cons_self ..)
  have more : ∀ b ∈ wr, b ∈ S :: wr := fun b z => List.mem_cons_of_mem _ z
  have nm : (toString "min" ++ toString ".loop" : String) = "min.loop" := by decide
  refine codeAny_builtin F.entry_min_loop (by
    rw [Around.under_plainId F.plain_min_loop _]
    show wpAny _ A.in1 (seqItems? (.ref S) >>= _) _ _ _
    refine wpAny_bind (wpAny_seqItems hS (by rfl) ?_)
    show wpAny _ A.in1 (tryCatch (pyNext (.ref I)) _ >>= _) _ _ _
    rcases Nat.eq_zero_or_pos n with e0 | lt
    · refine wpAny_bind (wpAny_tryCatch (W.done s _ _ (e0 ▸ st) fun z mv => ?_))
      exact wpAny_bind (wpAny_rule (wpAny_pure (k0 e0 z (mv.mono more))))
    · refine wpAny_bind (wpAny_tryCatch (W.item 0 s _ _ lt st fun y z py st2 mv => ?_))
      have hz := mv.heap S _ inw hS
      show wpAny _ A.in1 (updateSeq S (fun _ => #[y, y]) >>= _) _ _ _
      refine wpAny_bind (wpAny_updateSeq hz rfl ?_)
      rw [nm]
      refine wpAny_pure ⟨plainId_quiet F.plain_min_loop _, dmin_loop W bt hcmp S out _ 0 _ y _ rfl lt (W.frame _ z _ z.toks st2 (Nat.le_refl _) fun b q o e => ?_) py (Heap.get?_update_self _ hz rfl) fun y2 z2 p2 mv2 => ?_⟩
      · exact (Heap.get?_update_other _ _ (fun g : S = b => out (g ▸ q))).trans e
      · exact k lt y2 z2 p2 (Moved.trans W.gtrans ((mv.mono more).then_heap (tk := z.toks) (Nat.le_refl _) fun b o q e => (Heap.get?_update_other _ _ (ne q)).trans e) mv2))
theorem dargs_min (a d : Value) : argsOk "min" ⟨[a], [(Str.ofString "default", d)]⟩ := by unfold argsOk; kernel_rfl
theorem call_min_dflt {E : Value → Shared → Prop} {s : Shared} {x d : Value} {Q : Value → Shared → Prop}
    (h : wpAny (model prog w) A.in1 (pyIter x) (fun it z => ∃ I fp wr G n P St bt, it = .ref I ∧ WalksS prog w A.in1 I fp wr G n P St ∧ St 0 z ∧ (∀ b ∈ fp, b < z.heap.objs.size) ∧ CmpOf prog w A.in1 .Lt P bt ∧
      (n = 0 → ∀ y, Moved wr G z y → Q d y) ∧ (0 < n → ∀ v y, P (argBest bt (n - 1)) v → Moved wr G z y → Q v y)) E s) :
    wpAny (model prog w) A (call (.builtin "min") [x] [(Str.ofString "default", d)]) Q E s := by
  have nm : (toString "min" ++ toString ".loop" : String) = "min.loop" := by decide
  refine call_tree_kw F.kind_min F.plain_min F.entry_min (dargs_min _ _) ?_
  show wpAny _ A.in1 (Builtin.Builtins.bindParams "min" ["key", "default"] 0 ⟨[], [(Str.ofString "default", d)]⟩ >>= _) _ _ _
  refine wpAny_bind (wpAny_of_eq (show Builtin.Builtins.bindParams "min" ["key", "default"] 0 ⟨[], [(Str.ofString "default", d)]⟩ = pure [none, some d] from rfl) ?_)
  refine wpAny_bind (wpAny_pure (wpAny_bind (wpAny_mono h (fun it z q => ?_) fun _ _ e => e)))
  obtain ⟨I, fp, wr, G, n, P, St, bt, rfl, W, st, lo, hcmp, q0, q1⟩ := q
  refine wpAny_bind (wpAny_newObj_type ?_)
  rw [nm]
  exact wpAny_pure ⟨plainId_quiet F.plain_min_loop _, dmin_from W bt hcmp z.heap.objs.size (fun e => Nat.lt_irrefl _ (lo _ e)) (W.frame 0 z _ z.toks st (Nat.le_refl _) fun b _ o e => Heap.get?_push_of_some _ e) (Heap.get?_push_size _ rfl)
    (fun e y mv => q0 e y (Moved.drop_new (tk := z.toks) mv (Nat.le_refl _))) fun e v y p mv => q1 e v y p (Moved.drop_new (tk := z.toks) mv (Nat.le_refl _))⟩
theorem dmax_loop (W : WalksS prog w A.in1 I fp wr G n P St) (bt : Nat → Nat → Bool) (hcmp : CmpOf prog w A.in1 .Gt P bt) (S : Addr) (out : S ∉ fp) (fuel : Nat) :
    ∀ (j : Nat) (s : Shared) (x : Value) (c : Nat), n - (j + 1) = fuel → j + 1 ≤ n → St (j + 1) s → P (argBest bt j) x → s.heap.get? S = some { cls := .type "list", dict := none, data := .seq #[x, x] c, slots := #[] } →
    (∀ y z, P (argBest bt (n - 1)) y → Moved (S :: wr) G s z → R (.ok (.ret y)) z) → codeAny (model prog w) A (.builtin "max.loop" ⟨[.ref I, .none, .ref S], kw⟩) R s := by
  have inw : S ∉ wr := fun z => out (W.sub _ z)
  have ne : ∀ {b : Addr}, b ∉ S :: wr → S ≠ b := fun {b} z e => z (e ▸ List.mem_cons_self ..)
  have more : ∀ b ∈ wr, b ∈ S :: wr := fun b z => List.mem_cons_of_mem _ z
  have nm : (toString "max" ++ toString ".loop" : String) = "max.loop" := by decide
  induction fuel with
  | zero =>
    intro j s x c e1 e2 st px hS k
    have en : j + 1 = n := by omega
    refine codeAny_builtin F.entry_max_loop ?_
    rw [Around.under_plainId F.plain_max_loop _]
    show wpAny _ A.in1 (seqItems? (.ref S) >>= _) _ _ _
    refine wpAny_bind (wpAny_seqItems hS (by rfl) ?_)
    show wpAny _ A.in1 (tryCatch (pyNext (.ref I)) _ >>= _) _ _ _
    refine wpAny_bind (wpAny_tryCatch (W.done s _ _ (en ▸ st) fun z mv => ?_))
    have hz := mv.heap S _ inw hS
    show wpAny _ A.in1 (updateSeq S (fun _ => #[]) >>= _) _ _ _
    exact wpAny_bind (wpAny_updateSeq hz rfl (wpAny_bind (wpAny_letGo (wpAny_pure (k x _ (by rw [← en]; exact px) ((mv.mono more).then_heap (tk := z.toks) (Nat.le_refl _) fun b o q e => (Heap.get?_update_other _ _ (ne q)).trans e))))))
  | succ fuel ih =>
    intro j s x c e1 e2 st px hS k
    have lt : j + 1 < n := by omega
    refine codeAny_builtin F.entry_max_loop ?_
    rw [Around.under_plainId F.plain_max_loop _]
    show wpAny _ A.in1 (seqItems? (.ref S) >>= _) _ _ _
    refine wpAny_bind (wpAny_seqItems hS (by rfl) ?_)
    show wpAny _ A.in1 (tryCatch (pyNext (.ref I)) _ >>= _) _ _ _
    refine wpAny_bind (wpAny_tryCatch (W.item (j + 1) s _ _ lt st fun y z py st2 mv => ?_))
    have hz := mv.heap S _ inw hS
    show wpAny _ A.in1 (tryCatch (holding [y, y] (richCompare .Gt y x >>= _)) _ >>= _) _ _ _
    refine wpAny_bind (wpAny_tryCatch (wpAny_holding (wpAny_bind (hcmp (j + 1) (argBest bt j) y x _ _ _ py px ?_))))
    refine wpAny_bind (wpAny_holding (wpAny_truthy_bool (wpAny_bind (wpAny_letGo (wpAny_pure ?_)))))
    cases hb : bt (j + 1) (argBest bt j) with
    | true =>
      simp only [if_true]
      refine wpAny_bind (wpAny_updateSeq hz rfl (wpAny_bind (wpAny_letGo ?_)))
      rw [nm]
      refine wpAny_pure ⟨plainId_quiet F.plain_max_loop _, ih (j + 1) _ y _ (by omega) lt (W.frame _ z _ z.toks st2 (Nat.le_refl _) fun b q o e => ?_) (by simp only [argBest, hb, if_true]; exact py) (Heap.get?_update_self _ hz rfl) fun y2 z2 p2 mv2 => ?_⟩
      · exact (Heap.get?_update_other _ _ (fun g : S = b => out (g ▸ q))).trans e
      · exact k y2 z2 p2 (Moved.trans W.gtrans ((mv.mono more).then_heap (tk := z.toks) (Nat.le_refl _) fun b o q e => (Heap.get?_update_other _ _ (ne q)).trans e) mv2)
    | false =>
      simp only [Bool.false_eq_true, if_false]
      refine wpAny_bind (wpAny_letGo ?_)
      rw [nm]
      exact wpAny_pure ⟨plainId_quiet F.plain_max_loop _, ih (j + 1) _ x c (by omega) lt st2 (by simp only [argBest, hb, Bool.false_eq_true, if_false]; exact px) hz fun y2 z2 p2 mv2 => k y2 z2 p2 (Moved.trans W.gtrans (mv.mono more) mv2)⟩
theorem dmax_from (W : WalksS prog w A.in1 I fp wr G n P St) (bt : Nat → Nat → Bool) (hcmp : CmpOf prog w A.in1 .Gt P bt) (S : Addr) (out : S ∉ fp) {d : Value} {s : Shared} {c : Nat} (st : St 0 s) (hS : s.heap.get? S = some { cls := .type "list", dict := none, data := .seq #[] c, slots := #[] })
    (k0 : n = 0 → ∀ z, Moved (S :: wr) G s z → R (.ok (.ret d)) z) (k : 0 < n → ∀ y z, P (argBest bt (n - 1)) y → Moved (S :: wr) G s z → R (.ok (.ret y)) z) :
    codeAny (model prog w) A (.builtin "max.loop" ⟨[.ref I, .none, .ref S], [(Str.ofString "default", d)]⟩) R s := by
  have inw : S ∉ wr := fun z => out (W.sub _ z)
  have ne : ∀ {b : Addr}, b ∉ S :: wr → S ≠ b := fun {b} z e => z (e ▸ List.mem_cons_self ..)
  have more : ∀ b ∈ wr, b ∈ S :: wr := fun b z => List.mem_cons_of_mem _ z
  have nm : (toString "max" ++ toString ".loop" : String) = "max.loop" := by decide
  refine codeAny_builtin F.entry_max_loop (by
    rw [Around.under_plainId F.plain_max_loop _]
    show wpAny _ A.in1 (seqItems? (.ref S) >>= _) _ _ _
    refine wpAny_bind (wpAny_seqItems hS (by rfl) ?_)
    show wpAny _ A.in1 (tryCatch (pyNext (.ref I)) _ >>= _) _ _ _
    rcases Nat.eq_zero_or_pos n with e0 | lt
    · refine wpAny_bind (wpAny_tryCatch (W.done s _ _ (e0 ▸ st) fun z mv => ?_))
      exact wpAny_bind (wpAny_rule (wpAny_pure (k0 e0 z (mv.mono more))))
    · refine wpAny_bind (wpAny_tryCatch (W.item 0 s _ _ lt st fun y z py st2 mv => ?_))
      have hz := mv.heap S _ inw hS
      show wpAny _ A.in1 (updateSeq S (fun _ => #[y, y]) >>= _) _ _ _
      refine wpAny_bind (wpAny_updateSeq hz rfl ?_)
      rw [nm]
      refine wpAny_pure ⟨plainId_quiet F.plain_max_loop _, dmax_loop W bt hcmp S out _ 0 _ y _ rfl lt (W.frame _ z _ z.toks st2 (Nat.le_refl _) fun b q o e => ?_) py (Heap.get?_update_self _ hz rfl) fun y2 z2 p2 mv2 => ?_⟩
      · exact (Heap.get?_update_other _ _ (fun g : S = b => out (g ▸ q))).trans e
      · exact k lt y2 z2 p2 (Moved.trans W.gtrans ((mv.mono more).then_heap (tk := z.toks) (Nat.le_refl _) fun b o q e => (Heap.get?_update_other _ _ (ne q)).trans e) mv2))
theorem dargs_max (a d : Value) : argsOk "max" ⟨[a], [(Str.ofString "default", d)]⟩ := by unfold argsOk; kernel_rfl
theorem call_max_dflt {E : Value → Shared → Prop} {s : Shared} {x d : Value} {Q : Value → Shared → Prop}
    (h : wpAny (model prog w) A.in1 (pyIter x) (fun it z => ∃ I fp wr G n P St bt, it = .ref I ∧ WalksS prog w A.in1 I fp wr G n P St ∧ St 0 z ∧ (∀ b ∈ fp, b < z.heap.objs.size) ∧ CmpOf prog w A.in1 .Gt P bt ∧
      (n = 0 → ∀ y, Moved wr G z y → Q d y) ∧ (0 < n → ∀ v y, P (argBest bt (n - 1)) v → Moved wr G z y → Q v y)) E s) :
    wpAny (model prog w) A (call (.builtin "max") [x] [(Str.ofString "default", d)]) Q E s := by
  have nm : (toString "max" ++ toString ".loop" : String) = "max.loop" := by decide
  refine call_tree_kw F.kind_max F.plain_max F.entry_max (dargs_max _ _) ?_
  show wpAny _ A.in1 (Builtin.Builtins.bindParams "max" ["key", "default"] 0 ⟨[], [(Str.ofString "default", d)]⟩ >>= _) _ _ _
  refine wpAny_bind (wpAny_of_eq (show Builtin.Builtins.bindParams "max" ["key", "default"] 0 ⟨[], [(Str.ofString "default", d)]⟩ = pure [none, some d] from rfl) ?_)
  refine wpAny_bind (wpAny_pure (wpAny_bind (wpAny_mono h (fun it z q => ?_) fun _ _ e => e)))
  obtain ⟨I, fp, wr, G, n, P, St, bt, rfl, W, st, lo, hcmp, q0, q1⟩ := q
  refine wpAny_bind (wpAny_newObj_type ?_)
  rw [nm]
  exact wpAny_pure ⟨plainId_quiet F.plain_max_loop _, dmax_from W bt hcmp z.heap.objs.size (fun e => Nat.lt_irrefl _ (lo _ e)) (W.frame 0 z _ z.toks st (Nat.le_refl _) fun b _ o e => Heap.get?_push_of_some _ e) (Heap.get?_push_size _ rfl)
    (fun e y mv => q0 e y (Moved.drop_new (tk := z.toks) mv (Nat.le_refl _))) fun e v y p mv => q1 e v y p (Moved.drop_new (tk := z.toks) mv (Nat.le_refl _))⟩
end
section
open PyProof.Rows
variable {prog : Program} {w : World} {A : Around} {E : Value → Shared → Prop} {s : Shared} {l : Addr} {vs : List Value} {ns : List Int} {d : Value} {Q : Value → Shared → Prop}
theorem dmin_raw (hh : A.handled = none) (hl : s.heap.IsList l vs.toArray) (hi : IntsAre vs ns) (q0 : ns = [] → ∀ h' tk, (∀ b o, s.heap.get? b = some o → h'.get? b = some o) → Q d { s with heap := h', toks := tk })
    (q : ∀ h' tk m t, (∀ b o, s.heap.get? b = some o → h'.get? b = some o) → m ∈ ns → (∀ a, a ∈ ns → m ≤ a) → Q (.int m t) { s with heap := h', toks := tk }) :
    wpAny (model prog w) A (call (.builtin "min") [.ref l] [(Str.ofString "default", d)]) Q E s := by
  obtain ⟨xs, e⟩ := hi.allInts.items
  have en : ns = xs.toList.map (·.1) := by rw [← hi.numsOf, ← nums_intItems, ← e]
  have el : ns.length = xs.size := by rw [en, List.length_map, Array.length_toList]
  have ez : (intItems xs).size = xs.size := by simp [intItems]
  rw [e] at hl
  refine call_min_dflt (iter_intList hl fun z ez2 st lo ne => ?_)
  subst ez2
  refine ⟨_, _, _, _, _, _, _, _, rfl, (Walks.list (A := A.in1) hh _ l ne (intItems xs)).toS, st, lo, CmpOf.ints_lt (numAt xs) (fun _ _ => intItems_at), fun e0 y mv => ?_, fun lt v y p mv => ?_⟩
  · have e1 : ns = [] := List.eq_nil_of_length_eq_zero (by rw [el, ← ez]; exact e0)
    have r := q0 e1 y.heap y.toks (old_kept mv.heap)
    have ey : y = { s with heap := y.heap, toks := y.toks } := by
      have g := mv.gens; have dd := mv.drawn; have oo := mv.os
      cases y; cases s; simp_all
    rw [ey]; exact r
  · obtain ⟨t, rfl⟩ := intItems_at p
    obtain ⟨h1, h2⟩ := argBest_lt (numAt xs) (xs.size - 1)
    have ey : y = { s with heap := y.heap, toks := y.toks } := by
      have g := mv.gens; have dd := mv.drawn; have oo := mv.os
      cases y; cases s; simp_all
    rw [ey]
    rw [ez] at lt
    rw [ez]
    refine q y.heap y.toks _ t (old_kept mv.heap) ?_ fun a ha => ?_
    · rw [en, numAt_eq]; exact getD_mem (by rw [← en, el]; omega)
    · rw [en] at ha
      obtain ⟨j, hj, rfl⟩ := mem_getD ha
      rw [← en, el] at hj
      rw [← numAt_eq]; exact h2 j (by omega)
end
section
open PyProof.Rows
variable {prog : Program} {w : World} {A : Around} {E : Value → Shared → Prop} {s : Shared} {l : Addr} {vs : List Value} {ns : List Int} {d : Value} {Q : Value → Shared → Prop}
theorem dmax_raw (hh : A.handled = none) (hl : s.heap.IsList l vs.toArray) (hi : IntsAre vs ns) (q0 : ns = [] → ∀ h' tk, (∀ b o, s.heap.get? b = some o → h'.get? b = some o) → Q d { s with heap := h', toks := tk })
    (q : ∀ h' tk m t, (∀ b o, s.heap.get? b = some o → h'.get? b = some o) → m ∈ ns → (∀ a, a ∈ ns → a ≤ m) → Q (.int m t) { s with heap := h', toks := tk }) :
    wpAny (model prog w) A (call (.builtin "max") [.ref l] [(Str.ofString "default", d)]) Q E s := by
  obtain ⟨xs, e⟩ := hi.allInts.items
  have en : ns = xs.toList.map (·.1) := by rw [← hi.numsOf, ← nums_intItems, ← e]
  have el : ns.length = xs.size := by rw [en, List.length_map, Array.length_toList]
  have ez : (intItems xs).size = xs.size := by simp [intItems]
  rw [e] at hl
  refine call_max_dflt (iter_intList hl fun z ez2 st lo ne => ?_)
  subst ez2
  refine ⟨_, _, _, _, _, _, _, _, rfl, (Walks.list (A := A.in1) hh _ l ne (intItems xs)).toS, st, lo, CmpOf.ints_gt (numAt xs) (fun _ _ => intItems_at), fun e0 y mv => ?_, fun lt v y p mv => ?_⟩
  · have e1 : ns = [] := List.eq_nil_of_length_eq_zero (by rw [el, ← ez]; exact e0)
    have r := q0 e1 y.heap y.toks (old_kept mv.heap)
    have ey : y = { s with heap := y.heap, toks := y.toks } := by
      have g := mv.gens; have dd := mv.drawn; have oo := mv.os
      cases y; cases s; simp_all
    rw [ey]; exact r
  · obtain ⟨t, rfl⟩ := intItems_at p
    obtain ⟨h1, h2⟩ := argBest_gt (numAt xs) (xs.size - 1)
    have ey : y = { s with heap := y.heap, toks := y.toks } := by
      have g := mv.gens; have dd := mv.drawn; have oo := mv.os
      cases y; cases s; simp_all
    rw [ey]
    rw [ez] at lt
    rw [ez]
    refine q y.heap y.toks _ t (old_kept mv.heap) ?_ fun a ha => ?_
    · rw [en, numAt_eq]; exact getD_mem (by rw [← en, el]; omega)
    · rw [en] at ha
      obtain ⟨j, hj, rfl⟩ := mem_getD ha
      rw [← en, el] at hj
      rw [← numAt_eq]; exact h2 j (by omega)
end
end PySem
set_option Elab.async false
set_option linter.all false
set_option maxRecDepth 100000
set_option maxHeartbeats 1000000
/-! Dn: defs of a Python text as plain functions of data: what is evaluated, over the layer's rules -/
namespace Dn
open PySem L2

abbrev D := PyData

/-! ### data at the heap: F are the addresses that may be written by the frame (own lists), data never leans on these -/
def SqLK (K : PySem.W.Frag) (a : Addr) (xs : List V) : Prop := ∃ (o : Obj) (its : Array Value) (n : Nat), K.lookup a = some o ∧ o.cls = .type "list" ∧ o.dict = none ∧ o.data = .seq its n ∧ its.size ≤ sizeLine ∧ Vals xs its.toList
def SqTK (K : PySem.W.Frag) (a : Addr) (xs : List V) : Prop := ∃ (o : Obj) (its : Array Value) (n : Nat), K.lookup a = some o ∧ o.cls = .type "tuple" ∧ o.data = .seq its n ∧ its.size ≤ sizeLine ∧ Vals xs its.toList
def kd : Key → D
  | .inl i => .int i
  | .inr x => .str x
mutual
inductive Sh (K : PySem.W.Frag) (F : Addr → Prop) (H : Hp) : V → D → Prop
  | non : Sh K F H .non .none
  | bl (b : Bool) : Sh K F H (.bl b) (.bool b)
  | int (i : Int) : Sh K F H (.int i) (.int i)
  | str (x : Str) : Sh K F H (.str x) (.str x)
  | lst {a : Addr} {xs : List V} {ds : List D} : (¬ F a ∧ Rd H a (.lst xs)) ∨ SqLK K a xs → ShA K F H xs ds → Sh K F H (.ref a) (.list ds)
  | tup {a : Addr} {xs : List V} {ds : List D} : (¬ F a ∧ Rd H a (.tup xs)) ∨ SqTK K a xs → ShA K F H xs ds → Sh K F H (.ref a) (.tuple ds)
  | dic {a : Addr} {kvs : List (Key × V)} {ds : List (D × D)} : ¬ F a → Rd H a (.dK kvs) → ShK K F H kvs ds → Sh K F H (.ref a) (.dict ds)
inductive ShA (K : PySem.W.Frag) (F : Addr → Prop) (H : Hp) : List V → List D → Prop
  | nil : ShA K F H [] []
  | cons {v : V} {d : D} {vs : List V} {ds : List D} : Sh K F H v d → ShA K F H vs ds → ShA K F H (v :: vs) (d :: ds)
inductive ShK (K : PySem.W.Frag) (F : Addr → Prop) (H : Hp) : List (Key × V) → List (D × D) → Prop
  | nil : ShK K F H [] []
  | cons {k : Key} {v : V} {d : D} {vs : List (Key × V)} {ds : List (D × D)} : Sh K F H v d → ShK K F H vs ds → ShK K F H ((k, v) :: vs) ((kd k, d) :: ds)
end

/-- what is tracked and not the frame's own stays, and does not become its own -/
def Tx (F : Addr → Prop) (H : Hp) (F' : Addr → Prop) (H' : Hp) : Prop := ∀ a u, ¬ F a → H a = some u → H' a = some u ∧ ¬ F' a
theorem Tx.refl (F : Addr → Prop) (H : Hp) : Tx F H F H := fun _ _ n e => ⟨e, n⟩
theorem Tx.trans {F F1 F2 : Addr → Prop} {H H1 H2 : Hp} (a : Tx F H F1 H1) (b : Tx F1 H1 F2 H2) : Tx F H F2 H2 := fun x u n e => let ⟨e1, n1⟩ := a x u n e; b x u n1 e1
theorem Tx.rd {F F' : Addr → Prop} {H H' : Hp} (t : Tx F H F' H') {a : Addr} {u : HO} (n : ¬ F a) (r : Rd H a u) : ¬ F' a ∧ Rd H' a u := by
  rcases r with r | ⟨o, r⟩
  · exact ⟨(t _ _ n r).2, .inl (t _ _ n r).1⟩
  · exact ⟨(t _ _ n r).2, .inr ⟨o, (t _ _ n r).1⟩⟩
section
variable {K : PySem.W.Frag} {F F' : Addr → Prop} {H H' : Hp}
mutual
theorem Sh.tx (t : Tx F H F' H') : ∀ {v : V} {d : D}, Sh K F H v d → Sh K F' H' v d
  | _, _, .non => .non
  | _, _, .bl b => .bl b
  | _, _, .int i => .int i
  | _, _, .str x => .str x
  | _, _, .lst h s => .lst (h.elim (fun z => .inl (t.rd z.1 z.2)) .inr) (ShA.tx t s)
  | _, _, .tup h s => .tup (h.elim (fun z => .inl (t.rd z.1 z.2)) .inr) (ShA.tx t s)
  | _, _, .dic n r s => .dic (t.rd n r).1 (t.rd n r).2 (ShK.tx t s)
theorem ShA.tx (t : Tx F H F' H') : ∀ {v : List V} {d : List D}, ShA K F H v d → ShA K F' H' v d
  | _, _, .nil => .nil
  | _, _, .cons h s => .cons (Sh.tx t h) (ShA.tx t s)
theorem ShK.tx (t : Tx F H F' H') : ∀ {v : List (Key × V)} {d : List (D × D)}, ShK K F H v d → ShK K F' H' v d
  | _, _, .nil => .nil
  | _, _, .cons h s => .cons (Sh.tx t h) (ShK.tx t s)
end
theorem Tx.same (h : Same H H') : Tx F H F H' := fun a u n e => ⟨h a u e, n⟩
theorem Tx.less (h : ∀ a, F' a → F a) : Tx F H F' H := fun a u n e => ⟨e, fun z => n (h a z)⟩
theorem Tx.both (s : Same H H') (h : ∀ a, F' a → F a ∨ H a = none) : Tx F H F' H' := fun a u n e => ⟨s a u e, fun z => (h a z).elim n fun q => by rw [e] at q; cases q⟩
theorem ShA.length : ∀ {vs : List V} {ds : List D}, ShA K F H vs ds → vs.length = ds.length
  | _, _, .nil => rfl
  | _, _, .cons _ s => by rw [List.length_cons, List.length_cons, ShA.length s]
theorem ShA.get : ∀ {vs : List V} {ds : List D} {i : Nat} {d : D}, ShA K F H vs ds → ds[i]? = some d → ∃ v, vs[i]? = some v ∧ Sh K F H v d
  | _, _, _, _, .nil, e => by simp at e
  | _, _, 0, _, .cons h _, e => by simp at e; subst e; exact ⟨_, rfl, h⟩
  | _, _, i + 1, d, .cons _ s, e => by
    obtain ⟨v, e1, h⟩ := ShA.get (i := i) (d := d) s (by simpa using e)
    exact ⟨v, by simpa using e1, h⟩
theorem ShA.get' : ∀ {vs : List V} {ds : List D} {i : Nat} {v : V}, ShA K F H vs ds → vs[i]? = some v → ∃ d, ds[i]? = some d ∧ Sh K F H v d
  | _, _, _, _, .nil, e => by simp at e
  | _, _, 0, _, .cons h _, e => by simp at e; subst e; exact ⟨_, rfl, h⟩
  | _, _, i + 1, d, .cons _ s, e => by
    obtain ⟨v, e1, h⟩ := ShA.get' (i := i) (v := d) s (by simpa using e)
    exact ⟨v, by simpa using e1, h⟩
theorem ShA.append : ∀ {vs ws : List V} {ds es : List D}, ShA K F H vs ds → ShA K F H ws es → ShA K F H (vs ++ ws) (ds ++ es)
  | _, _, _, _, .nil, s => s
  | _, _, _, _, .cons h r, s => .cons h (ShA.append r s)
theorem ShA.one {v : V} {d : D} (h : Sh K F H v d) : ShA K F H [v] [d] := .cons h .nil
theorem ShA.take : ∀ {vs : List V} {ds : List D} (n : Nat), ShA K F H vs ds → ShA K F H (vs.take n) (ds.take n)
  | _, _, 0, _ => .nil
  | _, _, n + 1, .nil => .nil
  | _, _, n + 1, .cons h s => .cons h (ShA.take n s)
theorem ShA.drop : ∀ {vs : List V} {ds : List D} (n : Nat), ShA K F H vs ds → ShA K F H (vs.drop n) (ds.drop n)
  | _, _, 0, s => s
  | _, _, n + 1, .nil => .nil
  | _, _, n + 1, .cons h s => ShA.drop n s
theorem ShA.set {v : V} {d : D} (h : Sh K F H v d) : ∀ {vs : List V} {ds : List D} (n : Nat), ShA K F H vs ds → ShA K F H (vs.set n v) (ds.set n d)
  | _, _, _, .nil => .nil
  | _, _, 0, .cons _ s => .cons h s
  | _, _, n + 1, .cons q s => .cons q (ShA.set h n s)
theorem ShA.rev : ∀ {vs : List V} {ds : List D}, ShA K F H vs ds → ShA K F H vs.reverse ds.reverse
  | _, _, .nil => .nil
  | _, _, .cons h s => by rw [List.reverse_cons, List.reverse_cons]; exact (ShA.rev s).append (.one h)
theorem Sh.sqT {a : Addr} {ds : List D} (h : Sh K F H (.ref a) (.tuple ds)) : ∃ xs, SqT K H a xs ∧ ShA K F H xs ds := by
  cases h with
  | tup h s => exact ⟨_, h.elim (fun z => .inl z.2) .inr, s⟩
end

/-! ### the frame's abstract state -/
inductive Cell where
  | lst (xs : List D)
  | dic (kvs : List (Key × D))
def Cell.toD : Cell → D
  | .lst xs => .list xs
  | .dic kvs => .dict (kvs.map fun p => (kd p.1, p.2))
/-- a slot: not assigned | data | an own list or dict, that nobody else knows | one that the caller lends -/
inductive Sl where
  | emp
  | val (d : D)
  | own (c : Cell)
  | bor (c : Cell)
abbrev Env := List Sl
inductive R where
  | val (d : D)
  | fresh (c : Cell)
def R.toD : R → D
  | .val d => d
  | .fresh c => c.toD
inductive Res (α : Type) where
  | ok (a : α) (ρ : Env)
  | exc (c : Str) (ρ : Env)
  | bad
def gS : Env → Nat → Sl
  | [], _ => .emp
  | s :: _, 0 => s
  | _ :: r, i + 1 => gS r i
def sS : Env → Nat → Sl → Env
  | [], _, _ => []
  | _ :: r, 0, s => s :: r
  | a :: r, i + 1, s => a :: sS r i s
theorem sS_len : ∀ (ρ : Env) (i : Nat) (s : Sl), (sS ρ i s).length = ρ.length
  | [], _, _ => rfl
  | _ :: _, 0, _ => rfl
  | _ :: r, i + 1, s => by show (sS r i s).length + 1 = r.length + 1; rw [sS_len r i s]
theorem gS_same : ∀ {ρ : Env} {i : Nat} {s : Sl}, i < ρ.length → gS (sS ρ i s) i = s
  | [], _, _, h => by simp at h
  | _ :: _, 0, _, _ => rfl
  | _ :: r, i + 1, s, h => gS_same (ρ := r) (i := i) (s := s) (by simpa using h)
theorem gS_ne : ∀ {ρ : Env} {i j : Nat} {s : Sl}, i ≠ j → gS (sS ρ i s) j = gS ρ j
  | [], _, _, _, _ => rfl
  | _ :: _, 0, 0, _, h => absurd rfl h
  | _ :: _, 0, _ + 1, _, _ => rfl
  | _ :: _, _ + 1, 0, _, _ => rfl
  | _ :: r, i + 1, j + 1, s, h => gS_ne (ρ := r) (i := i) (j := j) (s := s) (by omega)
theorem gS_out : ∀ {ρ : Env} {i : Nat}, ρ.length ≤ i → gS ρ i = .emp
  | [], _, _ => rfl
  | _ :: _, 0, h => by simp at h
  | _ :: r, i + 1, h => gS_out (ρ := r) (i := i) (by simpa using h)

structure Ctx where
  B : Addr → Prop
  H0 : Hp
  bv : Nat → V
abbrev Ctx.plus (C : Ctx) (as : List Addr) : Ctx := { C with B := fun a => C.B a ∨ a ∈ as }
def FF (B : Addr → Prop) (o : Nat → List Addr) (a : Addr) : Prop := B a ∨ ∃ i, a ∈ o i
def ShD (K : PySem.W.Frag) (F : Addr → Prop) (H : Hp) (vs : List (Key × V)) (ds : List (Key × D)) : Prop := Paired (fun p q => p.1 = q.1 ∧ Sh K F H p.2 q.2) vs ds
def CR (K : PySem.W.Frag) (F : Addr → Prop) (H : Hp) (as : List Addr) (v : V) : Cell → Prop
  | .lst xs => ∃ a vs, as = [a] ∧ v = .ref a ∧ H a = some (.lst vs) ∧ ShA K F H vs xs
  | .dic kvs => ∃ a vs, as = [a] ∧ v = .ref a ∧ H a = some (.dK vs) ∧ ShD K F H vs kvs
def SlR (K : PySem.W.Frag) (F : Addr → Prop) (H : Hp) (as : List Addr) (bv : V) (ov : Option (Option V)) : Sl → Prop
  | .emp => as = []
  | .val d => as = [] ∧ ∃ v, ov = some (some v) ∧ Sh K F H v d
  | .own c => ∃ v, ov = some (some v) ∧ CR K F H as v c
  | .bor c => ov = some (some bv) ∧ CR K F H as bv c
structure SRo (K : PySem.W.Frag) (C : Ctx) (o : Nat → List Addr) (ρ : Env) (σ : St) (H : Hp) : Prop where
  len : ρ.length = σ.length
  same : Same C.H0 H
  nod : ∀ i, (o i).Nodup
  inj : ∀ i j a, a ∈ o i → a ∈ o j → i = j
  nB : ∀ i a, a ∈ o i → ¬ C.B a
  fr : ∀ i a, a ∈ o i → C.H0 a = none
  tr : ∀ a, FF C.B o a → H a ≠ none
  slot : ∀ i, SlR K (FF C.B o) H (o i) (C.bv i) σ[i]? (gS ρ i)
section
variable {K : PySem.W.Frag} {F F' : Addr → Prop} {H H' : Hp} {as : List Addr} {v : V} {c : Cell}
theorem ShD.tx (t : Tx F H F' H') : ∀ {vs : List (Key × V)} {ds : List (Key × D)}, ShD K F H vs ds → ShD K F' H' vs ds
  | _, _, .nil => .nil
  | _, _, .cons h s => .cons ⟨h.1, h.2.tx t⟩ (ShD.tx t s)
theorem ShD.shK : ∀ {vs : List (Key × V)} {ds : List (Key × D)}, ShD K F H vs ds → ShK K F H vs (ds.map fun p => (kd p.1, p.2))
  | _, _, .nil => .nil
  | (k, v) :: _, (k', d) :: _, .cons h s => by
    obtain ⟨e, h⟩ := h
    have e : k = k' := e
    subst e
    exact .cons h (ShD.shK s)
/-- a cell's content goes over where its own addresses are kept -/
theorem CR.tx (t : Tx F H F' H') (k : ∀ a ∈ as, H' a = H a) (h : CR K F H as v c) : CR K F' H' as v c := by
  cases c with
  | lst xs =>
    obtain ⟨a, vs, rfl, rfl, e, s⟩ := h
    exact ⟨a, vs, rfl, rfl, (k a (by simp)).trans e, s.tx t⟩
  | dic kvs =>
    obtain ⟨a, vs, rfl, rfl, e, s⟩ := h
    exact ⟨a, vs, rfl, rfl, (k a (by simp)).trans e, s.tx t⟩
/-- the cell's content as data, once its addresses are given up -/
theorem CR.sh (h : CR K F H as v c) (t : Tx F H F' H) (n : ∀ a ∈ as, ¬ F' a) : Sh K F' H v c.toD := by
  cases c with
  | lst xs =>
    obtain ⟨a, vs, rfl, rfl, e, s⟩ := h
    exact .lst (.inl ⟨n a (by simp), .inl e⟩) (s.tx t)
  | dic kvs =>
    obtain ⟨a, vs, rfl, rfl, e, s⟩ := h
    exact .dic (n a (by simp)) (.inl e) (ShD.shK (s.tx t))
end
section
variable {K : PySem.W.Frag} {C : Ctx} {o : Nat → List Addr} {ρ : Env} {σ : St} {H H' : Hp}
theorem SlR.tx {F F' : Addr → Prop} {as : List Addr} {bv : V} {ov : Option (Option V)} {s : Sl} (t : Tx F H F' H') (k : ∀ a ∈ as, H' a = H a) (h : SlR K F H as bv ov s) : SlR K F' H' as bv ov s := by
  cases s with
  | emp => exact h
  | val d => obtain ⟨e, v, ev, h⟩ := h; exact ⟨e, v, ev, h.tx t⟩
  | own c => obtain ⟨v, ev, h⟩ := h; exact ⟨v, ev, h.tx t k⟩
  | bor c => exact ⟨h.1, h.2.tx t k⟩
theorem same_at {a : Addr} (s : Same H H') (n : H a ≠ none) : H' a = H a := by
  cases e : H a with
  | none => exact absurd e n
  | some u => exact s a u e
/-- the heap has grown -/
theorem SRo.keep (S : SRo K C o ρ σ H) (s : Same H H') : SRo K C o ρ σ H' where
  len := S.len
  same := S.same.trans s
  nod := S.nod
  inj := S.inj
  nB := S.nB
  fr := S.fr
  tr := fun a h z => by rw [same_at s (S.tr a h)] at z; exact S.tr a h z
  slot := fun i => (S.slot i).tx (.same s) fun a ha => same_at s (S.tr a (.inr ⟨i, ha⟩))
/-- fewer addresses that are forbidden -/
theorem SRo.lessB {C' : Ctx} (S : SRo K C o ρ σ H) (h : ∀ a, C'.B a → C.B a) (h0 : C'.H0 = C.H0) (hb : C'.bv = C.bv) : SRo K C' o ρ σ H where
  len := S.len
  same := by rw [h0]; exact S.same
  nod := S.nod
  inj := S.inj
  nB := fun i a ha z => S.nB i a ha (h a z)
  fr := fun i a ha => by rw [h0]; exact S.fr i a ha
  tr := fun a z => S.tr a (z.elim (fun q => .inl (h a q)) .inr)
  slot := fun i => by rw [hb]; exact (S.slot i).tx (.less fun a z => z.elim (fun q => .inl (h a q)) .inr) fun _ _ => rfl
theorem SRo.less {as : List Addr} (S : SRo K (C.plus as) o ρ σ H) : SRo K C o ρ σ H := S.lessB (fun _ => .inl) rfl rfl
def oset (o : Nat → List Addr) (i : Nat) (as : List Addr) : Nat → List Addr := fun j => if j = i then as else o j
theorem oset_same {i : Nat} {as : List Addr} : oset o i as i = as := if_pos rfl
theorem oset_ne {i j : Nat} {as : List Addr} (h : j ≠ i) : oset o i as j = o j := if_neg h
theorem oset_nil_mem {i j : Nat} {a : Addr} (h : a ∈ oset o i [] j) : j ≠ i ∧ a ∈ o j := by
  by_cases e : j = i
  · subst e; rw [oset_same] at h; cases h
  · rw [oset_ne e] at h; exact ⟨e, h⟩
/-- a slot gives its addresses up, its content is whatever slot content without addresses -/
theorem SRo.drop (S : SRo K C o ρ σ H) {i : Nat} {s : Sl} {σ' : St} (hl : σ'.length = σ.length) (hσ : ∀ j, j ≠ i → σ'[j]? = σ[j]?)
    (hs : i < ρ.length → SlR K (FF C.B (oset o i [])) H [] (C.bv i) σ'[i]? s) : SRo K C (oset o i []) (sS ρ i s) σ' H where
  len := by rw [sS_len, hl]; exact S.len
  same := S.same
  nod := fun j => by
    by_cases e : j = i
    · subst e; rw [oset_same]; exact List.nodup_nil
    · rw [oset_ne e]; exact S.nod j
  inj := fun j k a h1 h2 => S.inj j k a (oset_nil_mem h1).2 (oset_nil_mem h2).2
  nB := fun j a h => S.nB j a (oset_nil_mem h).2
  fr := fun j a h => S.fr j a (oset_nil_mem h).2
  tr := fun a z => S.tr a (z.elim .inl fun ⟨j, q⟩ => .inr ⟨j, (oset_nil_mem q).2⟩)
  slot := fun j => by
    by_cases e : j = i
    · subst e
      rw [oset_same]
      by_cases hj : j < ρ.length
      · rw [gS_same hj]; exact hs hj
      · rw [gS_out (by rw [sS_len]; omega)]; exact rfl
    · rw [oset_ne e, gS_ne (Ne.symm e), hσ j e]
      exact (S.slot j).tx (.less fun a z => z.elim .inl fun ⟨k, q⟩ => .inr ⟨k, (oset_nil_mem q).2⟩) fun _ _ => rfl
theorem FF.drop {B : Addr → Prop} {i : Nat} : ∀ a, FF B (oset o i []) a → FF B o a := fun a z => z.elim .inl fun ⟨j, q⟩ => .inr ⟨j, (oset_nil_mem q).2⟩
/-- a name is given data -/
theorem SRo.setV (S : SRo K C o ρ σ H) {i : Nat} {v : V} {d : D} (h : Sh K (FF C.B o) H v d) : SRo K C (oset o i []) (sS ρ i (.val d)) (σ.set i (some v)) H :=
  S.drop (by simp) (fun j e => by rw [List.getElem?_set_ne (Ne.symm e)]) fun hi => ⟨rfl, v, by rw [List.getElem?_set_self (by rw [← S.len]; exact hi)], h.tx (.less FF.drop)⟩
/-- a slot is forgotten -/
theorem SRo.setE (S : SRo K C o ρ σ H) {i : Nat} {ov : Option V} : SRo K C (oset o i []) (sS ρ i .emp) (σ.set i ov) H :=
  S.drop (by simp) (fun j e => by rw [List.getElem?_set_ne (Ne.symm e)]) fun _ => rfl
theorem SRo.setE0 (S : SRo K C o ρ σ H) {i : Nat} : SRo K C (oset o i []) (sS ρ i .emp) σ H :=
  S.drop rfl (fun j e => rfl) fun _ => rfl
/-- a name is given a new list or dict -/
theorem SRo.setO {as : List Addr} {v : V} {c : Cell} (S : SRo K (C.plus as) o ρ σ H) {i : Nat} (hi : i < ρ.length) (nd : as.Nodup) (nB : ∀ a ∈ as, ¬ C.B a) (h0 : ∀ a ∈ as, C.H0 a = none) (h : CR K (FF (C.plus as).B o) H as v c) :
    SRo K C (oset o i as) (sS ρ i (.own c)) (σ.set i (some v)) H := by
  have le : ∀ a, FF C.B (oset o i as) a → FF (C.plus as).B o a := fun a z => by
    rcases z with z | ⟨j, q⟩
    · exact .inl (.inl z)
    · by_cases e : j = i
      · subst e; rw [oset_same] at q; exact .inl (.inr q)
      · rw [oset_ne e] at q; exact .inr ⟨j, q⟩
  have no : ∀ j a, a ∈ o j → a ∉ as := fun j a h z => S.nB j a h (.inr z)
  refine ⟨by rw [sS_len, List.length_set]; exact S.len, S.same, fun j => ?_, fun j k a h1 h2 => ?_, fun j a h1 => ?_, fun j a h1 => ?_, fun a z => S.tr a (le a z), fun j => ?_⟩
  · by_cases e : j = i
    · subst e; rw [oset_same]; exact nd
    · rw [oset_ne e]; exact S.nod j
  · by_cases e : j = i
    · by_cases e' : k = i
      · rw [e, e']
      · subst e; rw [oset_same] at h1; rw [oset_ne e'] at h2; exact absurd h1 (no k a h2)
    · by_cases e' : k = i
      · subst e'; rw [oset_same] at h2; rw [oset_ne e] at h1; exact absurd h2 (no j a h1)
      · rw [oset_ne e] at h1; rw [oset_ne e'] at h2; exact S.inj j k a h1 h2
  · by_cases e : j = i
    · subst e; rw [oset_same] at h1; exact nB a h1
    · rw [oset_ne e] at h1; exact fun z => S.nB j a h1 (.inl z)
  · by_cases e : j = i
    · subst e; rw [oset_same] at h1; exact h0 a h1
    · rw [oset_ne e] at h1; exact S.fr j a h1
  · by_cases e : j = i
    · subst e
      rw [oset_same, gS_same hi]
      exact ⟨v, by rw [List.getElem?_set_self (by rw [← S.len]; exact hi)], h.tx (.less le) fun _ _ => rfl⟩
    · rw [oset_ne e, gS_ne (Ne.symm e), List.getElem?_set_ne (Ne.symm e)]
      exact (S.slot j).tx (.less le) fun _ _ => rfl
/-- an own list or dict is written -/
theorem SRo.wr (S : SRo K C o ρ σ H) {i : Nat} {a : Addr} {ho : HO} {s : Sl} (ho1 : o i = [a]) (hlt : i < ρ.length) (hs : ∀ H', Tx (FF C.B o) H (FF C.B o) H' → H' a = some ho → SlR K (FF C.B o) H' [a] (C.bv i) σ[i]? s) :
    SRo K C o (sS ρ i s) σ (upd H a ho) ∧ Tx (FF C.B o) H (FF C.B o) (upd H a ho) := by
  have ma : a ∈ o i := by rw [ho1]; simp
  have t : Tx (FF C.B o) H (FF C.B o) (upd H a ho) := fun b u n e => ⟨by rw [upd_ne fun z => n (by rw [z]; exact .inr ⟨i, ma⟩)]; exact e, n⟩
  refine ⟨⟨by rw [sS_len]; exact S.len, fun b u e => ?_, S.nod, S.inj, S.nB, S.fr, fun b z => ?_, fun j => ?_⟩, t⟩
  · rw [upd_ne fun z => by rw [z, S.fr i a ma] at e; cases e]
    exact S.same b u e
  · by_cases e : b = a
    · subst e; rw [upd_same]; exact fun q => nomatch q
    · rw [upd_ne e]; exact S.tr b z
  · by_cases e : j = i
    · subst e
      rw [gS_same hlt, ho1]
      exact hs _ t upd_same
    · rw [gS_ne (Ne.symm e)]
      exact (S.slot j).tx t fun b hb => upd_ne fun z => e (S.inj j i a (by rw [← z]; exact hb) ma)
end
end Dn
set_option Elab.async false
set_option linter.all false
set_option maxRecDepth 100000
set_option maxHeartbeats 1000000
/-! Dn2: the judgements, and the rules of expressions -/
namespace Dn
open PySem L2

def bindR {α β : Type} (r : Res α) (k : α → Env → Res β) : Res β := match r with
  | .ok a ρ => k a ρ
  | .exc c ρ => .exc c ρ
  | .bad => .bad
@[simp] theorem bindR_ok {α β : Type} {a : α} {ρ : Env} {k : α → Env → Res β} : bindR (.ok a ρ) k = k a ρ := id rfl
@[simp] theorem bindR_exc {α β : Type} {c : Str} {ρ : Env} {k : α → Env → Res β} : bindR (.exc c ρ) k = .exc c ρ := id rfl
@[simp] theorem bindR_bad {α β : Type} {k : α → Env → Res β} : bindR (.bad : Res α) k = .bad := id rfl
def optR {α : Type} (o : Option α) (ρ : Env) : Res α := match o with
  | some a => .ok a ρ
  | none => .bad
@[simp] theorem optR_some {α : Type} {a : α} {ρ : Env} : optR (some a) ρ = .ok a ρ := id rfl
@[simp] theorem optR_none {α : Type} {ρ : Env} : optR (none : Option α) ρ = .bad := id rfl

/-- what is wanted of an exception of the class called c -/
def XW (X : Cx) (W : WX) (c : Str) (σ : St) (H : Hp) : Prop := ∀ A, X.mg c = some (.ref A) → W (.ref A) none σ H
def PoG {α : Type} (Ok : α → Env → Prop) (Ex : Str → Env → Prop) : Res α → Prop
  | .ok a ρ => Ok a ρ
  | .exc c ρ => Ex c ρ
  | .bad => False
theorem PoG.bind {α β : Type} {Ok : β → Env → Prop} {Ex : Str → Env → Prop} {r : Res α} {k : α → Env → Res β} (h : PoG Ok Ex (bindR r k)) : PoG (fun a ρ => PoG Ok Ex (k a ρ)) Ex r := by
  cases r with
  | ok a ρ => exact h
  | exc c ρ => exact h
  | bad => exact h
theorem PoG.imp {α : Type} {Ok Ok' : α → Env → Prop} {Ex Ex' : Str → Env → Prop} {r : Res α} (h : PoG Ok Ex r) (a : ∀ x ρ, Ok x ρ → Ok' x ρ) (b : ∀ c ρ, Ex c ρ → Ex' c ρ) : PoG Ok' Ex' r := by
  cases r with
  | ok x ρ => exact a x ρ h
  | exc c ρ => exact b c ρ h
  | bad => exact h
section
variable (X : Cx) (C : Ctx) (W : WX) (o : Nat → List Addr) (σ : St) (H : Hp)
/-- behind an exception -/
def ExP (c : Str) (ρ : Env) : Prop := ∀ H' o', SRo X.K C o' ρ σ H' → Tx (FF C.B o) H (FF C.B o') H' → XW X W c σ H'
/-- behind a value that stands to its reading as Rl says -/
def OkP {α β : Type} (Rl : (Addr → Prop) → Hp → β → α → Prop) (Q : β → Hp → Prop) (d : α) (ρ : Env) : Prop :=
  ∀ v H' o', SRo X.K C o' ρ σ H' → Tx (FF C.B o) H (FF C.B o') H' → Rl (FF C.B o') H' v d → Q v H'
def OkE (Q : VK) (r : R) (ρ : Env) : Prop := match r with
  | .val d => OkP X C o σ H (Sh X.K) Q d ρ
  | .fresh c => ∀ v H' o' as, as.Nodup → (∀ a ∈ as, C.H0 a = none) → (∀ a ∈ as, ¬ C.B a) → SRo X.K (C.plus as) o' ρ σ H' → Tx (FF C.B o) H (FF (C.plus as).B o') H' → CR X.K (FF (C.plus as).B o') H' as v c → Q v H'
def tV {α β : Type} (Rl : (Addr → Prop) → Hp → β → α → Prop) (m : Env → Res α) : St → Hp → (β → Hp → Prop) → Prop := fun σ H Q => ∃ ρ o, SRo X.K C o ρ σ H ∧ PoG (OkP X C o σ H Rl Q) (ExP X C W o σ H) (m ρ)
def tE (m : Env → Res R) : TE := fun σ H Q => ∃ ρ o, SRo X.K C o ρ σ H ∧ PoG (OkE X C o σ H Q) (ExP X C W o σ H) (m ρ)
end
def RlB (F : Addr → Prop) (H : Hp) (b c : Bool) : Prop := b = c
def RlO (F : Addr → Prop) (H : Hp) (b c : Option Int) : Prop := b = c
/-- what a value may be read as, at once -/
def Pk (K : PySem.W.Frag) (F : Addr → Prop) (H : Hp) (v : V) (d : D) : Prop := match d with
  | .list ds => ∃ a xs, v = .ref a ∧ SqL K H a xs ∧ ShA K F H xs ds
  | .dict ds => ∃ a kvs, v = .ref a ∧ Rd H a (.dK kvs) ∧ ShK K F H kvs ds
  | d => Sh K F H v d
theorem Sh.pk {K : PySem.W.Frag} {F : Addr → Prop} {H : Hp} {v : V} {d : D} (h : Sh K F H v d) : Pk K F H v d := by
  cases h with
  | non => exact .non
  | bl b => exact .bl b
  | int i => exact .int i
  | str x => exact .str x
  | lst h s => exact ⟨_, _, rfl, h.elim (fun z => .inl z.2) .inr, s⟩
  | tup h s => exact .tup h s
  | dic n r s => exact ⟨_, _, rfl, r, s⟩
theorem CR.pk {K : PySem.W.Frag} {F : Addr → Prop} {H : Hp} {as : List Addr} {v : V} {c : Cell} (h : CR K F H as v c) : Pk K F H v c.toD := by
  cases c with
  | lst xs =>
    obtain ⟨a, vs, rfl, rfl, e, s⟩ := h
    exact ⟨a, vs, rfl, .of e, s⟩
  | dic kvs =>
    obtain ⟨a, vs, rfl, rfl, e, s⟩ := h
    exact ⟨a, vs, rfl, .of e, s.shK⟩
def JE (X : Cx) (C : Ctx) (W : WX) (e : Expr) (m : Env → Res R) : Prop := PE X e (tE X C W m)
/-- a value that may be kept | one that is read at once -/
def JV (X : Cx) (C : Ctx) (W : WX) (e : Expr) (m : Env → Res D) : Prop := PE X e (tV X C W (Sh X.K) m)
def JP (X : Cx) (C : Ctx) (W : WX) (e : Expr) (m : Env → Res D) : Prop := PE X e (tV X C W (Pk X.K) m)
def JA (X : Cx) (C : Ctx) (W : WX) (es : List Expr) (m : Env → Res (List D)) : Prop := PA X es (tV X C W (ShA X.K) m)
def JT (X : Cx) (C : Ctx) (W : WX) (e : Expr) (m : Env → Res Bool) : Prop := PT X e (tV X C W RlB m)
def JW (X : Cx) (C : Ctx) (W : WX) (e : Expr) (m : Env → Res Bool) : Prop := PW X e (tV X C W RlB m)
def JO (X : Cx) (C : Ctx) (W : WX) (e : Option Expr) (m : Env → Res (Option Int)) : Prop := PO X e (tV X C W RlO m)

theorem PE.imp {X : Cx} {e : Expr} {t t' : TE} (h : PE X e t) (i : ∀ σ H Q, t' σ H Q → t σ H Q) : PE X e t' := ⟨fun pins s σ H Q I q => h.run pins s σ H Q I (i σ H Q q)⟩
theorem PT.imp {X : Cx} {e : Expr} {t t' : TT} (h : PT X e t) (i : ∀ σ H Q, t' σ H Q → t σ H Q) : PT X e t' := ⟨fun pins s σ H Q I q => h.run pins s σ H Q I (i σ H Q q)⟩
theorem PW.imp {X : Cx} {e : Expr} {t t' : TT} (h : PW X e t) (i : ∀ σ H Q, t' σ H Q → t σ H Q) : PW X e t' := ⟨fun wh pins s σ H Q I q => h.run wh pins s σ H Q I (i σ H Q q)⟩
theorem PA.imp {X : Cx} {e : List Expr} {t t' : TA} (h : PA X e t) (i : ∀ σ H Q, t' σ H Q → t σ H Q) : PA X e t' := ⟨fun p pins s σ H Q I q => h.run p pins s σ H Q I (i σ H Q q)⟩
theorem PO.imp {X : Cx} {e : Option Expr} {t t' : TO} (h : PO X e t) (i : ∀ σ H Q, t' σ H Q → t σ H Q) : PO X e t' := ⟨fun pins s σ H Q I q => h.run pins s σ H Q I (i σ H Q q)⟩

section
variable {X : Cx} {C : Ctx} {W : WX} {o o1 : Nat → List Addr} {σ : St} {H H1 : Hp}
theorem ExP.shift (t : Tx (FF C.B o) H (FF C.B o1) H1) {c : Str} {ρ : Env} (h : ExP X C W o σ H c ρ) : ExP X C W o1 σ H1 c ρ := fun H' o' S t' => h H' o' S (t.trans t')
theorem OkP.shift {α β : Type} {Rl : (Addr → Prop) → Hp → β → α → Prop} {Q : β → Hp → Prop} (t : Tx (FF C.B o) H (FF C.B o1) H1) {d : α} {ρ : Env} (h : OkP X C o σ H Rl Q d ρ) : OkP X C o1 σ H1 Rl Q d ρ := fun v H' o' S t' => h v H' o' S (t.trans t')
theorem OkE.shift {Q : VK} (t : Tx (FF C.B o) H (FF C.B o1) H1) {r : R} {ρ : Env} (h : OkE X C o σ H Q r ρ) : OkE X C o1 σ H1 Q r ρ := by
  cases r with
  | val d => exact OkP.shift t h
  | fresh c => exact fun v H' o' as a b c S t' => h v H' o' as a b c S (t.trans t')
theorem SRo.fresh {as : List Addr} {v : V} {c : Cell} {ρ : Env} (S : SRo X.K (C.plus as) o1 ρ σ H1) (h : CR X.K (FF (C.plus as).B o1) H1 as v c) (nB : ∀ a ∈ as, ¬ C.B a) : Sh X.K (FF C.B o1) H1 v c.toD :=
  h.sh (.less fun a z => z.elim (fun q => .inl (.inl q)) .inr) fun a ha z => z.elim (nB a ha) fun ⟨i, q⟩ => S.nB i a q (.inr ha)
theorem Tx.dropB {as : List Addr} {F : Addr → Prop} {H0 : Hp} (t : Tx F H0 (FF (C.plus as).B o1) H1) : Tx F H0 (FF C.B o1) H1 := t.trans (.less fun a z => z.elim (fun q => .inl (.inl q)) .inr)
/-- data is taken where anything is served -/
theorem OkE.of_val {Q : VK} {r : R} {ρ : Env} (h : OkP X C o σ H (Sh X.K) Q r.toD ρ) : OkE X C o σ H Q r ρ := by
  cases r with
  | val d => exact h
  | fresh c => exact fun v H' o' as nd h0 nB S t q => h v H' o' S.less t.dropB (S.fresh q nB)
theorem OkE.of_pk {Q : VK} {r : R} {ρ : Env} (h : OkP X C o σ H (Pk X.K) Q r.toD ρ) : OkE X C o σ H Q r ρ := OkE.of_val fun v H' o' S t s => h v H' o' S t s.pk

def toV (m : Env → Res R) : Env → Res D := fun ρ => bindR (m ρ) fun r ρ1 => .ok r.toD ρ1
theorem JE.v {e : Expr} {m : Env → Res R} (h : JE X C W e m) : JV X C W e (toV m) := PE.imp h fun σ H Q ⟨ρ, o, S, q⟩ => ⟨ρ, o, S, (PoG.bind q).imp (fun r ρ1 z => OkE.of_val z) fun _ _ z => z⟩
theorem JE.p {e : Expr} {m : Env → Res R} (h : JE X C W e m) : JP X C W e (toV m) := PE.imp h fun σ H Q ⟨ρ, o, S, q⟩ => ⟨ρ, o, S, (PoG.bind q).imp (fun r ρ1 z => OkE.of_pk z) fun _ _ z => z⟩

/-- THE STEP: a value, then what follows with it -/
theorem step {α β : Type} {Rl : (Addr → Prop) → Hp → β → α → Prop} {γ : Type} {Ok : Hp → (Nat → List Addr) → γ → Env → Prop} {m : Env → Res α} {k : α → Env → Res γ} {ρ : Env} (S : SRo X.K C o ρ σ H)
    (sh : ∀ H1 o1 g ρ1, Tx (FF C.B o) H (FF C.B o1) H1 → Ok H o g ρ1 → Ok H1 o1 g ρ1)
    (h : PoG (Ok H o) (ExP X C W o σ H) (bindR (m ρ) k)) :
    tV X C W Rl m σ H (fun v H1 => ∃ ρ1 o1 d, SRo X.K C o1 ρ1 σ H1 ∧ Tx (FF C.B o) H (FF C.B o1) H1 ∧ Rl (FF C.B o1) H1 v d ∧ PoG (Ok H1 o1) (ExP X C W o1 σ H1) (k d ρ1)) :=
  ⟨ρ, o, S, (PoG.bind h).imp (fun a ρ1 z v H1 o1 S1 t r => ⟨ρ1, o1, a, S1, t, r, z.imp (fun g r => sh _ _ g r t) fun _ _ => ExP.shift t⟩) fun _ _ z => z⟩
theorem stepE {α β : Type} {Rl : (Addr → Prop) → Hp → β → α → Prop} {Q : VK} {m : Env → Res α} {k : α → Env → Res R} {ρ : Env} (S : SRo X.K C o ρ σ H) (h : PoG (OkE X C o σ H Q) (ExP X C W o σ H) (bindR (m ρ) k)) :
    tV X C W Rl m σ H (fun v H1 => ∃ ρ1 o1 d, SRo X.K C o1 ρ1 σ H1 ∧ Tx (FF C.B o) H (FF C.B o1) H1 ∧ Rl (FF C.B o1) H1 v d ∧ PoG (OkE X C o1 σ H1 Q) (ExP X C W o1 σ H1) (k d ρ1)) :=
  step (Ok := fun H o => OkE X C o σ H Q) S (fun _ _ _ _ t z => OkE.shift t z) h
theorem stepV {α β α' β' : Type} {Rl : (Addr → Prop) → Hp → β → α → Prop} {Rl' : (Addr → Prop) → Hp → β' → α' → Prop} {Q : β' → Hp → Prop} {m : Env → Res α} {k : α → Env → Res α'} {ρ : Env} (S : SRo X.K C o ρ σ H) (h : PoG (OkP X C o σ H Rl' Q) (ExP X C W o σ H) (bindR (m ρ) k)) :
    tV X C W Rl m σ H (fun v H1 => ∃ ρ1 o1 d, SRo X.K C o1 ρ1 σ H1 ∧ Tx (FF C.B o) H (FF C.B o1) H1 ∧ Rl (FF C.B o1) H1 v d ∧ PoG (OkP X C o1 σ H1 Rl' Q) (ExP X C W o1 σ H1) (k d ρ1)) :=
  step (Ok := fun H o => OkP X C o σ H Rl' Q) S (fun _ _ _ _ t z => OkP.shift t z) h

/-! ### what a primitive gives: the heap may grow -/
def NewOk (K : PySem.W.Frag) (F : Addr → Prop) (H : Hp) (Q : VK) : R → Prop
  | .val d => ∀ v H', Same H H' → Sh K F H' v d → Q v H'
  | .fresh c => ∀ v H' as, Same H H' → as.Nodup → (∀ a ∈ as, H a = none) → (∀ a ∈ as, H' a ≠ none) → CR K (fun a => F a ∨ a ∈ as) H' as v c → Q v H'
theorem FF.plus {as : List Addr} {o : Nat → List Addr} {C : Ctx} : ∀ a, FF (C.plus as).B o a ↔ FF C.B o a ∨ a ∈ as := fun a => by
  constructor
  · rintro ((z | z) | z)
    · exact .inl (.inl z)
    · exact .inr z
    · exact .inl (.inr z)
  · rintro ((z | z) | z)
    · exact .inl (.inl z)
    · exact .inr z
    · exact .inl (.inr z)
theorem newOk {ρ : Env} {r : R} {Q : VK} (S : SRo X.K C o ρ σ H) (h : OkE X C o σ H Q r ρ) : NewOk X.K (FF C.B o) H Q r := by
  cases r with
  | val d => exact fun v H' s sh => h v H' o (S.keep s) (.same s) sh
  | fresh c =>
    intro v H' as s nd h0 h1 cr
    have na : ∀ a ∈ as, ¬ FF C.B o a := fun a ha z => S.tr a z (h0 a ha)
    have n0 : ∀ a ∈ as, C.H0 a = none := fun a ha => S.same.free (h0 a ha)
    have t : Tx (FF C.B o) H (FF (C.plus as).B o) H' := .both s fun a z => ((FF.plus a).mp z).elim .inl fun q => .inr (h0 a q)
    refine h v H' o as nd n0 (fun a ha z => na a ha (.inl z)) ⟨S.len, S.same.trans s, S.nod, S.inj, fun i a ha z => z.elim (S.nB i a ha) fun q => na a q (.inr ⟨i, ha⟩), S.fr, fun a z => ?_, fun i => ?_⟩ t ?_
    · rcases (FF.plus a).mp z with z | z
      · rw [same_at s (S.tr a z)]; exact S.tr a z
      · exact h1 a z
    · exact (S.slot i).tx t fun a ha => same_at s (S.tr a (.inr ⟨i, ha⟩))
    · exact cr.tx (.less fun a z => (FF.plus a).mp z) fun _ _ => rfl

/-- binary, unary operations, calls on data -/
def rD2 (K : PySem.W.Frag) (f : D → D → Option R) : R2 := fun x y H Q => ∃ F d e r, (∀ a, F a → H a ≠ none) ∧ Sh K F H x d ∧ Sh K F H y e ∧ f d e = some r ∧ NewOk K F H Q r
def rD1 (K : PySem.W.Frag) (f : D → Option R) : V → Hp → VK → Prop := fun x H Q => ∃ F d r, (∀ a, F a → H a ≠ none) ∧ Sh K F H x d ∧ f d = some r ∧ NewOk K F H Q r
def rP1 (K : PySem.W.Frag) (f : D → Option R) : List V → Hp → VK → Prop := fun xs H Q => ∃ x F d r, xs = [x] ∧ (∀ a, F a → H a ≠ none) ∧ Pk K F H x d ∧ f d = some r ∧ NewOk K F H Q r
def rDn (K : PySem.W.Frag) (f : List D → Option R) : List V → Hp → VK → Prop := fun xs H Q => ∃ F ds r, (∀ a, F a → H a ≠ none) ∧ ShA K F H xs ds ∧ f ds = some r ∧ NewOk K F H Q r
def rDm (K : PySem.W.Frag) (f : D → List D → Option R) : V → List V → Hp → VK → Prop := fun x xs H Q => ∃ F d ds r, (∀ a, F a → H a ≠ none) ∧ Pk K F H x d ∧ ShA K F H xs ds ∧ f d ds = some r ∧ NewOk K F H Q r

def eOp2 (f : D → D → Option R) (a b : Env → Res D) : Env → Res R := fun ρ => bindR (a ρ) fun x ρ1 => bindR (b ρ1) fun y ρ2 => optR (f x y) ρ2
def eOp1 (f : D → Option R) (a : Env → Res D) : Env → Res R := fun ρ => bindR (a ρ) fun x ρ1 => optR (f x) ρ1
def eOpN (f : List D → Option R) (a : Env → Res (List D)) : Env → Res R := fun ρ => bindR (a ρ) fun x ρ1 => optR (f x) ρ1
theorem optE {ρ : Env} {r : Option R} {Q : VK} (h : PoG (OkE X C o σ H Q) (ExP X C W o σ H) (optR r ρ)) : ∃ z, r = some z ∧ OkE X C o σ H Q z ρ := by
  cases r with
  | none => exact h.elim
  | some z => exact ⟨z, rfl, h⟩
variable {a b e : Expr} {ma mb : Env → Res D} {pos : Pos} {f : D → D → Option R}
theorem op2_imp (ρ : Env) {Q : VK} (S : SRo X.K C o ρ σ H) (h : PoG (OkE X C o σ H Q) (ExP X C W o σ H) (eOp2 f ma mb ρ)) :
    tOp (rD2 X.K f) (tV X C W (Sh X.K) ma) (tV X C W (Sh X.K) mb) σ H Q := by
  obtain ⟨ρ0, o0, S0, h0⟩ := stepE (Rl := Sh X.K) S h
  refine ⟨ρ0, o0, S0, h0.imp (fun d ρ1 z v H1 o1 S1 t1 s1 => ?_) fun _ _ z => z⟩
  obtain ⟨ρ1', o1', d', S1', T1, s1', q1⟩ := z v H1 o1 S1 t1 s1
  obtain ⟨ρ2, o2, S2, h2⟩ := stepE (Rl := Sh X.K) S1' q1
  refine ⟨ρ2, o2, S2, h2.imp (fun d2 ρ3 z2 v2 H2 o3 S3 t3 s3 => ?_) fun _ _ z => z⟩
  obtain ⟨ρ4, o4, d4, S4, T4, s4, q4⟩ := z2 v2 H2 o3 S3 t3 s3
  obtain ⟨r, er, q⟩ := optE q4
  exact ⟨FF C.B o4, d', d4, r, S4.tr, s1'.tx T4, s4, er, newOk S4 q⟩
theorem je_op {op : Operator} (ho : OpR X (binaryOp op) (rD2 X.K f)) (ha : JV X C W a ma) (hb : JV X C W b mb) : JE X C W (.BinOp a op b pos) (eOp2 f ma mb) :=
  PE.imp (pe_op ho ha hb) fun σ H Q ⟨ρ, o, S, h⟩ => op2_imp ρ S h
theorem je_cmp {op : CmpOp} (ho : OpR X (compareOp op) (rD2 X.K f)) (ha : JV X C W a ma) (hb : JV X C W b mb) (hm : behindInMarks op b = false) : JE X C W (.Compare a [op] [b] pos) (eOp2 f ma mb) :=
  PE.imp (pe_cmpR ho ha hb hm) fun σ H Q ⟨ρ, o, S, h⟩ => op2_imp ρ S h
theorem je_un {op : UnaryOp} {f : D → Option R} (ho : UnR X (unaryOp op) (rD1 X.K f)) (ha : JV X C W a ma) : JE X C W (.UnaryOp op a pos) (eOp1 f ma) :=
  PE.imp (pe_un ho ha) fun σ H Q ⟨ρ, o, S, h⟩ => by
    obtain ⟨ρ0, o0, S0, h0⟩ := stepE (Rl := Sh X.K) S h
    refine ⟨ρ0, o0, S0, h0.imp (fun d ρ1 z v H1 o1 S1 t1 s1 => ?_) fun _ _ z => z⟩
    obtain ⟨ρ1', o1', d', S1', T1, s1', q1⟩ := z v H1 o1 S1 t1 s1
    obtain ⟨r, er, q⟩ := optE q1
    exact ⟨FF C.B o1', d', r, S1'.tr, s1', er, newOk S1' q⟩
/-- a subscript -/
theorem je_ix (ho : IxR X (rD2 X.K f)) (ha : JV X C W a ma) (hb : JV X C W b mb) (hs : PlainIx b) : JE X C W (.Subscript a b pos) (eOp2 f ma mb) :=
  PE.imp (pe_ix ho ha hb hs) fun σ H Q ⟨ρ, o, S, h⟩ => op2_imp ρ S h

/-! ### names, constants -/
def eVar (i : Nat) : Env → Res R := fun ρ => match gS ρ i with
  | .val d => .ok (.val d) ρ
  | .own c => .ok (.val c.toD) (sS ρ i (.val c.toD))
  | _ => .bad
/-- a name that is read at once -/
def ePk (i : Nat) : Env → Res D := fun ρ => match gS ρ i with
  | .val d => .ok d ρ
  | .own c => .ok c.toD ρ
  | .bor c => .ok c.toD ρ
  | .emp => .bad
def eC (d : D) : Env → Res R := fun ρ => .ok (.val d) ρ
theorem SRo.get {ρ : Env} (S : SRo X.K C o ρ σ H) (i : Nat) : SlR X.K (FF C.B o) H (o i) (C.bv i) σ[i]? (gS ρ i) := S.slot i
theorem je_var {i : Nat} (h : PE X e (tVar i)) : JE X C W e (eVar i) := PE.imp h fun σ H Q ⟨ρ, o, S, q⟩ => by
  have z := S.get i
  unfold eVar at q
  cases g : gS ρ i with
  | emp => rw [g] at q; exact q.elim
  | val d =>
    rw [g] at q z
    obtain ⟨_, v, ev, s⟩ := z
    exact ⟨v, ev, q v H o S (.refl _ _) s⟩
  | own c =>
    rw [g] at q z
    obtain ⟨v, ev, s⟩ := z
    have sh : Sh X.K (FF C.B (oset o i [])) H v c.toD := s.sh (.less FF.drop) fun a ha z => z.elim (S.nB i a ha) fun ⟨j, q⟩ => (oset_nil_mem q).1 (S.inj _ _ _ (oset_nil_mem q).2 ha)
    exact ⟨v, ev, q v H (oset o i []) (S.drop rfl (fun _ _ => rfl) fun _ => ⟨rfl, v, ev, sh⟩) (.less FF.drop) sh⟩
  | bor c => rw [g] at q; exact q.elim
theorem jp_var {i : Nat} (h : PE X e (tVar i)) : JP X C W e (ePk i) := PE.imp h fun σ H Q ⟨ρ, o, S, q⟩ => by
  have z := S.get i
  unfold ePk at q
  cases g : gS ρ i with
  | emp => rw [g] at q; exact q.elim
  | val d =>
    rw [g] at q z
    obtain ⟨_, v, ev, s⟩ := z
    exact ⟨v, ev, q v H o S (.refl _ _) s.pk⟩
  | own c =>
    rw [g] at q z
    obtain ⟨v, ev, s⟩ := z
    exact ⟨v, ev, q v H o S (.refl _ _) s.pk⟩
  | bor c =>
    rw [g] at q z
    exact ⟨_, z.1, q _ H o S (.refl _ _) z.2.pk⟩
theorem je_c {v : V} {d : D} (h : PE X e (tC v)) (hd : ∀ F H, Sh X.K F H v d) : JE X C W e (eC d) := PE.imp h fun σ H Q ⟨ρ, o, S, q⟩ => q v H o S (.refl _ _) (hd _ _)
theorem je_int {i j} : JE X C W (.Constant (.int i) j pos) (eC (.int i)) := je_c pe_int fun _ _ => .int i
theorem je_bl {b j} : JE X C W (.Constant (.bool b) j pos) (eC (.bool b)) := je_c pe_bl fun _ _ => .bl b
theorem je_non {j} : JE X C W (.Constant .none j pos) (eC .none) := je_c pe_non fun _ _ => .non
theorem je_str {x j} : JE X C W (.Constant (.str x) j pos) (eC (.str x)) := je_c pe_str fun _ _ => .str x
/-- a module's constant -/
theorem je_gint {x : Str} {i : Int} {t : Tok} (hm : X.mg x = some (.int i t)) (hg : Gl X x) (hd : (x == ("__debug__" : Str)) = false := by decide) : JE X C W (.Name x pos) (eC (.int i)) := je_c (pe_glob (v := .int i) hg hm ⟨t, rfl⟩ hd) fun _ _ => .int i
theorem je_gstr {x z : Str} {t : Tok} (hm : X.mg x = some (.str z t)) (hg : Gl X x) (hd : (x == ("__debug__" : Str)) = false := by decide) : JE X C W (.Name x pos) (eC (.str z)) := je_c (pe_glob (v := .str z) hg hm ⟨t, rfl⟩ hd) fun _ _ => .str z

/-! ### arguments, displays -/
def aNil : Env → Res (List D) := fun ρ => .ok [] ρ
def aCons (m : Env → Res D) (r : Env → Res (List D)) : Env → Res (List D) := fun ρ => bindR (m ρ) fun x ρ1 => bindR (r ρ1) fun xs ρ2 => .ok (x :: xs) ρ2
theorem ja_nil : JA X C W [] aNil := PA.imp pa_nil fun σ H Q ⟨ρ, o, S, q⟩ => q [] H o S (.refl _ _) .nil
theorem ja_cons {es : List Expr} {mr : Env → Res (List D)} (ha : JV X C W e ma) (hr : JA X C W es mr) (hs : starEach (e :: es) X.env = (false, eval e X.env) :: starEach es X.env := by rfl) : JA X C W (e :: es) (aCons ma mr) :=
  PA.imp (pa_cons ha hr hs) fun σ H Q ⟨ρ, o, S, h⟩ => by
    obtain ⟨ρ0, o0, S0, h0⟩ := stepV (Rl := Sh X.K) S h
    refine ⟨ρ0, o0, S0, h0.imp (fun d ρ1 z v H1 o1 S1 t1 s1 => ?_) fun _ _ z => z⟩
    obtain ⟨ρ1', o1', d', S1', T1, s1', q1⟩ := z v H1 o1 S1 t1 s1
    obtain ⟨ρ2, o2, S2, h2⟩ := stepV (Rl := ShA X.K) S1' q1
    refine ⟨ρ2, o2, S2, h2.imp (fun d2 ρ3 z2 v2 H2 o3 S3 t3 s3 => ?_) fun _ _ z => z⟩
    obtain ⟨ρ4, o4, d4, S4, T4, s4, q4⟩ := z2 v2 H2 o3 S3 t3 s3
    exact q4 (v :: v2) H2 o4 S4 (.refl _ _) (.cons (s1'.tx T4) s4)
/-- 16,777,216 -/
theorem line_of {n : Nat} (h : n ≤ 16777216) : n ≤ sizeLine := by rw [sizeLine_eq]; exact h
theorem line_lt {n : Nat} (h : n < 16777216) : n < sizeLine := by rw [sizeLine_eq]; exact h
theorem same_new {H : Hp} {p : Addr} {o : HO} (h : H p = none) : Same H (upd H p o) := fun b x e => by
  rw [upd_ne (ne_of_none e h)]
  exact e
/-- a new tuple, a new list, for NewOk -/
theorem new_tup {K : PySem.W.Frag} {F : Addr → Prop} {H : Hp} {Q : VK} {vs : List V} {ds : List D} (tr : ∀ a, F a → H a ≠ none) (s : ShA K F H vs ds) (q : NewOk K F H Q (.val (.tuple ds))) : ∀ p, H p = none → Q (.ref p) (upd H p (.tup vs)) := fun p hp =>
  q _ _ (same_new hp) (.tup (.inl ⟨fun z => tr p z hp, .inl upd_same⟩) (s.tx (.same (same_new hp))))
theorem new_lst {K : PySem.W.Frag} {F : Addr → Prop} {H : Hp} {Q : VK} {vs : List V} {ds : List D} (tr : ∀ a, F a → H a ≠ none) (s : ShA K F H vs ds) (q : NewOk K F H Q (.fresh (.lst ds))) : ∀ p, H p = none → Q (.ref p) (upd H p (.lst vs)) := fun p hp =>
  q _ _ [p] (same_new hp) (by simp) (fun a ha => by simp at ha; rw [ha]; exact hp) (fun a ha => by simp at ha; rw [ha, upd_same]; exact fun z => nomatch z)
    ⟨p, vs, rfl, rfl, upd_same, s.tx (.both (same_new hp) fun a z => z.elim .inl fun q => by simp at q; rw [q]; exact .inr hp)⟩
def fTup (ds : List D) : Option R := if ds.length ≤ 16777216 then some (.val (.tuple ds)) else none
def fLst (ds : List D) : Option R := if ds.length ≤ 16777216 then some (.fresh (.lst ds)) else none
theorem je_tup {es : List Expr} {m : Env → Res (List D)} {x1} (h : JA X C W es m) : JE X C W (.Tuple es x1 pos) (eOpN fTup m) := PE.imp (pe_tup h) fun σ H Q ⟨ρ, o, S, h⟩ => by
  obtain ⟨ρ0, o0, S0, h0⟩ := stepE (Rl := ShA X.K) S h
  refine ⟨ρ0, o0, S0, h0.imp (fun d ρ1 z v H1 o1 S1 t1 s1 => ?_) fun _ _ z => z⟩
  obtain ⟨ρ1', o1', d', S1', T1, s1', q1⟩ := z v H1 o1 S1 t1 s1
  obtain ⟨r, er, q⟩ := optE q1
  unfold fTup at er
  split at er
  · cases er
    exact ⟨by rw [s1'.length]; exact line_of (by assumption), new_tup S1'.tr s1' (newOk S1' q)⟩
  · cases er
theorem je_lst {es : List Expr} {m : Env → Res (List D)} (h : JA X C W es m) : JE X C W (.List es pos) (eOpN fLst m) := PE.imp (pe_lst h) fun σ H Q ⟨ρ, o, S, h⟩ => by
  obtain ⟨ρ0, o0, S0, h0⟩ := stepE (Rl := ShA X.K) S h
  refine ⟨ρ0, o0, S0, h0.imp (fun d ρ1 z v H1 o1 S1 t1 s1 => ?_) fun _ _ z => z⟩
  obtain ⟨ρ1', o1', d', S1', T1, s1', q1⟩ := z v H1 o1 S1 t1 s1
  obtain ⟨r, er, q⟩ := optE q1
  unfold fLst at er
  split at er
  · cases er
    exact ⟨by rw [s1'.length]; exact line_of (by assumption), new_lst S1'.tr s1' (newOk S1' q)⟩
  · cases er

/-! ### built-ins by name -/
theorem jeB_imp {fn : List D → Option R} {m : Env → Res (List D)} {ρ : Env} {Q : VK} (S : SRo X.K C o ρ σ H) (h : PoG (OkE X C o σ H Q) (ExP X C W o σ H) (eOpN fn m ρ)) : tCB (rDn X.K fn) (tV X C W (ShA X.K) m) σ H Q := by
  obtain ⟨ρ0, o0, S0, h0⟩ := stepE (Rl := ShA X.K) S h
  refine ⟨ρ0, o0, S0, h0.imp (fun d ρ1 z v H1 o1 S1 t1 s1 => ?_) fun _ _ z => z⟩
  obtain ⟨ρ1', o1', d', S1', T1, s1', q1⟩ := z v H1 o1 S1 t1 s1
  obtain ⟨r, er, q⟩ := optE q1
  exact ⟨FF C.B o1', d', r, S1'.tr, s1', er, newOk S1' q⟩
theorem jeP_imp {fn : D → Option R} {m : Env → Res D} {ρ : Env} {Q : VK} (S : SRo X.K C o ρ σ H) (h : PoG (OkE X C o σ H Q) (ExP X C W o σ H) (eOp1 fn m ρ)) : tCB (rP1 X.K fn) (tCons (tV X C W (Pk X.K) m) tNil) σ H Q := by
  obtain ⟨ρ0, o0, S0, h0⟩ := stepE (Rl := Pk X.K) S h
  refine ⟨ρ0, o0, S0, h0.imp (fun d ρ1 z v H1 o1 S1 t1 s1 => ?_) fun _ _ z => z⟩
  obtain ⟨ρ1', o1', d', S1', T1, s1', q1⟩ := z v H1 o1 S1 t1 s1
  obtain ⟨r, er, q⟩ := optE q1
  exact ⟨v, FF C.B o1', d', r, rfl, S1'.tr, s1', er, newOk S1' q⟩
variable {x : Str} {id T : String} {es : List Expr} {m : Env → Res (List D)} {p : Pos}
/-- name(e) of a built-in that reads its one argument at once -/
theorem je_b1 {f : D → Option R} (hc : CallR X (.builtin id) (rP1 X.K f)) (hm : X.mg x = none) (hv : bootBuiltins x = some (.builtin id)) (ha : JP X C W e ma) (hg : Gl X x)
    (hn : x ≠ "__name__" := by decide) (hdb : (x == ("__debug__" : Str)) = false := by decide) (hs : starEach [e] X.env = (false, eval e X.env) :: starEach [] X.env := by rfl) (he : starEach (e :: []) X.env = (false, eval e X.env) :: starEach [] X.env := by rfl) (hpl : (backTo pos (starEach [] X.env)).any (·.1) = false := by rfl) :
    JE X C W (.Call (.Name x p) [e] [] pos) (eOp1 f ma) := PE.imp (pe_callB hc hg hm hv (pa_cons ha pa_nil hs) hn hdb he hpl) fun σ H Q ⟨ρ, o, S, h⟩ => jeP_imp S h
theorem je_t1 {f : D → Option R} (hc : CallR X (.type T) (rP1 X.K f)) (hm : X.mg x = none) (hv : bootBuiltins x = some (.type T)) (ha : JP X C W e ma) (hg : Gl X x)
    (hn : x ≠ "__name__" := by decide) (hdb : (x == ("__debug__" : Str)) = false := by decide) (hs : starEach [e] X.env = (false, eval e X.env) :: starEach [] X.env := by rfl) (he : starEach (e :: []) X.env = (false, eval e X.env) :: starEach [] X.env := by rfl) (hpl : (backTo pos (starEach [] X.env)).any (·.1) = false := by rfl) :
    JE X C W (.Call (.Name x p) [e] [] pos) (eOp1 f ma) := PE.imp (pe_callTy hc hg hm hv (pa_cons ha pa_nil hs) hn hdb he hpl) fun σ H Q ⟨ρ, o, S, h⟩ => jeP_imp S h
/-- name(e, ..) of a built-in -/
theorem je_bn {f : List D → Option R} (hc : CallR X (.builtin id) (rDn X.K f)) (hm : X.mg x = none) (hv : bootBuiltins x = some (.builtin id)) (ha : JA X C W (e :: es) m) (hg : Gl X x)
    (hn : x ≠ "__name__" := by decide) (hdb : (x == ("__debug__" : Str)) = false := by decide) (he : starEach (e :: es) X.env = (false, eval e X.env) :: starEach es X.env := by rfl) (hpl : (backTo pos (starEach es X.env)).any (·.1) = false := by rfl) :
    JE X C W (.Call (.Name x p) (e :: es) [] pos) (eOpN f m) := PE.imp (pe_callB hc hg hm hv ha hn hdb he hpl) fun σ H Q ⟨ρ, o, S, h⟩ => jeB_imp S h
/-- .. of a module's (from math import gcd) -/
theorem je_bf {f : List D → Option R} (hc : CallR X (.builtin id) (rDn X.K f)) (hm : X.mg x = some (.builtin id)) (ha : JA X C W (e :: es) m) (hg : Gl X x) (hdb : (x == ("__debug__" : Str)) = false := by decide) (he : starEach (e :: es) X.env = (false, eval e X.env) :: starEach es X.env := by rfl) (hpl : (backTo pos (starEach es X.env)).any (·.1) = false := by rfl) :
    JE X C W (.Call (.Name x p) (e :: es) [] pos) (eOpN f m) := PE.imp (L2.pe_callBfun hc hg hm ha hdb he hpl) fun σ H Q ⟨ρ, o, S, h⟩ => jeB_imp S h

/-! ### and, or, not; tests -/
def eBl (b : Bool) : R := .val (.bool b)
def asB : R → Option Bool
  | .val (.bool b) => some b
  | _ => none
def tBoolD (m : Env → Res R) : Env → Res Bool := fun ρ => bindR (m ρ) fun r ρ1 => optR (asB r) ρ1
def tAndD (a b : Env → Res Bool) : Env → Res Bool := fun ρ => bindR (a ρ) fun c ρ1 => match c with | true => b ρ1 | false => .ok false ρ1
def tOrD (a b : Env → Res Bool) : Env → Res Bool := fun ρ => bindR (a ρ) fun c ρ1 => match c with | true => .ok true ρ1 | false => b ρ1
def tNotD (a : Env → Res Bool) : Env → Res Bool := fun ρ => bindR (a ρ) fun c ρ1 => .ok (!c) ρ1
def eAndD (a b : Env → Res R) : Env → Res R := fun ρ => bindR (a ρ) fun r ρ1 => match r with | .val (.bool true) => b ρ1 | .val (.bool false) => .ok (eBl false) ρ1 | _ => .bad
def eOrD (a b : Env → Res R) : Env → Res R := fun ρ => bindR (a ρ) fun r ρ1 => match r with | .val (.bool true) => .ok (eBl true) ρ1 | .val (.bool false) => b ρ1 | _ => .bad
def eNotD (a : Env → Res R) : Env → Res R := fun ρ => bindR (a ρ) fun r ρ1 => match r with | .val (.bool b) => .ok (eBl (!b)) ρ1 | _ => .bad
def eIfD (t : Env → Res Bool) (a b : Env → Res R) : Env → Res R := fun ρ => bindR (t ρ) fun c ρ1 => match c with | true => a ρ1 | false => b ρ1
theorem stepB {γ : Type} {Ok : Hp → (Nat → List Addr) → γ → Env → Prop} {m : Env → Res Bool} {k : Bool → Env → Res γ} {ρ : Env} (S : SRo X.K C o ρ σ H)
    (sh : ∀ H1 o1 g ρ1, Tx (FF C.B o) H (FF C.B o1) H1 → Ok H o g ρ1 → Ok H1 o1 g ρ1) (h : PoG (Ok H o) (ExP X C W o σ H) (bindR (m ρ) k)) :
    tV X C W RlB m σ H (fun b H1 => ∃ ρ1 o1, SRo X.K C o1 ρ1 σ H1 ∧ Tx (FF C.B o) H (FF C.B o1) H1 ∧ PoG (Ok H1 o1) (ExP X C W o1 σ H1) (k b ρ1)) := by
  obtain ⟨ρ0, o0, S0, h0⟩ := step (Rl := RlB) S sh h
  refine ⟨ρ0, o0, S0, h0.imp (fun d ρ1 z v H1 o1 S1 t1 s1 => ?_) fun _ _ z => z⟩
  obtain ⟨ρ1', o1', d', S1', T1, s1', q1⟩ := z v H1 o1 S1 t1 s1
  have e : v = d' := s1'
  subst e
  exact ⟨ρ1', o1', S1', T1, q1⟩
/-- a value first, its R at hand -/
theorem stepR {γ : Type} {Ok : Hp → (Nat → List Addr) → γ → Env → Prop} {m : Env → Res R} {k : R → Env → Res γ} {ρ : Env} (S : SRo X.K C o ρ σ H)
    (sh : ∀ H1 o1 g ρ1, Tx (FF C.B o) H (FF C.B o1) H1 → Ok H o g ρ1 → Ok H1 o1 g ρ1) (h : PoG (Ok H o) (ExP X C W o σ H) (bindR (m ρ) k)) :
    tE X C W m σ H (fun v H1 => ∃ ρ1 o1 r, SRo X.K C o1 ρ1 σ H1 ∧ Tx (FF C.B o) H (FF C.B o1) H1 ∧ Sh X.K (FF C.B o1) H1 v r.toD ∧ PoG (Ok H1 o1) (ExP X C W o1 σ H1) (k r ρ1)) :=
  ⟨ρ, o, S, (PoG.bind h).imp (fun r ρ1 z => OkE.of_val fun v H1 o1 S1 t s => ⟨ρ1, o1, r, S1, t, s, z.imp (fun g r => sh _ _ g r t) fun _ _ => ExP.shift t⟩) fun _ _ z => z⟩
theorem Sh.ofBool {K : PySem.W.Frag} {F : Addr → Prop} {H : Hp} {v : V} {b : Bool} (h : Sh K F H v (.bool b)) : v = .bl b := by cases h; rfl
theorem Sh.ofInt {K : PySem.W.Frag} {F : Addr → Prop} {H : Hp} {v : V} {b : Int} (h : Sh K F H v (.int b)) : v = .int b := by cases h; rfl
theorem Sh.ofStr {K : PySem.W.Frag} {F : Addr → Prop} {H : Hp} {v : V} {b : Str} (h : Sh K F H v (.str b)) : v = .str b := by cases h; rfl
theorem Sh.ofNone {K : PySem.W.Frag} {F : Addr → Prop} {H : Hp} {v : V} (h : Sh K F H v .none) : v = .non := by cases h; rfl
variable {na nb : Env → Res R} {ta tb tc : Env → Res Bool}
theorem asB_eq {r : R} {b : Bool} (h : asB r = some b) : r = .val (.bool b) := by
  cases r with
  | val d => cases d <;> simp [asB] at h; subst h; rfl
  | fresh c => simp [asB] at h
/-- an expression that is a bool, as a test -/
theorem tB_imp {ρ : Env} {Q : Bool → Hp → Prop} (S : SRo X.K C o ρ σ H) (h : PoG (OkP X C o σ H RlB Q) (ExP X C W o σ H) (tBoolD na ρ)) : tE X C W na σ H fun v H1 => ∃ c, v = .bl c ∧ Q c H1 := by
  obtain ⟨ρ0, o0, S0, h0⟩ := stepR (Ok := fun H o => OkP X C o σ H RlB Q) S (fun _ _ _ _ t z => OkP.shift t z) h
  refine ⟨ρ0, o0, S0, h0.imp (fun r ρ1 z => ?_) fun _ _ z => z⟩
  have z' : OkE X C o0 σ H (fun v H1 => ∃ ρ1 o1 r, SRo X.K C o1 ρ1 σ H1 ∧ Tx (FF C.B o) H (FF C.B o1) H1 ∧ Sh X.K (FF C.B o1) H1 v r.toD ∧ PoG (OkP X C o1 σ H1 RlB Q) (ExP X C W o1 σ H1) (optR (asB r) ρ1)) r ρ1 := z
  have fin : ∀ v H1, (∃ ρ1 o1 r, SRo X.K C o1 ρ1 σ H1 ∧ Tx (FF C.B o) H (FF C.B o1) H1 ∧ Sh X.K (FF C.B o1) H1 v r.toD ∧ PoG (OkP X C o1 σ H1 RlB Q) (ExP X C W o1 σ H1) (optR (asB r) ρ1)) → ∃ c, v = .bl c ∧ Q c H1 := by
    rintro v H1 ⟨ρ1, o1, r, S1, T1, s, q⟩
    cases e : asB r with
    | none => rw [e] at q; exact q.elim
    | some b =>
      rw [e] at q
      have er := asB_eq e
      subst er
      exact ⟨b, s.ofBool, q b H1 o1 S1 (.refl _ _) rfl⟩
  cases r with
  | val d => exact fun v H1 o1 S1 t s => fin v H1 (z' v H1 o1 S1 t s)
  | fresh c => exact fun v H1 o1 as a1 a2 a3 S1 t s => fin v H1 (z' v H1 o1 as a1 a2 a3 S1 t s)
theorem jt_val (h : JE X C W e na) (he : ∀ whole, isTrue e X.env whole = (do let v ← whole; standAt e.pos; holding [v] (truthy v)) := by intro _; rfl) : JT X C W e (tBoolD na) :=
  PT.imp (pt_val h he) fun σ H Q ⟨ρ, o, S, h⟩ => tB_imp S h
theorem jt_cmp {op : CmpOp} (ho : OpR X (compareOp op) (rD2 X.K f)) (ha : JV X C W a ma) (hb : JV X C W b mb) (hm : behindInMarks op b = false) : JT X C W (.Compare a [op] [b] pos) (tBoolD (eOp2 f ma mb)) :=
  PT.imp (pt_cmpR ho ha hb hm) fun σ H Q ⟨ρ, o, S, h⟩ => by
    obtain ⟨ρ0, o0, S0, h0⟩ := tB_imp S h
    exact op2_imp ρ0 S0 h0
theorem jt_not (h : JT X C W a ta) : JT X C W (.UnaryOp .Not a pos) (tNotD ta) := PT.imp (pt_not h) fun σ H Q ⟨ρ, o, S, h⟩ => by
  obtain ⟨ρ0, o0, S0, h0⟩ := stepB (Ok := fun H o => OkP X C o σ H RlB Q) S (fun _ _ _ _ t z => OkP.shift t z) h
  refine ⟨ρ0, o0, S0, h0.imp (fun d ρ1 z v H1 o1 S1 t1 s1 => ?_) fun _ _ z => z⟩
  obtain ⟨ρ1', o1', S1', T1, q1⟩ := z v H1 o1 S1 t1 s1
  exact q1 _ H1 o1' S1' (.refl _ _) rfl
variable {rest : List Expr}
theorem jw_and1 (h : JT X C W a ta) : JW X C W (.BoolOp .And [a] pos) ta := PW.imp (pw_and1 h) fun _ _ _ z => z
theorem jw_or1 (h : JT X C W a ta) : JW X C W (.BoolOp .Or [a] pos) ta := PW.imp (pw_or1 h) fun _ _ _ z => z
theorem jw_and (ha : JT X C W a ta) (hb : JW X C W (.BoolOp .And (b :: rest) pos) tb) : JW X C W (.BoolOp .And (a :: b :: rest) pos) (tAndD ta tb) := PW.imp (pw_and ha hb) fun σ H Q ⟨ρ, o, S, h⟩ => by
  obtain ⟨ρ0, o0, S0, h0⟩ := stepB (Ok := fun H o => OkP X C o σ H RlB Q) S (fun _ _ _ _ t z => OkP.shift t z) h
  refine ⟨ρ0, o0, S0, h0.imp (fun d ρ1 z v H1 o1 S1 t1 s1 => ?_) fun _ _ z => z⟩
  obtain ⟨ρ1', o1', S1', T1, q1⟩ := z v H1 o1 S1 t1 s1
  cases v with
  | true => exact ⟨ρ1', o1', S1', q1⟩
  | false => exact q1 _ H1 o1' S1' (.refl _ _) rfl
theorem jw_or (ha : JT X C W a ta) (hb : JW X C W (.BoolOp .Or (b :: rest) pos) tb) : JW X C W (.BoolOp .Or (a :: b :: rest) pos) (tOrD ta tb) := PW.imp (pw_or ha hb) fun σ H Q ⟨ρ, o, S, h⟩ => by
  obtain ⟨ρ0, o0, S0, h0⟩ := stepB (Ok := fun H o => OkP X C o σ H RlB Q) S (fun _ _ _ _ t z => OkP.shift t z) h
  refine ⟨ρ0, o0, S0, h0.imp (fun d ρ1 z v H1 o1 S1 t1 s1 => ?_) fun _ _ z => z⟩
  obtain ⟨ρ1', o1', S1', T1, q1⟩ := z v H1 o1 S1 t1 s1
  cases v with
  | false => exact ⟨ρ1', o1', S1', q1⟩
  | true => exact q1 _ H1 o1' S1' (.refl _ _) rfl
theorem JW.t (h : JW X C W e ta) : JT X C W e ta := PW.pt h
/-- as values -/
theorem je_one {op} (h : JE X C W a na) : JE X C W (.BoolOp op [a] pos) na := pe_one h
theorem bindOk {Q : VK} {r : R} {ρ : Env} (h : OkE X C o σ H Q r ρ) {P : VK} (i : ∀ v H1, Q v H1 → P v H1) : OkE X C o σ H P r ρ := by
  cases r with
  | val d => exact fun v H1 o1 S1 t s => i v H1 (h v H1 o1 S1 t s)
  | fresh c => exact fun v H1 o1 as a1 a2 a3 S1 t s => i v H1 (h v H1 o1 as a1 a2 a3 S1 t s)
theorem je_and (ha : JE X C W a na) (hb : JE X C W (.BoolOp .And (b :: rest) pos) nb) : JE X C W (.BoolOp .And (a :: b :: rest) pos) (eAndD na nb) := PE.imp (pe_and ha hb) fun σ H Q ⟨ρ, o, S, h⟩ => by
  obtain ⟨ρ0, o0, S0, h0⟩ := stepR (Ok := fun H o => OkE X C o σ H Q) S (fun _ _ _ _ t z => OkE.shift t z) h
  refine ⟨ρ0, o0, S0, h0.imp (fun r ρ1 z => bindOk z fun v H1 ⟨ρ1, o1, r, S1, T1, s, q⟩ => ?_) fun _ _ z => z⟩
  cases r with
  | fresh c => exact q.elim
  | val d =>
    cases d with
    | bool b =>
      refine ⟨b, s.ofBool, ?_⟩
      cases b with
      | true => exact ⟨ρ1, o1, S1, q⟩
      | false => exact q _ H1 o1 S1 (.refl _ _) (.bl false)
    | _ => exact q.elim
theorem je_or (ha : JE X C W a na) (hb : JE X C W (.BoolOp .Or (b :: rest) pos) nb) : JE X C W (.BoolOp .Or (a :: b :: rest) pos) (eOrD na nb) := PE.imp (pe_or ha hb) fun σ H Q ⟨ρ, o, S, h⟩ => by
  obtain ⟨ρ0, o0, S0, h0⟩ := stepR (Ok := fun H o => OkE X C o σ H Q) S (fun _ _ _ _ t z => OkE.shift t z) h
  refine ⟨ρ0, o0, S0, h0.imp (fun r ρ1 z => bindOk z fun v H1 ⟨ρ1, o1, r, S1, T1, s, q⟩ => ?_) fun _ _ z => z⟩
  cases r with
  | fresh c => exact q.elim
  | val d =>
    cases d with
    | bool b =>
      refine ⟨b, s.ofBool, ?_⟩
      cases b with
      | false => exact ⟨ρ1, o1, S1, q⟩
      | true => exact q _ H1 o1 S1 (.refl _ _) (.bl true)
    | _ => exact q.elim
theorem je_not (ha : JE X C W a na) : JE X C W (.UnaryOp .Not a pos) (eNotD na) := PE.imp (pe_not ha) fun σ H Q ⟨ρ, o, S, h⟩ => by
  obtain ⟨ρ0, o0, S0, h0⟩ := stepR (Ok := fun H o => OkE X C o σ H Q) S (fun _ _ _ _ t z => OkE.shift t z) h
  refine ⟨ρ0, o0, S0, h0.imp (fun r ρ1 z => bindOk z fun v H1 ⟨ρ1, o1, r, S1, T1, s, q⟩ => ?_) fun _ _ z => z⟩
  cases r with
  | fresh c => exact q.elim
  | val d =>
    cases d with
    | bool b => exact ⟨b, s.ofBool, q _ H1 o1 S1 (.refl _ _) (.bl _)⟩
    | _ => exact q.elim
theorem je_if {c : Expr} (hc : JT X C W c tc) (ha : JE X C W a na) (hb : JE X C W b nb) : JE X C W (.IfExp c a b pos) (eIfD tc na nb) := PE.imp (pe_ifExp hc ha hb) fun σ H Q ⟨ρ, o, S, h⟩ => by
  obtain ⟨ρ0, o0, S0, h0⟩ := stepB (Ok := fun H o => OkE X C o σ H Q) S (fun _ _ _ _ t z => OkE.shift t z) h
  refine ⟨ρ0, o0, S0, h0.imp (fun d ρ1 z v H1 o1 S1 t1 s1 => ?_) fun _ _ z => z⟩
  obtain ⟨ρ1', o1', S1', T1, q1⟩ := z v H1 o1 S1 t1 s1
  cases v with
  | true => exact ⟨ρ1', o1', S1', q1⟩
  | false => exact ⟨ρ1', o1', S1', q1⟩
/-- a comparison of three -/
def eChain (f g : D → D → Option R) (a b c : Env → Res D) : Env → Res R := fun ρ => bindR (a ρ) fun x ρ1 => bindR (b ρ1) fun y ρ2 => bindR (optR (f x y) ρ2) fun r ρ3 => match asB r with
  | some true => bindR (c ρ3) fun z ρ4 => optR (g y z) ρ4
  | some false => .ok (eBl false) ρ3
  | none => .bad
end
end Dn
set_option Elab.async false
set_option linter.all false
set_option maxRecDepth 100000
set_option maxHeartbeats 1000000
/-! Dn3: statements, loops, comprehensions -/
namespace Dn
open PySem L2

inductive SR where
  | nx (ρ : Env)
  | ret (r : R) (ρ : Env)
  | brk (ρ : Env)
  | cnt (ρ : Env)
  | exc (c : Str) (ρ : Env)
  | bad
def bindS (r : SR) (k : Env → SR) : SR := match r with
  | .nx ρ => k ρ
  | r => r
def bindRS {α : Type} (r : Res α) (k : α → Env → SR) : SR := match r with
  | .ok a ρ => k a ρ
  | .exc c ρ => .exc c ρ
  | .bad => .bad
@[simp] theorem bindS_nx {ρ : Env} {k : Env → SR} : bindS (.nx ρ) k = k ρ := id rfl
@[simp] theorem bindS_ret {r : R} {ρ : Env} {k : Env → SR} : bindS (.ret r ρ) k = .ret r ρ := id rfl
@[simp] theorem bindS_brk {ρ : Env} {k : Env → SR} : bindS (.brk ρ) k = .brk ρ := id rfl
@[simp] theorem bindS_cnt {ρ : Env} {k : Env → SR} : bindS (.cnt ρ) k = .cnt ρ := id rfl
@[simp] theorem bindS_exc {c : Str} {ρ : Env} {k : Env → SR} : bindS (.exc c ρ) k = .exc c ρ := id rfl
@[simp] theorem bindS_bad {k : Env → SR} : bindS .bad k = .bad := id rfl
@[simp] theorem bindRS_ok {α : Type} {a : α} {ρ : Env} {k : α → Env → SR} : bindRS (.ok a ρ) k = k a ρ := id rfl
@[simp] theorem bindRS_exc {α : Type} {c : Str} {ρ : Env} {k : α → Env → SR} : bindRS (.exc c ρ) k = .exc c ρ := id rfl
@[simp] theorem bindRS_bad {α : Type} {k : α → Env → SR} : bindRS (.bad : Res α) k = .bad := id rfl

section
variable (X : Cx) (C : Ctx) (W : WX) (o : Nat → List Addr) (H : Hp)
def NxP (Q : St → Hp → Prop) (ρ : Env) : Prop := ∀ σ' H' o', SRo X.K C o' ρ σ' H' → Tx (FF C.B o) H (FF C.B o') H' → Q σ' H'
def RtP (Q : VK) (r : R) (ρ : Env) : Prop := ∀ σ', OkE X C o σ' H Q r ρ
def PoS (D : Ends) : SR → Prop
  | .nx ρ => NxP X C o H D.nx ρ
  | .ret r ρ => RtP X C o H D.rt r ρ
  | .brk ρ => NxP X C o H D.bk ρ
  | .cnt ρ => NxP X C o H D.ct ρ
  | .exc c ρ => ∀ σ', ExP X C W o σ' H c ρ
  | .bad => False
def tS (s : Env → SR) : TS := fun D σ H => ∃ ρ o, SRo X.K C o ρ σ H ∧ PoS X C W o H D (s ρ)
end
def JS (X : Cx) (C : Ctx) (W : WX) (st : Stmt) (s : Env → SR) : Prop := PS X st (tS X C W s)
def JSs (X : Cx) (C : Ctx) (W : WX) (st : List Stmt) (s : Env → SR) : Prop := PSs X st (tS X C W s)
theorem PS.imp {X : Cx} {st : Stmt} {t t' : TS} (h : PS X st t) (i : ∀ D σ H, t' D σ H → t D σ H) : PS X st t' := ⟨fun pins s σ H D I q => h.run pins s σ H D I (i D σ H q)⟩
theorem PSs.imp {X : Cx} {st : List Stmt} {t t' : TS} (h : PSs X st t) (i : ∀ D σ H, t' D σ H → t D σ H) : PSs X st t' := ⟨fun pins s σ H D I q => h.run pins s σ H D I (i D σ H q)⟩

section
variable {X : Cx} {C : Ctx} {W : WX} {o o1 : Nat → List Addr} {σ : St} {H H1 : Hp}
theorem PoS.shift {D : Ends} (t : Tx (FF C.B o) H (FF C.B o1) H1) {r : SR} (h : PoS X C W o H D r) : PoS X C W o1 H1 D r := by
  cases r with
  | nx ρ => exact fun σ' H' o' S t' => h σ' H' o' S (t.trans t')
  | ret r ρ => exact fun σ' => OkE.shift t (h σ')
  | brk ρ => exact fun σ' H' o' S t' => h σ' H' o' S (t.trans t')
  | cnt ρ => exact fun σ' H' o' S t' => h σ' H' o' S (t.trans t')
  | exc c ρ => exact fun σ' => ExP.shift t (h σ')
  | bad => exact h
theorem PoS.imp {D D' : Ends} {r : SR} (h : PoS X C W o H D r) (i1 : ∀ σ H, D.nx σ H → D'.nx σ H) (i2 : ∀ v H, D.rt v H → D'.rt v H) (i3 : ∀ σ H, D.bk σ H → D'.bk σ H) (i4 : ∀ σ H, D.ct σ H → D'.ct σ H) : PoS X C W o H D' r := by
  cases r with
  | nx ρ => exact fun σ' H' o' S t' => i1 _ _ (h σ' H' o' S t')
  | ret r ρ => exact fun σ' => bindOk (h σ') i2
  | brk ρ => exact fun σ' H' o' S t' => i3 _ _ (h σ' H' o' S t')
  | cnt ρ => exact fun σ' H' o' S t' => i4 _ _ (h σ' H' o' S t')
  | exc c ρ => exact h
  | bad => exact h
/-- the way to the next statement exchanged -/
theorem PoS.bind {D : Ends} {r : SR} {k : Env → SR} (h : PoS X C W o H D (bindS r k)) : PoS X C W o H { D with nx := tS X C W k D } r := by
  cases r with
  | nx ρ => exact fun σ' H' o' S t' => ⟨ρ, o', S, PoS.shift t' h⟩
  | ret r ρ => exact h
  | brk ρ => exact h
  | cnt ρ => exact h
  | exc c ρ => exact h
  | bad => exact h
/-- a value first -/
theorem stepS {α β : Type} {Rl : (Addr → Prop) → Hp → β → α → Prop} {D : Ends} {m : Env → Res α} {k : α → Env → SR} {ρ : Env} (S : SRo X.K C o ρ σ H) (h : PoS X C W o H D (bindRS (m ρ) k)) :
    tV X C W Rl m σ H (fun v H1 => ∃ ρ1 o1 d, SRo X.K C o1 ρ1 σ H1 ∧ Tx (FF C.B o) H (FF C.B o1) H1 ∧ Rl (FF C.B o1) H1 v d ∧ PoS X C W o1 H1 D (k d ρ1)) := by
  refine ⟨ρ, o, S, ?_⟩
  cases e : m ρ with
  | ok a ρ1 =>
    rw [e] at h
    exact fun v H1 o1 S1 t r => ⟨ρ1, o1, a, S1, t, r, PoS.shift t h⟩
  | exc c ρ1 =>
    rw [e] at h
    exact fun H' o' S' t => h σ H' o' S' t
  | bad =>
    rw [e] at h
    exact h
theorem stepSE {D : Ends} {m : Env → Res R} {k : R → Env → SR} {ρ : Env} {Q : VK} (S : SRo X.K C o ρ σ H) (h : PoS X C W o H D (bindRS (m ρ) k)) (q : ∀ r ρ1, PoS X C W o H D (k r ρ1) → OkE X C o σ H Q r ρ1) : tE X C W m σ H Q := by
  refine ⟨ρ, o, S, ?_⟩
  cases e : m ρ with
  | ok a ρ1 =>
    rw [e] at h
    exact q _ _ h
  | exc c ρ1 =>
    rw [e] at h
    exact fun H' o' S' t => h σ H' o' S' t
  | bad =>
    rw [e] at h
    exact h

def sNil : Env → SR := fun ρ => .nx ρ
def sSeq (s t : Env → SR) : Env → SR := fun ρ => bindS (s ρ) t
def sIf (t : Env → Res Bool) (a b : Env → SR) : Env → SR := fun ρ => bindRS (t ρ) fun c ρ1 => match c with | true => a ρ1 | false => b ρ1
def sRet (m : Env → Res R) : Env → SR := fun ρ => bindRS (m ρ) fun r ρ1 => .ret r ρ1
def sRetN : Env → SR := fun ρ => .ret (.val .none) ρ
def sDrop (m : Env → Res R) : Env → SR := fun ρ => bindRS (m ρ) fun _ ρ1 => .nx ρ1
def R.sl : R → Sl
  | .val d => .val d
  | .fresh c => .own c
def putR (i : Nat) (r : R) (ρ : Env) : SR := match gS ρ i with
  | .bor _ => .bad
  | _ => .nx (sS ρ i r.sl)
def sAsg (i : Nat) (m : Env → Res R) : Env → SR := fun ρ => bindRS (m ρ) fun r ρ1 => putR i r ρ1
variable {st : Stmt} {sts : List Stmt} {s t : Env → SR} {e : Expr} {m : Env → Res R} {pos : Pos}
theorem js_nil : JSs X C W [] sNil := PSs.imp pss_nil fun D σ H ⟨ρ, o, S, h⟩ => h σ H o S (.refl _ _)
theorem js_cons (h1 : JS X C W st s) (h2 : JSs X C W sts t) : JSs X C W (st :: sts) (sSeq s t) := PSs.imp (pss_cons h1 h2) fun D σ H ⟨ρ, o, S, h⟩ => ⟨ρ, o, S, PoS.bind h⟩
theorem js_one (h1 : JS X C W st s) : JSs X C W [st] s := PSs.imp (pss_one h1) fun D σ H z => z
theorem js_pass : JS X C W (.Pass pos) sNil := PS.imp ps_pass fun D σ H ⟨ρ, o, S, h⟩ => h σ H o S (.refl _ _)
theorem js_break : JS X C W (.Break pos) (fun ρ => .brk ρ) := PS.imp ps_break fun D σ H ⟨ρ, o, S, h⟩ => h σ H o S (.refl _ _)
theorem js_continue : JS X C W (.Continue pos) (fun ρ => .cnt ρ) := PS.imp ps_continue fun D σ H ⟨ρ, o, S, h⟩ => h σ H o S (.refl _ _)
theorem js_if {c : Expr} {a b : List Stmt} {tc : Env → Res Bool} (hc : JT X C W c tc) (ha : JSs X C W a s) (hb : JSs X C W b t) : JS X C W (.If c a b pos) (sIf tc s t) := PS.imp (ps_if hc ha hb) fun D σ H ⟨ρ, o, S, h⟩ => by
  obtain ⟨ρ0, o0, S0, h0⟩ := stepS (Rl := RlB) S h
  refine ⟨ρ0, o0, S0, h0.imp (fun d ρ1 z v H1 o1 S1 t1 s1 => ?_) fun _ _ z => z⟩
  obtain ⟨ρ1', o1', d', S1', T1, s1', q1⟩ := z v H1 o1 S1 t1 s1
  have e : v = d' := s1'
  subst e
  cases v with
  | true => exact ⟨ρ1', o1', S1', q1⟩
  | false => exact ⟨ρ1', o1', S1', q1⟩
theorem js_ret (h : JE X C W e m) : JS X C W (.Return (some e) pos) (sRet m) := PS.imp (ps_ret h) fun D σ H ⟨ρ, o, S, h⟩ => stepSE S h fun r ρ1 z => z σ
theorem js_retN : JS X C W (.Return none pos) sRetN := PS.imp ps_retN fun D σ H ⟨ρ, o, S, h⟩ => h σ _ H o S (.refl _ _) .non
theorem js_expr (h : JE X C W e m) (hs : swapsWith e none pos.line X.env = pure false := by rfl) : JS X C W (.Expr e pos) (sDrop m) := PS.imp (ps_expr h hs) fun D σ H ⟨ρ, o, S, h⟩ =>
  stepSE S h fun r ρ1 z => OkE.of_val fun v H1 o1 S1 t s => z σ H1 o1 S1 t
theorem js_doc {x j pos'} : JS X C W (.Expr (.Constant (.str x) j pos) pos') sNil := PS.imp ps_doc fun D σ H ⟨ρ, o, S, h⟩ => h σ H o S (.refl _ _)
/-- a name is given what stands at r -/
theorem OkE.put {D : St → Hp → Prop} {i : Nat} {r : R} {ρ : Env} (h : NxP X C o H D (sS ρ i r.sl)) : OkE X C o σ H (fun v H1 => D (σ.set i (some v)) H1) r ρ := by
  cases r with
  | val d => exact fun v H1 o1 S1 t s => h _ H1 _ (S1.setV s) (t.trans (.less FF.drop))
  | fresh c =>
    intro v H1 o1 as nd h0 nB S1 t cr
    by_cases hi : i < ρ.length
    · refine h _ H1 _ (S1.setO hi nd nB h0 cr) (t.trans (.less fun a z => ?_))
      rcases z with z | ⟨j, q⟩
      · exact .inl (.inl z)
      · by_cases e : j = i
        · subst e; rw [oset_same] at q; exact .inl (.inr q)
        · rw [oset_ne e] at q; exact .inr ⟨j, q⟩
    · have e1 : sS ρ i (R.fresh c).sl = ρ := by
        have : ∀ (ρ : Env) (i : Nat) (s : Sl), ρ.length ≤ i → sS ρ i s = ρ := by
          intro ρ
          induction ρ with
          | nil => intro i s _; rfl
          | cons a r ih =>
            intro i s hl
            cases i with
            | zero => simp at hl
            | succ i => show a :: sS r i s = a :: r; rw [ih i s (by simpa using hl)]
        exact this ρ i _ (by omega)
      have e2 : σ.set i (some v) = σ := List.set_eq_of_length_le (by rw [← S1.len]; omega)
      rw [e1] at h
      rw [e2]
      exact h _ H1 _ S1.less t.dropB
theorem putR_ok {D : Ends} {i : Nat} {r : R} {ρ : Env} (h : PoS X C W o H D (putR i r ρ)) : NxP X C o H D.nx (sS ρ i r.sl) := by
  unfold putR at h
  split at h
  · exact h.elim
  · exact h
theorem js_set {i : Nat} {x : Str} {pos' : Pos} (hN : X.N.Nodup) (hi : X.N[i]? = some x) (hx : Loc X.env.scope x) (he : JE X C W e m) (hs : swapsWith e (some (.Name x pos')) pos.line X.env = pure false := by rfl) (hf : X.fn x = true ∨ X.env.scope.names.lookup x = some .local := by first | exact .inl rfl | exact .inr rfl | assumption) :
    JS X C W (.Assign [.Name x pos'] e pos) (sAsg i m) := PS.imp (ps_set hN hi hx he hs hf) fun D σ H ⟨ρ, o, S, h⟩ => stepSE S h fun r ρ1 z => OkE.put (putR_ok z)

/-! ### targets -/
/-- only these slots differ -/
def Dif (ts : List Nat) (σ σ' : St) : Prop := σ'.length = σ.length ∧ ∀ j, j ∉ ts → σ'[j]? = σ[j]?
def NxG (X : Cx) (C : Ctx) (o : Nat → List Addr) (σ : St) (H : Hp) (ts : List Nat) (Q : St → Hp → Prop) (ρ : Env) : Prop := ∀ σ' H' o', Dif ts σ σ' → SRo X.K C o' ρ σ' H' → Tx (FF C.B o) H (FF C.B o') H' → Q σ' H'
def tG (X : Cx) (C : Ctx) (W : WX) (ts : List Nat) (g : D → Env → Option Env) : TG := fun v σ H Q => ∃ ρ o d ρ', SRo X.K C o ρ σ H ∧ Sh X.K (FF C.B o) H v d ∧ g d ρ = some ρ' ∧ NxG X C o σ H ts Q ρ'
def tGs (X : Cx) (C : Ctx) (W : WX) (ts : List Nat) (g : List D → Env → Option Env) : TGs := fun v σ H Q => ∃ ρ o d ρ', SRo X.K C o ρ σ H ∧ ShA X.K (FF C.B o) H v d ∧ g d ρ = some ρ' ∧ NxG X C o σ H ts Q ρ'
def JG (X : Cx) (C : Ctx) (W : WX) (t : Expr) (ts : List Nat) (g : D → Env → Option Env) : Prop := PG X t (tG X C W ts g)
def JGs (X : Cx) (C : Ctx) (W : WX) (t : List Expr) (ts : List Nat) (g : List D → Env → Option Env) : Prop := PGs X t (tGs X C W ts g)
theorem PG.imp {X : Cx} {e : Expr} {t t' : TG} (h : PG X e t) (i : ∀ v σ H Q, t' v σ H Q → t v σ H Q) : PG X e t' := ⟨fun pins s σ H v u Q I r q => h.run pins s σ H v u Q I r (i v σ H Q q)⟩
theorem PGs.imp {X : Cx} {e : List Expr} {t t' : TGs} (h : PGs X e t) (i : ∀ v σ H Q, t' v σ H Q → t v σ H Q) : PGs X e t' := ⟨fun pins s σ H v u Q I r q => h.run pins s σ H v u Q I r (i v σ H Q q)⟩
def gNm (i : Nat) : D → Env → Option Env := fun d ρ => match gS ρ i with
  | .bor _ => none
  | _ => some (sS ρ i (.val d))
def gsNil : List D → Env → Option Env := fun ds ρ => match ds with
  | [] => some ρ
  | _ :: _ => none
def gsCons (g : D → Env → Option Env) (h : List D → Env → Option Env) : List D → Env → Option Env := fun ds ρ => match ds with
  | [] => none
  | d :: ds => match g d ρ with
    | some ρ1 => h ds ρ1
    | none => none
def gTp (n : Nat) (g : List D → Env → Option Env) : D → Env → Option Env := fun d ρ => match d with
  | .tuple ds => if ds.length = n then g ds ρ else none
  | _ => none
theorem Dif.refl (ts : List Nat) (σ : St) : Dif ts σ σ := ⟨rfl, fun _ _ => rfl⟩
theorem Dif.trans {a b : List Nat} {σ σ1 σ2 : St} (h1 : Dif a σ σ1) (h2 : Dif b σ1 σ2) : Dif (a ++ b) σ σ2 := ⟨h2.1.trans h1.1, fun j hj => (h2.2 j fun z => hj (List.mem_append_right _ z)).trans (h1.2 j fun z => hj (List.mem_append_left _ z))⟩
theorem jg_name {i : Nat} {x : Str} (hN : X.N.Nodup) (hi : X.N[i]? = some x) (hx : Loc X.env.scope x) (hf : X.fn x = true ∨ X.env.scope.names.lookup x = some .local := by first | exact .inl rfl | exact .inr rfl | assumption) : JG X C W (.Name x pos) [i] (gNm i) :=
  PG.imp (pg_name hN hi hx hf) fun v σ H Q ⟨ρ, o, d, ρ', S, s, e, q⟩ => by
    unfold gNm at e
    split at e
    · cases e
    · cases e
      exact q _ H _ ⟨by simp, fun j hj => by rw [List.getElem?_set_ne (fun z => hj (by simp [z]))]⟩ (S.setV s) (.less FF.drop)
theorem jgs_nil : JGs X C W [] [] gsNil := PGs.imp pgs_nil fun v σ H Q ⟨ρ, o, d, ρ', S, s, e, q⟩ => by
  cases s with
  | nil => cases e; exact ⟨rfl, q σ H o (.refl _ _) S (.refl _ _)⟩
  | cons _ _ => cases e
theorem jgs_cons {es : List Expr} {ts us : List Nat} {g : D → Env → Option Env} {h : List D → Env → Option Env} (h1 : JG X C W e ts g) (h2 : JGs X C W es us h) (hk : (assignEach (e :: es) X.env).map (·.2) = assign e X.env :: (assignEach es X.env).map (·.2) := by rfl) : JGs X C W (e :: es) (ts ++ us) (gsCons g h) :=
  PGs.imp (pgs_cons h1 h2 hk) fun v σ H Q ⟨ρ, o, d, ρ', S, s, e, q⟩ => by
    cases s with
    | nil => cases e
    | @cons v0 d0 vs ds h0 s0 =>
      unfold gsCons at e
      dsimp only at e
      cases e1 : g d0 ρ with
      | none => rw [e1] at e; cases e
      | some ρ1 =>
        rw [e1] at e
        exact ⟨_, _, rfl, ρ, o, d0, ρ1, S, h0, e1, fun σ1 H1 o1 f1 S1 t1 => ⟨ρ1, o1, ds, ρ', S1, s0.tx t1, e, fun σ2 H2 o2 f2 S2 t2 => q σ2 H2 o2 (f1.trans f2) S2 (t1.trans t2)⟩⟩
theorem jg_tup {es : List Expr} {k n : Nat} {ts : List Nat} {g : List D → Env → Option Env} (hc : X.calm = true) (h : JGs X C W es ts g) (hn : (assignEach es X.env).length = n := by rfl) (hst : (assignEach es X.env).findIdx? (·.1) = none := by rfl) : JG X C W (.Tuple es k pos) ts (gTp n g) :=
  PG.imp (pg_tup hc h hn hst) fun v σ H Q ⟨ρ, o, d, ρ', S, s, e, q⟩ => by
    unfold gTp at e
    cases d with
    | tuple ds =>
      dsimp only at e
      split at e
      · rename_i hl
        cases s with
        | tup h0 s0 => exact ⟨_, _, rfl, h0.elim (fun z => .inl z.2) .inr, by rw [s0.length]; exact hl, ρ, o, ds, ρ', S, s0, e, q⟩
      · cases e
    | _ => cases e
def sAsgG (g : D → Env → Option Env) (m : Env → Res D) : Env → SR := fun ρ => bindRS (m ρ) fun d ρ1 => match g d ρ1 with
  | some ρ2 => .nx ρ2
  | none => .bad
theorem js_asg {tg : Expr} {ts : List Nat} {g : D → Env → Option Env} {m : Env → Res D} (he : JV X C W e m) (hg : JG X C W tg ts g) (hs : swapsWithSole [tg] e pos.line X.env = pure false := by rfl) (hw : swappedStores [tg] e X.env = pure none := by rfl) (h1 : (assignEach [tg] X.env).map (·.2) = [assign tg X.env] := by rfl) : JS X C W (.Assign [tg] e pos) (sAsgG g m) :=
  PS.imp (ps_asg he hg hs hw h1) fun D σ H ⟨ρ, o, S, h⟩ => by
    obtain ⟨ρ0, o0, S0, h0⟩ := stepS (Rl := Sh X.K) S h
    refine ⟨ρ0, o0, S0, h0.imp (fun d ρ1 z v H1 o1 S1 t1 s1 => ?_) fun _ _ z => z⟩
    obtain ⟨ρ1', o1', d', S1', T1, s1', q1⟩ := z v H1 o1 S1 t1 s1
    cases e1 : g d' ρ1' with
    | none => simp only [e1] at q1; exact q1.elim
    | some ρ2 =>
      simp only [e1] at q1
      exact ⟨ρ1', o1', d', ρ2, S1', s1', e1, fun σ' H' o' _ => q1 σ' H' o'⟩
/-- a, b = e1, e2 -/
def sPar (i j : Nat) (m : Env → Res (List D)) : Env → SR := fun ρ => bindRS (m ρ) fun ds ρ1 => match ds with
  | [x, y] => bindS (putR i (.val x) ρ1) (putR j (.val y))
  | _ => .bad
theorem js_par {i j : Nat} {x y : Str} {a b : Expr} {m : Env → Res (List D)} {px py pt : Pos} {kt k2 pt2} (hc : X.calm = true) (hN : X.N.Nodup) (hi : X.N[i]? = some x) (hj : X.N[j]? = some y) (hij : i ≠ j)
    (hp : PS X (.Assign [.Tuple [.Name x px, .Name y py] kt pt] (.Tuple [a, b] k2 pt2) pos) (tPar i j (tV X C W (ShA X.K) m))) : JS X C W (.Assign [.Tuple [.Name x px, .Name y py] kt pt] (.Tuple [a, b] k2 pt2) pos) (sPar i j m) :=
  PS.imp hp fun D σ H ⟨ρ, o, S, h⟩ => by
    obtain ⟨ρ0, o0, S0, h0⟩ := stepS (Rl := ShA X.K) S h
    refine ⟨ρ0, o0, S0, h0.imp (fun d ρ1 z v H1 o1 S1 t1 s1 => ?_) fun _ _ z => z⟩
    obtain ⟨ρ1', o1', d', S1', T1, s1', q1⟩ := z v H1 o1 S1 t1 s1
    cases s1' with
    | nil => exact q1.elim
    | cons ha s2 =>
      cases s2 with
      | nil => exact q1.elim
      | cons hb s3 =>
        cases s3 with
        | cons _ _ => exact q1.elim
        | nil =>
          have q2 := putR_ok (PoS.bind q1)
          have S2 := S1'.setV (i := i) ha
          have t2 : Tx (FF C.B o1') H1 (FF C.B (oset o1' i [])) H1 := .less FF.drop
          obtain ⟨ρ3, o3, S3, q3⟩ : tS X C W (putR j (.val _)) D _ H1 := q2 _ H1 _ S2 t2
          have q4 := putR_ok (PoS.shift (o1 := oset o1' i []) (H1 := H1) (.refl _ _) (PoS.bind (r := .nx (sS ρ1' i (R.val _).sl)) (k := putR j (.val _)) (D := D) (by
            have : PoS X C W (oset o1' i []) H1 D (bindS (putR i (.val _) ρ1') (putR j (.val _))) := PoS.shift t2 q1
            unfold putR at this
            split at this
            · exact this.elim
            · exact this) |> fun (z : NxP X C (oset o1' i []) H1 (tS X C W (putR j (.val _)) D) _) => (by
              have : PoS X C W (oset o1' i []) H1 D (bindS (putR i (.val _) ρ1') (putR j (.val _))) := PoS.shift t2 q1
              unfold putR at this
              split at this
              · exact this.elim
              · exact this)))
          exact ⟨_, _, rfl, q4 _ H1 _ (S2.setV (hb.tx t2)) (.less FF.drop)⟩

/-! ### loops -/
/-- an iterator gives these data, wherever what is not the frame's own has stayed -/
def ItOk (K : PySem.W.Frag) (F0 : Addr → Prop) (H0 : Hp) (J : It) (ds : List D) : Prop := ∀ F H, Tx F0 H0 F H → (∀ a, F a → H a ≠ none) → J.stop ds.length H ∧
  ∀ i d, ds[i]? = some d → J.go i H ∧ ∀ x H', J.yld i H x H' → Same H H' ∧ Sh K F H' x d
def tI (X : Cx) (C : Ctx) (W : WX) (m : Env → Res (List D)) : TI := fun σ H Q => ∃ ρ o, SRo X.K C o ρ σ H ∧
  PoG (fun ds ρ' => ∀ J H' o', SRo X.K C o' ρ' σ H' → Tx (FF C.B o) H (FF C.B o') H' → ItOk X.K (FF C.B o') H' J ds → Q J H') (ExP X C W o σ H) (m ρ)
def JI (X : Cx) (C : Ctx) (W : WX) (tg iter : Expr) (m : Env → Res (List D)) : Prop := PI X tg iter (tI X C W m)
theorem PI.imp {X : Cx} {tg e : Expr} {t t' : TI} (h : PI X tg e t) (i : ∀ σ H Q, t' σ H Q → t σ H Q) : PI X tg e t' := ⟨fun pins s σ H Q I q => h.run pins s σ H Q I (i σ H Q q)⟩
theorem PI.or {X : Cx} {tg e : Expr} {t t' : TI} (h : PI X tg e t) (h' : PI X tg e t') : PI X tg e (fun σ H Q => t σ H Q ∨ t' σ H Q) := ⟨fun pins s σ H Q I q => q.elim (h.run pins s σ H Q I) (h'.run pins s σ H Q I)⟩
def forL (g : D → Env → Option Env) (b : Env → SR) : List D → Env → SR
  | [], ρ => .nx ρ
  | d :: ds, ρ => match g d ρ with
    | none => .bad
    | some ρ1 => match b ρ1 with
      | .nx ρ2 => forL g b ds ρ2
      | .cnt ρ2 => forL g b ds ρ2
      | .brk ρ2 => .nx ρ2
      | .ret r ρ2 => .ret r ρ2
      | .exc c ρ2 => .exc c ρ2
      | .bad => .bad
def sFor (g : D → Env → Option Env) (m : Env → Res (List D)) (b : Env → SR) : Env → SR := fun ρ => bindRS (m ρ) fun ds ρ1 => forL g b ds ρ1
theorem js_for {iter tg : Expr} {ts : List Nat} {body : List Stmt} {g : D → Env → Option Env} {mi : Env → Res (List D)} (hp : PassesOwn (model X.prog X.w) X.A X.env X.xe) (hc : X.calm = true) (hi : JI X C W tg iter mi) (hg : JG X C W tg ts g) (hb : JSs X C W body s)
    (hs : ∀ x, foldedSetIterable iter X.env x = pure x := by intro _; rfl) : JS X C W (.For tg iter body [] pos) (sFor g mi s) := PS.imp (ps_for hp hc hi hg hb hs) fun D σ H ⟨ρ, o, S, h⟩ => by
  refine ⟨ρ, o, S, ?_⟩
  have h : PoS X C W o H D (bindRS (mi ρ) fun ds ρ1 => forL g s ds ρ1) := h
  cases e : mi ρ with
  | bad => rw [e] at h; exact h
  | exc c ρ1 => rw [e] at h; exact fun H' o' S' t => h σ H' o' S' t
  | ok ds ρ1 =>
    rw [e] at h
    intro J H1 o1 S1 t1 it
    refine ⟨fun i n σ2 H2 => ∃ ρ2 o2, SRo X.K C o2 ρ2 σ2 H2 ∧ Tx (FF C.B o1) H1 (FF C.B o2) H2 ∧ i + n = ds.length ∧ PoS X C W o2 H2 D (forL g s (ds.drop i) ρ2), ⟨ds.length, ρ1, o1, S1, .refl _ _, by omega, PoS.shift t1 h⟩, ?_⟩
    rintro i n σ2 H2 ⟨ρ2, o2, S2, t2, en, h2⟩
    obtain ⟨stop, turn⟩ := it (FF C.B o2) H2 t2 S2.tr
    by_cases hlt : i < ds.length
    · refine .inr ?_
      have ei : ds[i]? = some ds[i] := List.getElem?_eq_getElem hlt
      obtain ⟨go, yl⟩ := turn i ds[i] ei
      rw [List.drop_eq_getElem_cons hlt] at h2
      unfold forL at h2
      refine ⟨go, fun σ3 H3 => ∃ ρ3 o3, SRo X.K C o3 ρ3 σ3 H3 ∧ Tx (FF C.B o1) H1 (FF C.B o3) H3 ∧ PoS X C W o3 H3 D (forL g s (ds.drop (i + 1)) ρ3), fun σ3 H3 ⟨ρ3, o3, S3, t3, h3⟩ => ⟨n - 1, by omega, ρ3, o3, S3, t3, by omega, h3⟩, fun x H3 hy => ?_⟩
      obtain ⟨sm, sx⟩ := yl x H3 hy
      cases e1 : g ds[i] ρ2 with
      | none => rw [e1] at h2; exact h2.elim
      | some ρ4 =>
        rw [e1] at h2
        dsimp only at h2
        refine ⟨ρ2, o2, ds[i], ρ4, S2.keep sm, sx, e1, fun σ5 H5 o5 _ S5 t5 => ⟨ρ4, o5, S5, ?_⟩⟩
        have t6 : Tx (FF C.B o2) H2 (FF C.B o5) H5 := (Tx.same sm).trans t5
        have again : ∀ {ρ7 : Env}, PoS X C W o2 H2 D (forL g s (ds.drop (i + 1)) ρ7) → NxP X C o5 H5 (fun σ3 H3 => ∃ ρ3 o3, SRo X.K C o3 ρ3 σ3 H3 ∧ Tx (FF C.B o1) H1 (FF C.B o3) H3 ∧ PoS X C W o3 H3 D (forL g s (ds.drop (i + 1)) ρ3)) ρ7 :=
          fun {ρ7} q σ7 H7 o7 S7 t7 => ⟨ρ7, o7, S7, t2.trans (t6.trans t7), PoS.shift (t6.trans t7) q⟩
        cases e2 : s ρ4 with
        | nx ρ7 => rw [e2] at h2; exact again h2
        | cnt ρ7 => rw [e2] at h2; exact again h2
        | brk ρ7 => rw [e2] at h2; exact fun σ7 H7 o7 S7 t7 => h2 σ7 H7 o7 S7 (t6.trans t7)
        | ret r ρ7 => rw [e2] at h2; exact fun σ7 => OkE.shift t6 (h2 σ7)
        | exc c ρ7 => rw [e2] at h2; exact fun σ7 => ExP.shift t6 (h2 σ7)
        | bad => rw [e2] at h2; exact h2
    · have e0 : i = ds.length := by omega
      subst e0
      rw [List.drop_length] at h2
      exact .inl ⟨stop, h2 σ2 H2 o2 S2 (.refl _ _)⟩
/-- while -/
def whileL (t : Env → Res Bool) (b : Env → SR) : Nat → Env → SR
  | 0, _ => .bad
  | n + 1, ρ => bindRS (t ρ) fun c ρ1 => match c with
    | false => .nx ρ1
    | true => match b ρ1 with
      | .nx ρ2 => whileL t b n ρ2
      | .cnt ρ2 => whileL t b n ρ2
      | .brk ρ2 => .nx ρ2
      | .ret r ρ2 => .ret r ρ2
      | .exc c ρ2 => .exc c ρ2
      | .bad => .bad
theorem fuel_ex : ∃ n : Nat, n = 1000000000000000000 := ⟨_, rfl⟩
/-- not to be unfolded by anybody -/
noncomputable def fuel : Nat := Classical.choose fuel_ex
theorem fuel_eq : fuel = 1000000000000000000 := Classical.choose_spec fuel_ex
noncomputable def sWhile (t : Env → Res Bool) (b : Env → SR) : Env → SR := fun ρ => whileL t b fuel ρ
theorem js_while {c : Expr} {body : List Stmt} {tc : Env → Res Bool} (hp : PassesOwn (model X.prog X.w) X.A X.env X.xe) (hc : JT X C W c tc) (hb : JSs X C W body s) : JS X C W (.While c body [] pos) (sWhile tc s) := PS.imp (ps_while hp hc hb) fun D σ H ⟨ρ, o, S, h⟩ => by
  refine ⟨fun n σ2 H2 => ∃ ρ2 o2, SRo X.K C o2 ρ2 σ2 H2 ∧ PoS X C W o2 H2 D (whileL tc s n ρ2), ⟨fuel, ρ, o, S, h⟩, ?_⟩
  rintro n σ2 H2 ⟨ρ2, o2, S2, h2⟩
  cases n with
  | zero => exact h2.elim
  | succ n =>
    obtain ⟨ρ0, o0, S0, h0⟩ := stepS (Rl := RlB) S2 h2
    refine ⟨ρ0, o0, S0, h0.imp (fun d ρ1 z v H1 o1 S1 t1 s1 => ?_) fun _ _ z => z⟩
    obtain ⟨ρ1', o1', d', S1', T1, s1', q1⟩ := z v H1 o1 S1 t1 s1
    have e : v = d' := s1'
    subst e
    cases v with
    | false => exact q1 σ2 H1 o1' S1' (.refl _ _)
    | true =>
      dsimp only at q1
      refine ⟨fun σ3 H3 => ∃ ρ3 o3, SRo X.K C o3 ρ3 σ3 H3 ∧ PoS X C W o3 H3 D (whileL tc s n ρ3), fun σ3 H3 z => ⟨n, by omega, z⟩, ρ1', o1', S1', ?_⟩
      cases e2 : s ρ1' with
      | nx ρ7 => rw [e2] at q1; exact fun σ7 H7 o7 S7 t7 => ⟨ρ7, o7, S7, PoS.shift t7 q1⟩
      | cnt ρ7 => rw [e2] at q1; exact fun σ7 H7 o7 S7 t7 => ⟨ρ7, o7, S7, PoS.shift t7 q1⟩
      | brk ρ7 => rw [e2] at q1; exact q1
      | ret r ρ7 => rw [e2] at q1; exact q1
      | exc c ρ7 => rw [e2] at q1; exact q1
      | bad => rw [e2] at q1; exact q1
end
end Dn
set_option Elab.async false
set_option linter.all false
set_option maxRecDepth 100000
set_option maxHeartbeats 1000000
/-! Dn4: comprehensions, calls of defs, a def's promise, exceptions -/
namespace Dn
open PySem L2

/-! ### comprehensions -/
def wipeE (ρ : Env) : List Nat → Env
  | [] => ρ
  | v :: vs => sS (wipeE ρ vs) v .emp
def restE (ρ ρ0 : Env) : List Nat → Env
  | [] => ρ
  | v :: vs => sS (restE ρ ρ0 vs) v (gS ρ0 v)
def pureAt (ρ : Env) : List Nat → Bool
  | [] => true
  | v :: vs => (match gS ρ v with | .emp => true | .val _ => true | _ => false) && pureAt ρ vs
theorem wipeE_len (ρ : Env) : ∀ vs, (wipeE ρ vs).length = ρ.length
  | [] => rfl
  | v :: vs => by unfold wipeE; rw [sS_len, wipeE_len ρ vs]
theorem restE_len (ρ ρ0 : Env) : ∀ vs, (restE ρ ρ0 vs).length = ρ.length
  | [] => rfl
  | v :: vs => by unfold restE; rw [sS_len, restE_len ρ ρ0 vs]
theorem wipeE_at {ρ : Env} {j : Nat} : ∀ {vs : List Nat}, j ∈ vs → gS (wipeE ρ vs) j = .emp
  | [], h => by cases h
  | v :: vs, h => by
    unfold wipeE
    by_cases e : v = j
    · subst e
      by_cases hl : v < (wipeE ρ vs).length
      · exact gS_same hl
      · exact gS_out (by rw [sS_len]; omega)
    · rw [gS_ne e]
      exact wipeE_at ((List.mem_cons.mp h).resolve_left fun z => e z.symm)
theorem pureAt_of {ρ : Env} {j : Nat} : ∀ {vs : List Nat}, pureAt ρ vs = true → j ∈ vs → gS ρ j = .emp ∨ ∃ d, gS ρ j = .val d
  | [], _, h => by cases h
  | v :: vs, hp, h => by
    unfold pureAt at hp
    rw [Bool.and_eq_true] at hp
    rcases List.mem_cons.mp h with e | h
    · subst e
      have := hp.1
      cases g : gS ρ j with
      | emp => exact .inl rfl
      | val d => exact .inr ⟨d, rfl⟩
      | own c => rw [g] at this; cases this
      | bor c => rw [g] at this; cases this
    · exact pureAt_of hp.2 h
section
variable {K : PySem.W.Frag} {C : Ctx} {o : Nat → List Addr} {ρ : Env} {σ : St} {H : Hp}
theorem wipe_in {σ : St} {j : Nat} : ∀ {vs : List Nat}, j ∈ vs → j < σ.length → (wipe σ vs)[j]? = some none
  | [], h, _ => by cases h
  | v :: vs, h, hl => by
    unfold wipe
    by_cases e : v = j
    · subst e; rw [List.getElem?_set_self (by rw [wipe_length]; exact hl)]
    · rw [List.getElem?_set_ne e]
      exact wipe_in ((List.mem_cons.mp h).resolve_left fun z => e z.symm) hl
theorem wipe_dif {vs : List Nat} {σ σ2 : St} (h : Dif vs (wipe σ vs) σ2) : wipe σ2 vs = wipe σ vs := by
  apply List.ext_getElem?
  intro j
  have hl : σ2.length = σ.length := by rw [h.1, wipe_length]
  by_cases hj : j ∈ vs
  · by_cases hlt : j < σ.length
    · rw [wipe_in hj (by omega), wipe_in hj hlt]
    · rw [List.getElem?_eq_none (by rw [wipe_length]; omega), List.getElem?_eq_none (by rw [wipe_length]; omega)]
  · rw [wipe_out hj, h.2 j hj]
theorem SRo.wiped (S : SRo K C o ρ σ H) : ∀ vs : List Nat, ∃ o', SRo K C o' (wipeE ρ vs) (wipe σ vs) H ∧ ∀ a, FF C.B o' a → FF C.B o a
  | [] => ⟨o, S, fun _ z => z⟩
  | v :: vs => by
    obtain ⟨o1, S1, l⟩ := S.wiped vs
    exact ⟨_, S1.setE (i := v) (ov := none), fun a z => l a (FF.drop a z)⟩
/-- the block's own names are given back -/
theorem SRo.rest {ρ0 : Env} : ∀ {vs : List Nat}, SRo K C o ρ (wipe σ vs) H → (∀ j ∈ vs, gS ρ j = .emp) → (∀ j ∈ vs, SlR K (FF C.B o) H [] (C.bv j) σ[j]? (gS ρ0 j)) → SRo K C o (restE ρ ρ0 vs) σ H := by
  intro vs S he hs
  have key : ∀ us : List Nat, (∀ j ∈ us, j ∈ vs) → ∀ i, gS (restE ρ ρ0 us) i = if i ∈ us ∧ i < ρ.length then gS ρ0 i else gS ρ i := by
    intro us
    induction us with
    | nil => intro _ i; rw [if_neg (by simp)]; rfl
    | cons u us ih =>
      intro hu i
      have ih' := ih (fun j hj => hu j (List.mem_cons_of_mem _ hj)) i
      unfold restE
      by_cases e : u = i
      · subst e
        by_cases hl : u < ρ.length
        · rw [gS_same (by rw [restE_len]; exact hl), if_pos ⟨by simp, hl⟩]
        · rw [gS_out (by rw [sS_len, restE_len]; omega), if_neg (fun z => hl z.2), gS_out (by omega)]
      · rw [gS_ne e, ih']
        by_cases hi : i ∈ us ∧ i < ρ.length
        · rw [if_pos hi, if_pos ⟨List.mem_cons_of_mem _ hi.1, hi.2⟩]
        · rw [if_neg hi, if_neg (fun z => hi ⟨(List.mem_cons.mp z.1).resolve_left fun q => e q.symm, z.2⟩)]
  refine ⟨by rw [restE_len, S.len, wipe_length], S.same, S.nod, S.inj, S.nB, S.fr, S.tr, fun i => ?_⟩
  rw [key vs (fun _ h => h) i]
  by_cases hi : i ∈ vs ∧ i < ρ.length
  · rw [if_pos hi]
    have z := S.slot i
    rw [he i hi.1] at z
    have z : o i = [] := z
    rw [z]
    exact hs i hi.1
  · rw [if_neg hi]
    by_cases hv : i ∈ vs
    · have z := S.slot i
      rw [he i hv] at z ⊢
      exact z
    · have z := S.slot i
      rw [wipe_out hv] at z
      exact z
end

def W0 : WX := fun _ _ _ _ => False
def noX {α : Type} (r : Res α) : Res α := match r with
  | .ok a ρ => .ok a ρ
  | _ => .bad
@[simp] theorem noX_ok {α : Type} {a : α} {ρ : Env} : noX (.ok a ρ) = .ok a ρ := id rfl
@[simp] theorem noX_exc {α : Type} {c : Str} {ρ : Env} : noX (.exc c ρ : Res α) = .bad := id rfl
@[simp] theorem noX_bad {α : Type} : noX (.bad : Res α) = .bad := id rfl
def lcL (vs : List Nat) (g : D → Env → Option Env) (t : Env → Res Bool) (e : Env → Res R) : List D → Env → List D → Res (List D)
  | [], ρ, acc => .ok acc ρ
  | d :: ds, ρ, acc => match g d ρ with
    | none => .bad
    | some ρ1 => bindR (noX (t ρ1)) fun b ρ2 => match b with
      | false => lcL vs g t e ds (wipeE ρ2 vs) acc
      | true => bindR (noX (e ρ2)) fun r ρ3 => if acc.length < 16777216 then lcL vs g t e ds (wipeE ρ3 vs) (acc ++ [r.toD]) else .bad
def eLc (vs : List Nat) (mi : Env → Res (List D)) (g : D → Env → Option Env) (t : Env → Res Bool) (e : Env → Res R) : Env → Res R := fun ρ => bindR (mi ρ) fun ds ρ1 =>
  if pureAt ρ1 vs = true then bindR (lcL vs g t e ds (wipeE ρ1 vs) []) fun xs ρ2 => .ok (.fresh (.lst xs)) (restE ρ2 ρ1 vs) else .bad

def exG (X : Cx) (ts : List Nat) (g : D → Env → Option Env) : TG := fun v σ H Q => ∃ C, tG X C W0 ts g v σ H Q
def exT (X : Cx) (t : Env → Res Bool) : TT := fun σ H Q => ∃ C, tV X C W0 RlB t σ H Q
def exE (X : Cx) (e : Env → Res R) : TE := fun σ H Q => ∃ C, tE X C W0 e σ H Q
def JTs (X : Cx) (C : Ctx) (W : WX) (ifs : List Expr) (t : Env → Res Bool) : Prop := PTs X ifs (tV X C W RlB t)
def tTrue : Env → Res Bool := fun ρ => .ok true ρ
theorem jts_nil {X : Cx} {C : Ctx} {W : WX} : JTs X C W [] tTrue := ⟨fun pins s σ H Q I ⟨ρ, o, S, q⟩ => pts_nil.run pins s σ H Q I (q true H o S (.refl _ _) rfl)⟩
theorem jts_one {X : Cx} {C : Ctx} {W : WX} {c : Expr} {t : Env → Res Bool} (h : JT X C W c t) : JTs X C W [c] t := pts_one h

theorem ix_app {α : Type} {l : List α} {i : Nat} (h : i < l.length) : l.drop i = l[i] :: l.drop (i + 1) := List.drop_eq_getElem_cons h
section
variable {X : Cx} {C : Ctx} {W : WX} {o o1 : Nat → List Addr} {σ : St} {H H1 : Hp}
/-- within the comprehension: the new list at D is forbidden ground -/
abbrev Ctx.mk1 (C : Ctx) (D : Addr) (acc : List V) : Ctx := { B := fun a => C.B a ∨ a ∈ [D], H0 := upd C.H0 D (.lst acc), bv := C.bv }
theorem lc_imp {vs : List Nat} {mi : Env → Res (List D)} {g : D → Env → Option Env} {t : Env → Res Bool} {e : Env → Res R} {ρ : Env} {Q : VK} (S : SRo X.K C o ρ σ H) (h : PoG (OkE X C o σ H Q) (ExP X C W o σ H) (eLc vs mi g t e ρ)) :
    tLc (tI X C W mi) (exG X vs g) (exT X t) (exE X e) vs σ H Q := by
  refine ⟨ρ, o, S, ?_⟩
  have h : PoG (OkE X C o σ H Q) (ExP X C W o σ H) (bindR (mi ρ) fun ds ρ1 => if pureAt ρ1 vs = true then bindR (lcL vs g t e ds (wipeE ρ1 vs) []) fun xs ρ2 => .ok (.fresh (.lst xs)) (restE ρ2 ρ1 vs) else .bad) := h
  cases em : mi ρ with
  | bad => rw [em] at h; exact h
  | exc c ρ1 => rw [em] at h; exact h
  | ok ds ρ1 =>
    rw [em, bindR_ok] at h
    intro J H1 o1 S1 t1 it Dl hD
    by_cases hp : pureAt ρ1 vs = true
    case neg => rw [if_neg hp] at h; exact h.elim
    rw [if_pos hp] at h
    obtain ⟨ow, Sw, lw⟩ := S1.wiped vs
    have nD : ∀ a, FF C.B o1 a → a ≠ Dl := fun a z q => S1.tr a z (q ▸ hD)
    have nD0 : C.H0 Dl = none := S1.same.free hD
    have sm1 : Same H1 (upd H1 Dl (.lst [])) := same_new hD
    -- the start
    have mk : ∀ {o2 : Nat → List Addr} {ρ2 : Env} {σ2 : St} {H2 : Hp} {accv accv' : List V} {H2' : Hp}, SRo X.K (C.mk1 Dl accv) o2 ρ2 σ2 H2 → H2' = upd H2 Dl (.lst accv') → H2 Dl = some (.lst accv) → SRo X.K (C.mk1 Dl accv') o2 ρ2 σ2 H2' ∧ Tx (FF (C.mk1 Dl accv).B o2) H2 (FF (C.mk1 Dl accv').B o2) H2' := by
      intro o2 ρ2 σ2 H2 accv accv' H2' S2 e2 hl
      have tt : Tx (FF (C.mk1 Dl accv).B o2) H2 (FF (C.mk1 Dl accv').B o2) H2' := fun a u n q => by
        have na : a ≠ Dl := fun z => n (.inl (.inr (by simp [z])))
        exact ⟨by rw [e2, upd_ne na]; exact q, n⟩
      refine ⟨⟨S2.len, fun b u q => ?_, S2.nod, S2.inj, S2.nB, fun i a ha => ?_, fun a z => ?_, fun i => ?_⟩, tt⟩
      · by_cases eb : b = Dl
        · rw [eb] at q ⊢
          have q : upd C.H0 Dl (.lst accv') Dl = some u := q
          rw [upd_same] at q
          rw [e2, upd_same]; exact q
        · have q : upd C.H0 Dl (.lst accv') b = some u := q
          rw [upd_ne eb] at q
          rw [e2, upd_ne eb]
          exact S2.same b u (by show upd C.H0 Dl (.lst accv) b = some u; rw [upd_ne eb]; exact q)
      · have ea : a ≠ Dl := fun z => S2.nB i a ha (.inr (by simp [z]))
        show upd C.H0 Dl (.lst accv') a = none
        rw [upd_ne ea]
        have := S2.fr i a ha
        have : upd C.H0 Dl (.lst accv) a = none := this
        rw [upd_ne ea] at this
        exact this
      · by_cases ea : a = Dl
        · rw [e2, ea, upd_same]; exact fun q => nomatch q
        · rw [e2, upd_ne ea]; exact S2.tr a z
      · exact (S2.slot i).tx tt fun a ha => by
          have ea : a ≠ Dl := fun z => S2.nB i a ha (.inr (by simp [z]))
          rw [e2, upd_ne ea]
    have S0 : SRo X.K (C.mk1 Dl []) ow (wipeE ρ1 vs) (wipe σ vs) (upd H1 Dl (.lst [])) := by
      have t0 : Tx (FF C.B ow) H1 (FF (C.mk1 Dl []).B ow) (upd H1 Dl (.lst [])) := .both sm1 fun a z => by
        rcases z with (z | z) | z
        · exact .inl (.inl z)
        · simp at z; rw [z]; exact .inr hD
        · exact .inl (.inr z)
      refine ⟨Sw.len, fun b u q => ?_, Sw.nod, Sw.inj, fun i a ha z => ?_, fun i a ha => ?_, fun a z => ?_, fun i => ?_⟩
      · by_cases eb : b = Dl
        · rw [eb] at q ⊢
          exact q ▸ (by show upd H1 Dl (.lst []) Dl = upd C.H0 Dl (.lst []) Dl; rw [upd_same, upd_same])
        · have q : upd C.H0 Dl (.lst []) b = some u := q
          rw [upd_ne eb] at q
          rw [upd_ne eb]; exact Sw.same b u q
      · rcases z with z | z
        · exact Sw.nB i a ha z
        · simp at z; exact nD a (lw a (.inr ⟨i, ha⟩)) z
      · have ea : a ≠ Dl := fun z => nD a (lw a (.inr ⟨i, ha⟩)) z
        show upd C.H0 Dl (.lst []) a = none
        rw [upd_ne ea]; exact Sw.fr i a ha
      · by_cases ea : a = Dl
        · rw [ea, upd_same]; exact fun q => nomatch q
        · rw [upd_ne ea]
          refine Sw.tr a ?_
          rcases z with (z | z) | z
          · exact .inl z
          · simp at z; exact absurd z ea
          · exact .inr z
      · exact (Sw.slot i).tx t0 fun a ha => upd_ne fun z => nD a (lw a (.inr ⟨i, ha⟩)) z
    have T0 : Tx (FF C.B o1) H1 (FF (C.mk1 Dl []).B ow) (upd H1 Dl (.lst [])) := .both sm1 fun a z => by
      rcases z with (z | z) | z
      · exact .inl (.inl z)
      · simp at z; rw [z]; exact .inr hD
      · exact .inl (lw a (.inr z))
    refine ⟨fun i n H2 => ∃ ρ2 o2 acc accv, SRo X.K (C.mk1 Dl accv) o2 ρ2 (wipe σ vs) H2 ∧ (∀ j ∈ vs, gS ρ2 j = .emp) ∧ ShA X.K (FF (C.mk1 Dl accv).B o2) H2 accv acc ∧ H2 Dl = some (.lst accv) ∧ Tx (FF C.B o1) H1 (FF (C.mk1 Dl accv).B o2) H2 ∧ i + n = ds.length ∧
      PoG (OkE X C o σ H Q) (ExP X C W o σ H) (bindR (lcL vs g t e (ds.drop i) ρ2 acc) fun xs ρ3 => .ok (.fresh (.lst xs)) (restE ρ3 ρ1 vs)), ⟨ds.length, wipeE ρ1 vs, ow, [], [], S0, fun j hj => wipeE_at hj, .nil, upd_same, T0, by omega, h⟩, ?_⟩
    rintro i n H2 ⟨ρ2, o2, acc, accv, S2, we, sa, eD, T2, en, h2⟩
    obtain ⟨stop, turn⟩ := it (FF (C.mk1 Dl accv).B o2) H2 T2 S2.tr
    by_cases hlt : i < ds.length
    · refine .inr ?_
      have ei : ds[i]? = some ds[i] := List.getElem?_eq_getElem hlt
      obtain ⟨go, yl⟩ := turn i ds[i] ei
      rw [List.drop_eq_getElem_cons hlt] at h2
      unfold lcL at h2
      refine ⟨go, fun H3 => ∃ ρ2 o2 acc accv, SRo X.K (C.mk1 Dl accv) o2 ρ2 (wipe σ vs) H3 ∧ (∀ j ∈ vs, gS ρ2 j = .emp) ∧ ShA X.K (FF (C.mk1 Dl accv).B o2) H3 accv acc ∧ H3 Dl = some (.lst accv) ∧ Tx (FF C.B o1) H1 (FF (C.mk1 Dl accv).B o2) H3 ∧
        PoG (OkE X C o σ H Q) (ExP X C W o σ H) (bindR (lcL vs g t e (ds.drop (i + 1)) ρ2 acc) fun xs ρ3 => .ok (.fresh (.lst xs)) (restE ρ3 ρ1 vs)),
        fun H3 ⟨a1, a2, a3, a4, a5, a6, a7, a8, a9, a10⟩ => ⟨n - 1, by omega, a1, a2, a3, a4, a5, a6, a7, a8, a9, by omega, a10⟩, fun x H3 hy => ?_⟩
      obtain ⟨sm, sx⟩ := yl x H3 hy
      cases e1 : g ds[i] ρ2 with
      | none => rw [e1] at h2; exact h2.elim
      | some ρ4 =>
        rw [e1] at h2
        dsimp only at h2
        refine ⟨C.mk1 Dl accv, ρ2, o2, ds[i], ρ4, S2.keep sm, sx, e1, fun σ5 H5 o5 dif S5 t5 => ⟨wipe_dif dif, C.mk1 Dl accv, ρ4, o5, S5, ?_⟩⟩
        have t6 : Tx (FF (C.mk1 Dl accv).B o2) H2 (FF (C.mk1 Dl accv).B o5) H5 := (Tx.same sm).trans t5
        cases e2 : t ρ4 with
        | bad => rw [e2] at h2; exact h2.elim
        | exc c ρ7 => rw [e2] at h2; exact h2.elim
        | ok b ρ7 =>
          rw [e2, noX_ok, bindR_ok] at h2
          intro v7 H7 o7 S7 t7 rl
          have rl : v7 = b := rl
          subst rl
          have keepD : ∀ {oo : Nat → List Addr} {rr : Env} {ss : St} {Hh : Hp}, SRo X.K (C.mk1 Dl accv) oo rr ss Hh → Hh Dl = some (.lst accv) := fun SS => SS.same Dl _ (by show upd C.H0 Dl (.lst accv) Dl = some (.lst accv); rw [upd_same])
          cases v7 with
          | false =>
            dsimp only at h2
            rw [if_neg Bool.false_ne_true]
            obtain ⟨o8, S8, l8⟩ := S7.wiped vs
            rw [wipe_dif dif] at S8
            have T8 : Tx (FF (C.mk1 Dl accv).B o2) H2 (FF (C.mk1 Dl accv).B o8) H7 := (t6.trans t7).trans (.less l8)
            exact ⟨_, o8, acc, accv, S8, fun j hj => wipeE_at hj, sa.tx T8, keepD S8, T2.trans T8, h2⟩
          | true =>
            dsimp only at h2
            rw [if_pos rfl]
            refine ⟨C.mk1 Dl accv, ρ7, o7, S7, ?_⟩
            cases e3 : e ρ7 with
            | bad => rw [e3] at h2; exact h2.elim
            | exc c ρ9 => rw [e3] at h2; exact h2.elim
            | ok r ρ9 =>
              rw [e3, noX_ok, bindR_ok] at h2
              refine OkE.of_val fun v9 H9 o9 S9 t9 s9 => ?_
              split at h2
              · rename_i hlen
                have T9 : Tx (FF (C.mk1 Dl accv).B o2) H2 (FF (C.mk1 Dl accv).B o9) H9 := (t6.trans t7).trans t9
                have hD9 := keepD S9
                obtain ⟨S10, T10⟩ := mk S9 (rfl : upd H9 Dl (.lst (accv ++ [v9])) = _) hD9
                obtain ⟨o11, S11, l11⟩ := S10.wiped vs
                rw [wipe_dif dif] at S11
                have T11 : Tx (FF (C.mk1 Dl accv).B o9) H9 (FF (C.mk1 Dl (accv ++ [v9])).B o11) (upd H9 Dl (.lst (accv ++ [v9]))) := T10.trans (.less l11)
                refine ⟨accv, hD9, by rw [sa.length]; exact line_lt hlen, _, o11, acc ++ [r.toD], accv ++ [v9], S11, fun j hj => wipeE_at hj, ((sa.tx T9).tx T11).append (.one (s9.tx T11)), upd_same, (T2.trans T9).trans T11, h2⟩
              · exact h2.elim
    · have e0 : i = ds.length := by omega
      subst e0
      rw [List.drop_length] at h2
      refine .inl ⟨stop, ?_⟩
      have h3 : OkE X C o σ H Q (.fresh (.lst acc)) (restE ρ2 ρ1 vs) := h2
      have S3 : SRo X.K (C.plus [Dl]) o2 ρ2 (wipe σ vs) H2 := ⟨S2.len, fun b u q => S2.same b u (by
        show upd C.H0 Dl (.lst accv) b = some u
        rw [upd_ne fun z => by rw [z, nD0] at q; cases q]; exact q), S2.nod, S2.inj, S2.nB, fun i a ha => by
          have ea : a ≠ Dl := fun z => S2.nB i a ha (.inr (by simp [z]))
          have q : upd C.H0 Dl (.lst accv) a = none := S2.fr i a ha
          rw [upd_ne ea] at q; exact q, S2.tr, S2.slot⟩
      refine h3 (.ref Dl) H2 o2 [Dl] (by simp) (fun a ha => by simp at ha; rw [ha]; exact nD0) (fun a ha z => by simp at ha; rw [ha] at z; exact nD Dl (.inl z) rfl) (S3.rest we fun j hj => ?_) (t1.trans T2) ⟨Dl, accv, rfl, rfl, eD, sa⟩
      have z := S1.slot j
      rcases pureAt_of hp hj with q | ⟨d, q⟩
      · rw [q]; rfl
      · rw [q] at z ⊢
        obtain ⟨z1, v, z2, z3⟩ := z
        exact ⟨rfl, v, z2, z3.tx T2⟩
variable {elt tg iter : Expr} {ifs : List Expr} {scope : Scope} {own : List (Str × Nat)} {pos : Pos} {mi : Env → Res (List D)} {g : D → Env → Option Env} {t : Env → Res Bool} {e : Env → Res R}
theorem je_lc (hc : X.calm = true) (hN : X.N.Nodup) (hi : JI X C W tg iter mi) (ok : BlkOk X.N X.env.scope scope own)
    (hg : ∀ (s : Shared) (H : Hp) (C0 : Addr) (cl : List (Str × Addr)) (fp : List Addr) (C' : Ctx), JG (X.blk s H scope (compEnvC scope cl C0 X.env) fp) C' W0 tg (own.map (·.2)) g)
    (ht : ∀ (s : Shared) (H : Hp) (C0 : Addr) (cl : List (Str × Addr)) (fp : List Addr) (C' : Ctx), JTs (X.blk s H scope (compEnvC scope cl C0 X.env) fp) C' W0 ifs t)
    (he : ∀ (s : Shared) (H : Hp) (C0 : Addr) (cl : List (Str × Addr)) (fp : List Addr) (C' : Ctx), JE (X.blk s H scope (compEnvC scope cl C0 X.env) fp) C' W0 elt e) (hs : ∀ x, foldedSetIterable iter X.env x = pure x := by intro _; rfl) :
    JE X C W (.ListComp elt [⟨tg, iter, ifs, 0⟩] scope pos) (eLc (own.map (·.2)) mi g t e) :=
  PE.imp (pe_lc (g := exG X (List.map (fun (x : Str × Nat) => x.2) own) g) (tt := exT X t) (te := exE X e) hc hN hi ok (fun s H C0 cl fp => ⟨fun pins s1 σ H1 v u Q I r ⟨C', q⟩ => (hg s H C0 cl fp C').run pins s1 σ H1 v u Q I r q⟩)
    (fun s H C0 cl fp => ⟨fun pins s1 σ H1 Q I ⟨C', q⟩ => (ht s H C0 cl fp C').run pins s1 σ H1 Q I q⟩) (fun s H C0 cl fp => ⟨fun pins s1 σ H1 Q I ⟨C', q⟩ => (he s H C0 cl fp C').run pins s1 σ H1 Q I q⟩) hs)
    fun σ H Q ⟨ρ, o, S, h⟩ => lc_imp S h
theorem js_setLc {i : Nat} {y : Str} {py spos : Pos} (hc : X.calm = true) (hN : X.N.Nodup) (hy : X.N[i]? = some y) (hyl : X.env.scope.names.lookup y = some .local)
    (hsw : swapsWith (.ListComp elt [⟨tg, iter, ifs, 0⟩] scope pos) (some (.Name y py)) spos.line X.env = pure true) (hi : JI X C W tg iter mi) (ok : BlkOk X.N X.env.scope scope own)
    (hg : ∀ (s : Shared) (H : Hp) (C0 : Addr) (cl : List (Str × Addr)) (fp : List Addr) (C' : Ctx), JG (X.blk s H scope (compEnvC scope cl C0 X.env) fp) C' W0 tg (own.map (·.2)) g)
    (ht : ∀ (s : Shared) (H : Hp) (C0 : Addr) (cl : List (Str × Addr)) (fp : List Addr) (C' : Ctx), JTs (X.blk s H scope (compEnvC scope cl C0 X.env) fp) C' W0 ifs t)
    (he : ∀ (s : Shared) (H : Hp) (C0 : Addr) (cl : List (Str × Addr)) (fp : List Addr) (C' : Ctx), JE (X.blk s H scope (compEnvC scope cl C0 X.env) fp) C' W0 elt e) (hs : ∀ x, foldedSetIterable iter X.env x = pure x := by intro _; rfl) :
    JS X C W (.Assign [.Name y py] (.ListComp elt [⟨tg, iter, ifs, 0⟩] scope pos) spos) (sAsg i (eLc (own.map (·.2)) mi g t e)) :=
  PS.imp (ps_setLc (g := exG X (List.map (fun (x : Str × Nat) => x.2) own) g) (tt := exT X t) (te := exE X e) hc hN hy hyl hsw hi ok (fun s H C0 cl fp => ⟨fun pins s1 σ H1 v u Q I r ⟨C', q⟩ => (hg s H C0 cl fp C').run pins s1 σ H1 v u Q I r q⟩)
    (fun s H C0 cl fp => ⟨fun pins s1 σ H1 Q I ⟨C', q⟩ => (ht s H C0 cl fp C').run pins s1 σ H1 Q I q⟩) (fun s H C0 cl fp => ⟨fun pins s1 σ H1 Q I ⟨C', q⟩ => (he s H C0 cl fp C').run pins s1 σ H1 Q I q⟩) hs)
    fun D σ H ⟨ρ, o, S, h⟩ => by
      obtain ⟨ρ0, o0, S0, h0⟩ := stepSE S h fun r ρ1 z => OkE.put (putR_ok z)
      exact lc_imp S0 h0
end
end Dn
set_option Elab.async false
set_option linter.all false
set_option maxRecDepth 100000
set_option maxHeartbeats 1000000
/-! Dn5: calls of defs, a def's promise, raise -/
namespace Dn
open PySem L2
open PyProof.Rows (envOfC)

/-! ### a def as a function of its arguments' slots -/
/-- what the caller sees of the arguments' slots behind the call: what it lent, with its new content -/
def backA : Env → Env → Option Env
  | [], _ => some []
  | .bor _ :: as, .bor c :: r => (backA as r).map (.bor c :: ·)
  | .val d :: as, _ :: r => (backA as r).map (.val d :: ·)
  | _, _ => none
def mkF (n m : Nat) (b : Env → SR) : Env → Res R := fun args => if args.length = n then
    match b (args ++ List.replicate (m - n) .emp) with
    | .ret r ρ => match backA args ρ with | some a => .ok r a | none => .bad
    | .nx ρ => match backA args ρ with | some a => .ok (.val .none) a | none => .bad
    | .exc c ρ => match backA args ρ with | some a => .exc c a | none => .bad
    | _ => .bad
  else .bad
section
variable (K : PySem.W.Frag) (mg : Str → Option Value) (C : Ctx) (o : Nat → List Addr) (σ : St) (H : Hp)
def OkK (Q : VK) (r : R) (ρ : Env) : Prop := match r with
  | .val d => ∀ v H' o', SRo K C o' ρ σ H' → Tx (FF C.B o) H (FF C.B o') H' → Sh K (FF C.B o') H' v d → Q v H'
  | .fresh c => ∀ v H' o' as, as.Nodup → (∀ a ∈ as, C.H0 a = none) → (∀ a ∈ as, ¬ C.B a) → SRo K (C.plus as) o' ρ σ H' → Tx (FF C.B o) H (FF (C.plus as).B o') H' → CR K (FF (C.plus as).B o') H' as v c → Q v H'
def ExK (E : XK) (c : Str) (ρ : Env) : Prop := ∀ H' o', SRo K C o' ρ σ H' → Tx (FF C.B o) H (FF C.B o') H' → ∀ A, mg c = some (.ref A) → E (.ref A) none H'
end
/-- a def's promise -/
def spG (K : PySem.W.Frag) (mg : Str → Option Value) (n : Nat) (f : Env → Res R) : Sp := fun vs H Q E => vs.length = n ∧ ∃ C o ρ, (∀ i v, vs[i]? = some v → C.bv i = v) ∧ SRo K C o ρ (vs.map some) H ∧
  PoG (OkK K C o (vs.map some) H Q) (ExK K mg C o (vs.map some) H E) (f ρ)

theorem gS_app : ∀ (ρ : Env) (n i : Nat), gS (ρ ++ List.replicate n .emp) i = gS ρ i
  | [], n, i => by
    show gS (List.replicate n .emp) i = .emp
    induction n generalizing i with
    | zero => rfl
    | succ n ih => cases i with
      | zero => rfl
      | succ i => exact ih i
  | s :: r, n, 0 => rfl
  | s :: r, n, i + 1 => gS_app r n i
section
variable {K : PySem.W.Frag} {mg : Str → Option Value} {C C' : Ctx} {o o' : Nat → List Addr} {ρ ρ' : Env} {σ σ' : St} {H H' : Hp}
theorem SRo.start (S : SRo K C o ρ σ H) (n : Nat) : SRo K C o (ρ ++ List.replicate n .emp) (σ ++ List.replicate n none) H where
  len := by rw [List.length_append, List.length_append, List.length_replicate, List.length_replicate, S.len]
  same := S.same
  nod := S.nod
  inj := S.inj
  nB := S.nB
  fr := S.fr
  tr := S.tr
  slot := fun i => by
    rw [gS_app]
    by_cases hi : i < σ.length
    · rw [List.getElem?_append_left hi]; exact S.slot i
    · have z := S.slot i
      rw [gS_out (by rw [S.len]; omega)] at z ⊢
      exact z
theorem backA_at : ∀ {as r b : Env}, backA as r = some b → b.length = as.length ∧ ∀ i, (gS as i = .emp ∧ gS b i = .emp) ∨ (∃ d, gS as i = .val d ∧ gS b i = .val d) ∨ ∃ c c', gS as i = .bor c ∧ gS b i = .bor c' ∧ gS r i = .bor c'
  | [], r, b, h => by
    cases h
    exact ⟨rfl, fun i => .inl ⟨rfl, rfl⟩⟩
  | .emp :: as, r, b, h => by simp [backA] at h
  | .own c :: as, r, b, h => by simp [backA] at h
  | .val d :: as, [], b, h => by simp [backA] at h
  | .bor c :: as, [], b, h => by simp [backA] at h
  | .val d :: as, s :: r, b, h => by
    simp only [backA, Option.map_eq_some_iff] at h
    obtain ⟨b', h', rfl⟩ := h
    obtain ⟨l, q⟩ := backA_at h'
    refine ⟨by simp [l], fun i => ?_⟩
    cases i with
    | zero => exact .inr (.inl ⟨d, rfl, rfl⟩)
    | succ i => exact q i
  | .bor c :: as, .emp :: r, b, h => by simp [backA] at h
  | .bor c :: as, .val _ :: r, b, h => by simp [backA] at h
  | .bor c :: as, .own _ :: r, b, h => by simp [backA] at h
  | .bor c :: as, .bor c' :: r, b, h => by
    simp only [backA, Option.map_eq_some_iff] at h
    obtain ⟨b', h', rfl⟩ := h
    obtain ⟨l, q⟩ := backA_at h'
    refine ⟨by simp [l], fun i => ?_⟩
    cases i with
    | zero => exact .inr (.inr ⟨c, c', rfl, rfl, rfl⟩)
    | succ i => exact q i
/-- at a def's end: the arguments' slots alone -/
theorem SRo.back {vs : List V} {as b : Env} (S : SRo K C o as (vs.map some) H) (hbv : ∀ i v, vs[i]? = some v → C.bv i = v) (S' : SRo K C' o' ρ' σ' H') (e : C'.bv = C.bv) (t : Tx (FF C.B o) H (FF C'.B o') H') (h : backA as ρ' = some b) :
    ∃ o2, SRo K C' o2 b (vs.map some) H' ∧ ∀ a, FF C'.B o2 a → FF C'.B o' a := by
  obtain ⟨hl, hb⟩ := backA_at h
  refine ⟨fun i => match gS b i with | .bor _ => o' i | _ => [], ?_, ?_⟩
  · have sub : ∀ i a, a ∈ (match gS b i with | .bor _ => o' i | _ => []) → a ∈ o' i := fun i a ha => by
      split at ha
      · exact ha
      · cases ha
    have le : ∀ a, FF C'.B (fun i => match gS b i with | .bor _ => o' i | _ => []) a → FF C'.B o' a := fun a z => z.elim .inl fun ⟨i, q⟩ => .inr ⟨i, sub i a q⟩
    refine ⟨by rw [hl]; exact S.len, S'.same, fun i => ?_, fun i j a h1 h2 => S'.inj i j a (sub i a h1) (sub j a h2), fun i a h1 => S'.nB i a (sub i a h1), fun i a h1 => S'.fr i a (sub i a h1), fun a z => S'.tr a (le a z), fun i => ?_⟩
    · show (match gS b i with | .bor _ => o' i | _ => []).Nodup
      split
      · exact S'.nod i
      · exact List.nodup_nil
    · show SlR K _ H' (match gS b i with | .bor _ => o' i | _ => []) _ _ _
      rcases hb i with ⟨h1, h2⟩ | ⟨d, h1, h2⟩ | ⟨c, c', h1, h2, h3⟩
      · rw [h2]; rfl
      · have z := S.slot i
        rw [h1] at z
        rw [h2]
        obtain ⟨_, v, ev, sh⟩ := z
        exact ⟨rfl, v, ev, (sh.tx t).tx (.less le)⟩
      · have z := S'.slot i
        have z0 := S.slot i
        rw [h1] at z0
        rw [h3] at z
        rw [h2]
        refine ⟨?_, z.2.tx (.less le) fun _ _ => rfl⟩
        rw [e]
        exact z0.1
  · intro a z
    exact z.elim .inl fun ⟨i, q⟩ => .inr ⟨i, by
      dsimp only at q
      split at q
      · exact q
      · cases q⟩
end
section
variable {P : Program} {w : World} {K : PySem.W.Frag} {mg : Str → Option Value} {base : Heap}
/-- THE RULE for a def -/
theorem fn_ok {x qual : Str} {st : Stmt} {f : Addr} {fd : FuncData} {N ps : List Str} {k : Nat} {body : Env → SR} (F : Fun K x qual st f fd) (S : FnScope N ps (defScope st))
    (hb : ∀ (cdv : Value) (A : Around) (outer : List PySem.Env) (s : Shared) (H : Hp) (E : XK) (C : Ctx), Room k (A.deeper (envOfC qual (defScope st) s.heap.objs.size f cdv)) →
      JSs (cxOf (L2.CX P w) P w K mg base N qual (defScope st) f cdv A outer s H E) C (fun cls d _ H => E cls d H) (defBody st) body) :
    FnOk P w K mg base (L2.CX P w) (k + 1) f fd ps (spG K mg ps.length (mkF ps.length N.length body)) := by
  refine F.okX S (fun vs H Q E h => h.1) (fun cdv A outer s H vs Q E hr h => ?_)
  obtain ⟨hl, C, o, ρ, hbv, S0, h⟩ := h
  refine ⟨_, hb cdv A outer s H E C hr, ρ ++ List.replicate (N.length - vs.length) Sl.emp, o, S0.start (N.length - vs.length), ?_⟩
  unfold mkF at h
  have hρ : ρ.length = vs.length := by rw [S0.len, List.length_map]
  rw [if_pos (by rw [hρ, hl])] at h
  rw [← hl] at h
  cases e : body (ρ ++ List.replicate (N.length - vs.length) .emp) with
  | bad => rw [e] at h; exact h
  | brk ρ' => rw [e] at h; exact h.elim
  | cnt ρ' => rw [e] at h; exact h.elim
  | nx ρ' =>
    rw [e] at h
    dsimp only at h
    cases eb : backA ρ ρ' with
    | none => rw [eb] at h; exact h.elim
    | some a =>
      rw [eb] at h
      intro σ' H' o' S' t
      obtain ⟨o2, S2, l2⟩ := S0.back hbv S' rfl t eb
      exact h .non H' o2 S2 (t.trans (.less l2)) .non
  | exc c ρ' =>
    rw [e] at h
    dsimp only at h
    cases eb : backA ρ ρ' with
    | none => rw [eb] at h; exact h.elim
    | some a =>
      rw [eb] at h
      intro σ' H' o' S' t
      obtain ⟨o2, S2, l2⟩ := S0.back hbv S' rfl t eb
      exact h H' o2 S2 (t.trans (.less l2))
  | ret r ρ' =>
    rw [e] at h
    dsimp only at h
    cases eb : backA ρ ρ' with
    | none => rw [eb] at h; exact h.elim
    | some a =>
      rw [eb] at h
      intro σ'
      cases r with
      | val d =>
        intro v H' o' S' t s
        obtain ⟨o2, S2, l2⟩ := S0.back hbv S' rfl t eb
        exact h v H' o2 S2 (t.trans (.less l2)) (s.tx (.less l2))
      | fresh c =>
        intro v H' o' as nd h0 nB S' t cr
        obtain ⟨o2, S2, l2⟩ := S0.back hbv S' rfl t eb
        exact h v H' o2 as nd h0 nB S2 (t.trans (.less l2)) (cr.tx (.less l2) fun _ _ => rfl)
end

/-! ### calls: arguments by value -/
section
variable {X : Cx} {C : Ctx} {W : WX} {o o1 : Nat → List Addr} {σ : St} {H H1 : Hp} {e : Expr} {es : List Expr} {pos p : Pos} {x : Str}
def vals (ds : List D) : Env := ds.map .val
theorem gS_vals : ∀ (ds : List D) (i : Nat), gS (vals ds) i = match ds[i]? with | some d => .val d | none => .emp
  | [], i => rfl
  | d :: ds, 0 => rfl
  | d :: ds, i + 1 => by
    show gS (vals ds) i = _
    rw [gS_vals ds i, List.getElem?_cons_succ]
theorem SRo.vals {K : PySem.W.Frag} {F : Addr → Prop} {vs : List V} {ds : List D} {H : Hp} (tr : ∀ a, F a → H a ≠ none) (s : ShA K F H vs ds) (bv : Nat → V) : SRo K ⟨F, H, bv⟩ (fun _ => []) (Dn.vals ds) (vs.map some) H where
  len := by rw [Dn.vals, List.length_map, List.length_map, s.length]
  same := .refl H
  nod := fun _ => List.nodup_nil
  inj := fun _ _ _ h => by cases h
  nB := fun _ _ h => by cases h
  fr := fun _ _ h => by cases h
  tr := fun a z => tr a (z.elim id fun ⟨_, q⟩ => by cases q)
  slot := fun i => by
    rw [gS_vals]
    cases e : ds[i]? with
    | none => rfl
    | some d =>
      obtain ⟨v, ev, sh⟩ := s.get e
      exact ⟨rfl, v, by rw [List.getElem?_map, ev]; rfl, sh.tx (.less fun a z => z.elim id fun ⟨_, q⟩ => by cases q)⟩
theorem OkK.of_new {K : PySem.W.Frag} {F : Addr → Prop} {bv : Nat → V} {H : Hp} {σ : St} {Q : VK} {r : R} {ρ : Env} (h : NewOk K F H Q r) : OkK K ⟨F, H, bv⟩ (fun _ => []) σ H Q r ρ := by
  cases r with
  | val d => exact fun v H' o' S' t s => h v H' S'.same (s.tx (.less fun a z => .inl z))
  | fresh c =>
    intro v H' o' as nd h0 nB S' t cr
    exact h v H' as S'.same nd h0 (fun a ha => S'.tr a (.inl (.inr ha))) (cr.tx (.less fun a z => .inl z) fun _ _ => rfl)
def eCall (n : Nat) (f : Env → Res R) (m : Env → Res (List D)) : Env → Res R := fun ρ => bindR (m ρ) fun ds ρ1 => if ds.length = n then
    match f (vals ds) with
    | .ok r _ => .ok r ρ1
    | .exc c _ => .exc c ρ1
    | .bad => .bad
  else .bad
theorem je_call {k n : Nat} {f : Addr} {fd : FuncData} {ps : List Str} {den : Env → Res R} {m : Env → Res (List D)} (F : FnOk X.prog X.w X.K X.mg X.base (L2.CX X.prog X.w) k f fd ps (spG X.K X.mg n den)) (hr : Room k X.A) (hm : X.mg x = some (.ref f)) (hk : PySem.W.keepIn X.K (.ref f) = true) (hb : Binds X.K fd ps []) (tk : Takes X W)
    (ha : JA X C W (e :: es) m) (hg : Gl X x) (hdb : (x == ("__debug__" : Str)) = false := by decide) (he : starEach (e :: es) X.env = (false, eval e X.env) :: starEach es X.env := by rfl) (hpl : (backTo pos (starEach es X.env)).any (·.1) = false := by rfl) :
    JE X C W (.Call (.Name x p) (e :: es) [] pos) (eCall n den m) := PE.imp (pe_callS F hr hg hm hk hb (fun σ => passAt tk σ) ha hdb he hpl) fun σ H Q ⟨ρ, o, S, h⟩ => by
  obtain ⟨ρ0, o0, S0, h0⟩ := stepE (Rl := ShA X.K) S h
  refine ⟨ρ0, o0, S0, h0.imp (fun d ρ1 z v H1 o1 S1 t1 s1 => ?_) fun _ _ z => z⟩
  obtain ⟨ρ1', o1', d', S1', T1, s1', q1⟩ := z v H1 o1 S1 t1 s1
  split at q1
  · rename_i hl
    refine ⟨by rw [s1'.length]; exact hl, ⟨FF C.B o1', H1, fun i => v.getD i .non⟩, fun _ => [], vals d', fun i w e => by show v.getD i .non = w; rw [List.getD_eq_getElem?_getD, e]; rfl, SRo.vals S1'.tr s1' _, ?_⟩
    cases ef : den (vals d') with
    | bad => rw [ef] at q1; exact q1.elim
    | exc c ρ' =>
      rw [ef] at q1
      intro H' o' S' t A hA
      exact q1 H' o1' (S1'.keep S'.same) (.same S'.same) A hA
    | ok r ρ' =>
      rw [ef] at q1
      exact OkK.of_new (newOk S1' q1)
  · exact q1.elim

/-! ### raise -/
def sRaise (c : Str) : Env → SR := fun ρ => .exc c ρ
theorem js_raise {msg : Str} {j : Nat} {p2 pos2 : Pos} {A : Addr} {bmB : List Value} {B newId initId : String} (hc : X.calm = true) (tk : Takes X W) (Fb : ExcBaseFacts B newId initId bmB) (q : PySem.W.excIn X.K A bmB newId = true) (gC : X.mg x = some (.ref A)) (kC : PySem.W.keepIn X.K (.ref A) = true) (r : Raises X (.ref A)) (hg : Gl X x)
    (hdb : (x == ("__debug__" : Str)) = false := by decide) : JS X C W (.Raise (some (.Call (.Name x p) [.Constant (.str msg) j p2] [] pos)) none pos2) (sRaise x) :=
  PS.imp (ps_raise hc tk (pmk_own Fb q gC kC r hg hdb)) fun D σ H ⟨ρ, o, S, h⟩ => h σ H o S (.refl _ _) A gC
end
end Dn
set_option Elab.async false
set_option linter.all false
set_option maxRecDepth 100000
set_option maxHeartbeats 2000000
/-! Dn6: primitive operations on data -/
namespace Dn
open PySem L2

section
variable {X : Cx} {pins : List (Addr × Obj)} {σ : St} {H : Hp} {s : Shared}
/-- list + list, any two that are read -/
theorem op_catR : OpR X (binaryOp .Add) (fun x y H Q => ∃ l b xs zs, x = .ref l ∧ y = .ref b ∧ SqL X.K H l xs ∧ SqL X.K H b zs ∧ xs.length + zs.length ≤ sizeLine ∧ ∀ p, H p = none → Q (.ref p) (upd H p (.lst (xs ++ zs)))) := by
  intro pins s σ H x y v u Q I rx ry h
  obtain ⟨l, b, xs, zs, rfl, rfl, hH, hB, hz, q⟩ := h
  cases rx
  cases ry
  obtain ⟨its, r, pl, _⟩ := I.list hH
  obtain ⟨its2, r2, pl2, _⟩ := I.list hB
  have hl := r.length
  have hl2 := r2.length
  obtain ⟨⟨cls, dd, data, sl⟩, ho, hc, n, hd⟩ := pl.isList
  obtain ⟨⟨cls2, dd2, data2, sl2⟩, ho2, hc2, n2, hd2⟩ := pl2.isList
  simp only at hc hd hc2 hd2
  subst hc hd hc2 hd2
  have e : its.toArray ++ its2.toArray = (its ++ its2).toArray := by simp
  refine PySem.concat_meets ⟨_, ho, rfl⟩ ⟨_, ho2, rfl⟩ PySem.noFill_list_add PySem.seq_list_add PySem.F.slot_list_add PySem.F.entry_list_add (PySem.F.args_list_add_2 _ _) (PyProof.Rows.list_addW l b its.toArray its2.toArray n n2 dd dd2 sl sl2 (by rw [List.size_toArray, List.size_toArray]; omega)) ⟨ho, ho2, ?_⟩
  rw [e]
  exact ⟨.ref _, _, I.lnew (t' := s.toks) (r.append r2) (by rw [List.length_append]; omega), rfl, q _ I.fresh⟩
end
theorem Sh.L {K : PySem.W.Frag} {F : Addr → Prop} {H : Hp} {v : V} {ds : List D} (h : Sh K F H v (.list ds)) : ∃ a xs, v = .ref a ∧ SqL K H a xs ∧ ShA K F H xs ds := by
  cases h with
  | lst h s => exact ⟨_, _, rfl, h.elim (fun z => .inl z.2) .inr, s⟩
theorem Sh.T {K : PySem.W.Frag} {F : Addr → Prop} {H : Hp} {v : V} {ds : List D} (h : Sh K F H v (.tuple ds)) : ∃ a xs, v = .ref a ∧ SqT K H a xs ∧ ShA K F H xs ds := by
  cases h with
  | tup h s => exact ⟨_, _, rfl, h.elim (fun z => .inl z.2) .inr, s⟩
theorem Sh.cases {K : PySem.W.Frag} {F : Addr → Prop} {H : Hp} {v : V} {d : D} (h : Sh K F H v d) : (d = .none ∧ v = .non) ∨ (∃ b, d = .bool b ∧ v = .bl b) ∨ (∃ i, d = .int i ∧ v = .int i) ∨ (∃ x, d = .str x ∧ v = .str x) ∨ (∃ ds a, d = .list ds ∧ v = .ref a) ∨ (∃ ds a, d = .tuple ds ∧ v = .ref a) ∨ ∃ ds a, d = .dict ds ∧ v = .ref a := by
  cases h with
  | non => exact .inl ⟨rfl, rfl⟩
  | bl b => exact .inr (.inl ⟨b, rfl, rfl⟩)
  | int i => exact .inr (.inr (.inl ⟨i, rfl, rfl⟩))
  | str x => exact .inr (.inr (.inr (.inl ⟨x, rfl, rfl⟩)))
  | lst h s => exact .inr (.inr (.inr (.inr (.inl ⟨_, _, rfl, rfl⟩))))
  | tup h s => exact .inr (.inr (.inr (.inr (.inr (.inl ⟨_, _, rfl, rfl⟩)))))
  | dic n r s => exact .inr (.inr (.inr (.inr (.inr (.inr ⟨_, _, rfl, rfl⟩)))))

/-! ### numbers -/
abbrev I' (i : Int) : R := .val (.int i)
abbrev B' (b : Bool) : R := .val (.bool b)
def fAdd : D → D → Option R
  | .int i, .int j => some (.val (.int (i + j)))
  | .str x, .str y => if x.length + y.length ≤ 16777216 then some (.val (.str (x ++ y))) else none
  | .list xs, .list ys => if xs.length + ys.length ≤ 16777216 then some (.fresh (.lst (xs ++ ys))) else none
  | .tuple xs, .tuple ys => if xs.length + ys.length ≤ 16777216 then some (.val (.tuple (xs ++ ys))) else none
  | _, _ => none
def fSub : D → D → Option R
  | .int i, .int j => some (.val (.int (i - j)))
  | _, _ => none
def mulOk (i j : Int) : Bool := decide (i.natAbs.log2 + j.natAbs.log2 < 1000000) || decide (-(2 ^ 64) < i ∧ i < 2 ^ 64) || decide (-(2 ^ 64) < j ∧ j < 2 ^ 64)
def fMul : D → D → Option R
  | .int i, .int j => if mulOk i j = true then some (.val (.int (i * j))) else none
  | _, _ => none
def divOk (j : Int) : Bool := decide (j ≠ 0 ∧ j.natAbs < 1073741824) || decide (0 < j ∧ j.natAbs.log2 < 9000)
def zdiv (i j : Int) : Int := i.fdiv j
def zmod (i j : Int) : Int := i.fmod j
def fFdiv : D → D → Option R
  | .int i, .int j => if divOk j = true then some (.val (.int (zdiv i j))) else none
  | _, _ => none
def fMod : D → D → Option R
  | .int i, .int j => if j ≠ 0 then some (.val (.int (zmod i j))) else none
  | _, _ => none
def fPow : D → D → Option R
  | .int i, .int j => if 0 ≤ j ∧ j ≤ 1000000 ∧ i.natAbs < 2 ^ 64 then some (.val (.int (i ^ j.toNat))) else none
  | _, _ => none
def fNeg : D → Option R
  | .int i => some (.val (.int (-i)))
  | _ => none
theorem zdiv_pos {i j : Int} (h : 0 < j) : zdiv i j = i / j := Int.fdiv_eq_ediv_of_nonneg i (Int.le_of_lt h)
theorem zmod_pos {i j : Int} (h : 0 < j) : zmod i j = i % j := Int.fmod_eq_emod_of_nonneg i (Int.le_of_lt h)
section
variable {X : Cx}
theorem od_add : OpR X (binaryOp .Add) (rD2 X.K fAdd) := by
  intro pins s σ H x y v u Q I rx ry h
  obtain ⟨F, d, e, r, tr, sx, sy, er, q⟩ := h
  unfold fAdd at er
  split at er
  · cases er
    rw [sx.ofInt] at rx
    rw [sy.ofInt] at ry
    exact op_add pins s σ H _ _ v u Q I rx ry ⟨_, _, rfl, rfl, q _ _ (.refl H) (.int _)⟩
  · split at er
    · rename_i hl
      cases er
      rw [sx.ofStr] at rx
      rw [sy.ofStr] at ry
      exact op_add_str pins s σ H _ _ v u Q I rx ry ⟨_, _, rfl, rfl, line_of hl, q _ _ (.refl H) (.str _)⟩
    · cases er
  · split at er
    · rename_i hl
      cases er
      obtain ⟨a, xs, rfl, ra, sa⟩ := sx.L
      obtain ⟨b, ys, rfl, rb, sb⟩ := sy.L
      exact op_catR pins s σ H _ _ v u Q I rx ry ⟨a, b, xs, ys, rfl, rfl, ra, rb, by rw [sa.length, sb.length]; exact line_of hl, new_lst tr (sa.append sb) q⟩
    · cases er
  · split at er
    · rename_i hl
      cases er
      obtain ⟨a, xs, rfl, ra, sa⟩ := sx.T
      obtain ⟨b, ys, rfl, rb, sb⟩ := sy.T
      refine op_catA pins s σ H _ _ v u Q I rx ry ⟨a, b, xs, ys, rfl, rfl, ra, rb, by rw [sa.length, sb.length]; exact line_of hl, fun e => ?_, fun _ e => ?_, fun _ _ => new_tup tr (sa.append sb) q⟩
      · subst e
        cases sa
        exact q _ _ (.refl H) sy
      · subst e
        cases sb
        refine q _ _ (.refl H) ?_
        rw [List.append_nil]
        exact sx
    · cases er
  · cases er
theorem od_sub : OpR X (binaryOp .Sub) (rD2 X.K fSub) := by
  intro pins s σ H x y v u Q I rx ry h
  obtain ⟨F, d, e, r, tr, sx, sy, er, q⟩ := h
  unfold fSub at er
  split at er
  · cases er
    rw [sx.ofInt] at rx
    rw [sy.ofInt] at ry
    exact op_sub pins s σ H _ _ v u Q I rx ry ⟨_, _, rfl, rfl, q _ _ (.refl H) (.int _)⟩
  · cases er
theorem od_mul : OpR X (binaryOp .Mult) (rD2 X.K fMul) := by
  intro pins s σ H x y v u Q I rx ry h
  obtain ⟨F, d, e, r, tr, sx, sy, er, q⟩ := h
  unfold fMul at er
  split at er
  · split at er
    · rename_i hm
      cases er
      rw [sx.ofInt] at rx
      rw [sy.ofInt] at ry
      unfold mulOk at hm
      simp only [Bool.or_eq_true, decide_eq_true_eq] at hm
      rcases hm with (hm | hm) | hm
      · exact op_mulW pins s σ H _ _ v u Q I rx ry ⟨_, _, rfl, rfl, hm, q _ _ (.refl H) (.int _)⟩
      · exact op_mul pins s σ H _ _ v u Q I rx ry ⟨_, _, rfl, rfl, .inl hm, q _ _ (.refl H) (.int _)⟩
      · exact op_mul pins s σ H _ _ v u Q I rx ry ⟨_, _, rfl, rfl, .inr hm, q _ _ (.refl H) (.int _)⟩
    · cases er
  · cases er
theorem od_fdiv : OpR X (binaryOp .FloorDiv) (rD2 X.K fFdiv) := by
  intro pins s σ H x y v u Q I rx ry h
  obtain ⟨F, d, e, r, tr, sx, sy, er, q⟩ := h
  unfold fFdiv at er
  split at er
  · split at er
    · rename_i hm
      cases er
      rw [sx.ofInt] at rx
      rw [sy.ofInt] at ry
      unfold divOk at hm
      simp only [Bool.or_eq_true, decide_eq_true_eq] at hm
      rcases hm with hm | hm
      · exact op_fdivN pins s σ H _ _ v u Q I rx ry ⟨_, _, rfl, rfl, hm, q _ _ (.refl H) (.int _)⟩
      · refine op_fdivW pins s σ H _ _ v u Q I rx ry ⟨_, _, rfl, rfl, hm, ?_⟩
        rw [zdiv_pos hm.1] at q
        exact q _ _ (.refl H) (.int _)
    · cases er
  · cases er
theorem od_mod : OpR X (binaryOp .Mod) (rD2 X.K fMod) := by
  intro pins s σ H x y v u Q I rx ry h
  obtain ⟨F, d, e, r, tr, sx, sy, er, q⟩ := h
  unfold fMod at er
  split at er
  · split at er
    · rename_i hm
      cases er
      rw [sx.ofInt] at rx
      rw [sy.ofInt] at ry
      exact op_modN pins s σ H _ _ v u Q I rx ry ⟨_, _, rfl, rfl, hm, q _ _ (.refl H) (.int _)⟩
    · cases er
  · cases er
theorem od_pow : OpR X (binaryOp .Pow) (rD2 X.K fPow) := by
  intro pins s σ H x y v u Q I rx ry h
  obtain ⟨F, d, e, r, tr, sx, sy, er, q⟩ := h
  unfold fPow at er
  split at er
  · split at er
    · rename_i hm
      cases er
      rw [sx.ofInt] at rx
      rw [sy.ofInt] at ry
      exact op_pow pins s σ H _ _ v u Q I rx ry ⟨_, _, rfl, rfl, hm, q _ _ (.refl H) (.int _)⟩
    · cases er
  · cases er
theorem ud_neg : UnR X (unaryOp .USub) (rD1 X.K fNeg) := by
  intro pins s σ H x v Q I rx h
  obtain ⟨F, d, r, tr, sx, er, q⟩ := h
  unfold fNeg at er
  split at er
  · cases er
    rw [sx.ofInt] at rx
    exact un_neg pins s σ H _ v Q I rx ⟨_, rfl, q _ _ (.refl H) (.int _)⟩
  · cases er
end

/-! ### comparisons -/
def vOf : D → V
  | .none => .non
  | .bool b => .bl b
  | .int i => .int i
  | .str x => .str x
  | _ => .ty ""
def eqOk (x y : D) : Bool := scal (vOf x) (vOf y) || (SeqAt.shaped x && SeqAt.shaped y)
def fEq (x y : D) : Option R := if eqOk x y = true then some (.val (.bool (PyData.eqv x y))) else none
def fNe (x y : D) : Option R := if eqOk x y = true then some (.val (.bool (!PyData.eqv x y))) else none
def cmpI (p : Int → Int → Bool) : D → D → Option R
  | .int i, .int j => some (.val (.bool (p i j)))
  | _, _ => none
def fLt : D → D → Option R := cmpI fun i j => decide (i < j)
def fLe : D → D → Option R := cmpI fun i j => decide (i ≤ j)
def fGt : D → D → Option R := cmpI fun i j => decide (j < i)
def fGe : D → D → Option R := cmpI fun i j => decide (j ≤ i)
def isNon : D → Bool
  | .none => true
  | _ => false
def fIs (x y : D) : Option R := if isNon y = true then some (.val (.bool (isNon x))) else none
def fIsNot (x y : D) : Option R := if isNon y = true then some (.val (.bool (!isNon x))) else none
mutual
theorem Sh.noD {K : PySem.W.Frag} {F : Addr → Prop} {H : Hp} : ∀ (d : D) (v : V), Sh K F H v d → PyData.canLay0 d = true → Dp K H v d
  | .none, _, .non, _ => .non
  | .bool b, _, .bl _, _ => .bl b
  | .int i, _, .int _, _ => .int i
  | .str x, _, .str _, _ => .str x
  | .list ds, _, .lst r s, h => .lst (r.elim (fun z => .inl z.2) .inr) (ShA.noD ds _ s (by simpa [PyData.canLay0] using h))
  | .tuple ds, _, .tup r s, h => .tup (r.elim (fun z => .inl z.2) .inr) (ShA.noD ds _ s (by simpa [PyData.canLay0] using h))
  | .dict ds, _, .dic _ _ _, h => by simp [PyData.canLay0] at h
theorem ShA.noD {K : PySem.W.Frag} {F : Addr → Prop} {H : Hp} : ∀ (ds : List D) (vs : List V), ShA K F H vs ds → PyData.canLayAll0 ds = true → DpAll K H vs ds
  | [], _, .nil, _ => .nil
  | d :: ds, _, .cons h s, q => .cons (Sh.noD d _ h (by simp [PyData.canLayAll0] at q; exact q.1)) (ShA.noD ds _ s (by simp [PyData.canLayAll0] at q; exact q.2))
end

theorem vOf_sh {K : PySem.W.Frag} {F : Addr → Prop} {H : Hp} {v w : V} {d e : D} (h : Sh K F H v d) (h' : Sh K F H w e) (q : scal (vOf d) (vOf e) = true) : v = vOf d ∧ w = vOf e := by
  constructor
  · cases h <;> first | rfl | (simp [vOf, scal] at q)
  · cases h' <;> first | rfl | (cases d <;> simp [vOf, scal] at q)
theorem eqv_sc {d e : D} (q : scal (vOf d) (vOf e) = true) : decide (vOf d = vOf e) = PyData.eqv d e := by
  cases d <;> cases e <;> simp [vOf, scal, PyData.eqv] at q ⊢
  all_goals (rw [Bool.eq_iff_iff]; simp)
section
variable {X : Cx}
theorem od_eq (hu : X.A.units + 64 < cLine) : OpR X (compareOp .Eq) (rD2 X.K fEq) := by
  intro pins s σ H x y v u Q I rx ry h
  obtain ⟨F, d, e, r, tr, sx, sy, er, q⟩ := h
  unfold fEq at er
  split at er
  · rename_i hm
    cases er
    unfold eqOk at hm
    rw [Bool.or_eq_true] at hm
    rcases hm with hm | hm
    · obtain ⟨e1, e2⟩ := vOf_sh sx sy hm
      subst e1
      subst e2
      exact op_eq pins s σ H _ _ v u Q I rx ry ⟨hm, by rw [eqv_sc hm]; exact q _ _ (.refl H) (.bl _)⟩
    · rw [Bool.and_eq_true] at hm
      exact op_eqD hu pins s σ H _ _ v u Q I rx ry ⟨d, e, Sh.noD _ _ sx (SeqAt.canLay_of_shaped hm.1), Sh.noD _ _ sy (SeqAt.canLay_of_shaped hm.2), hm.1, hm.2, q _ _ (.refl H) (.bl _)⟩
  · cases er
theorem od_ne (hu : X.A.units + 64 < cLine) : OpR X (compareOp .NotEq) (rD2 X.K fNe) := by
  intro pins s σ H x y v u Q I rx ry h
  obtain ⟨F, d, e, r, tr, sx, sy, er, q⟩ := h
  unfold fNe at er
  split at er
  · rename_i hm
    cases er
    unfold eqOk at hm
    rw [Bool.or_eq_true] at hm
    rcases hm with hm | hm
    · obtain ⟨e1, e2⟩ := vOf_sh sx sy hm
      subst e1
      subst e2
      exact op_ne pins s σ H _ _ v u Q I rx ry ⟨hm, by rw [eqv_sc hm]; exact q _ _ (.refl H) (.bl _)⟩
    · rw [Bool.and_eq_true] at hm
      exact op_neD hu pins s σ H _ _ v u Q I rx ry ⟨d, e, Sh.noD _ _ sx (SeqAt.canLay_of_shaped hm.1), Sh.noD _ _ sy (SeqAt.canLay_of_shaped hm.2), hm.1, hm.2, q _ _ (.refl H) (.bl _)⟩
  · cases er
theorem od_cmpI {op : CmpOp} {p : Int → Int → Bool} (ho : OpR X (compareOp op) (rI0 fun i j => .bl (p i j))) : OpR X (compareOp op) (rD2 X.K (cmpI p)) := by
  intro pins s σ H x y v u Q I rx ry h
  obtain ⟨F, d, e, r, tr, sx, sy, er, q⟩ := h
  unfold cmpI at er
  split at er
  · cases er
    rw [sx.ofInt] at rx
    rw [sy.ofInt] at ry
    exact ho pins s σ H _ _ v u Q I rx ry ⟨_, _, rfl, rfl, q _ _ (.refl H) (.bl _)⟩
  · cases er
theorem od_lt : OpR X (compareOp .Lt) (rD2 X.K fLt) := od_cmpI op_lt
theorem od_le : OpR X (compareOp .LtE) (rD2 X.K fLe) := od_cmpI op_le
theorem od_gt : OpR X (compareOp .Gt) (rD2 X.K fGt) := od_cmpI op_gt
theorem od_ge : OpR X (compareOp .GtE) (rD2 X.K fGe) := od_cmpI op_ge
theorem isNon_sh {K : PySem.W.Frag} {F : Addr → Prop} {H : Hp} {v : V} {d : D} (h : Sh K F H v d) : isNon d = decide (v = .non) := by
  cases h <;> simp [isNon]
theorem od_is : OpR X (compareOp .Is) (rD2 X.K fIs) := by
  intro pins s σ H x y v u Q I rx ry h
  obtain ⟨F, d, e, r, tr, sx, sy, er, q⟩ := h
  unfold fIs at er
  split at er
  · rename_i hm
    cases er
    have e1 := isNon_sh sy
    rw [hm] at e1
    exact op_isN pins s σ H _ _ v u Q I rx ry ⟨of_decide_eq_true e1.symm, by rw [← isNon_sh sx]; exact q _ _ (.refl H) (.bl _)⟩
  · cases er
theorem od_isnot : OpR X (compareOp .IsNot) (rD2 X.K fIsNot) := by
  intro pins s σ H x y v u Q I rx ry h
  obtain ⟨F, d, e, r, tr, sx, sy, er, q⟩ := h
  unfold fIsNot at er
  split at er
  · rename_i hm
    cases er
    have e1 := isNon_sh sy
    rw [hm] at e1
    exact op_notN pins s σ H _ _ v u Q I rx ry ⟨of_decide_eq_true e1.symm, by rw [← isNon_sh sx]; exact q _ _ (.refl H) (.bl _)⟩
  · cases er
end

/-! ### in -/
def flatD : D → Bool
  | .none => true
  | .bool _ => true
  | .int _ => true
  | .str _ => true
  | _ => false
/-- x in a text | a list or tuple of flat things -/
def inD (x : D) (ds : List D) : Bool := ds.any fun y => PyData.eqv y x
def fInB : D → D → Option Bool
  | .str i, .str j => some (!(Builtin.Str.occurrences j i 0 j.length 1).isEmpty)
  | x, .list ds => if flatD x = true ∧ ds.all flatD = true then some (inD x ds) else none
  | x, .tuple ds => if flatD x = true ∧ ds.all flatD = true then some (inD x ds) else none
  | _, _ => none
def fIn (x y : D) : Option R := (fInB x y).map fun b => .val (.bool b)
def fNotIn (x y : D) : Option R := (fInB x y).map fun b => .val (.bool (!b))
section
variable {K : PySem.W.Frag} {F : Addr → Prop} {H : Hp}
theorem flat_sh {v : V} {d : D} (h : Sh K F H v d) : flatV v = flatD d := by cases h <;> rfl
theorem flat_shA : ∀ {vs : List V} {ds : List D}, ShA K F H vs ds → vs.all flatV = ds.all flatD
  | _, _, .nil => rfl
  | _, _, .cons h s => by rw [List.all_cons, List.all_cons, flat_sh h, flat_shA s]
theorem eqV_sh {v w : V} {d e : D} (h : Sh K F H v d) (h' : Sh K F H w e) (f : flatD d = true) (f' : flatD e = true) : eqV v w = PyData.eqv d e := by
  cases h <;> cases h' <;> first | rfl | (simp [flatD] at f) | (simp [flatD] at f')
theorem inV_sh {v : V} {d : D} (h : Sh K F H v d) (f : flatD d = true) : ∀ {vs : List V} {ds : List D}, ShA K F H vs ds → ds.all flatD = true → inV v vs = inD d ds
  | _, _, .nil, _ => rfl
  | _, _, .cons h' s, q => by
    rw [List.all_cons, Bool.and_eq_true] at q
    have ih := inV_sh h f s q.2
    unfold inV inD at ih ⊢
    rw [List.any_cons, List.any_cons, ih, eqV_sh h' h q.1 f]
end
section
variable {X : Cx}
theorem od_in : OpR X (compareOp .In) (rD2 X.K fIn) := by
  intro pins s σ H x y v u Q I rx ry h
  obtain ⟨F, d, e, r, tr, sx, sy, er, q⟩ := h
  unfold fIn at er
  rw [Option.map_eq_some_iff] at er
  obtain ⟨b, eb, rfl⟩ := er
  unfold fInB at eb
  split at eb
  · cases eb
    rw [sx.ofStr] at rx
    rw [sy.ofStr] at ry
    exact op_in_str pins s σ H _ _ v u Q I rx ry ⟨_, _, rfl, rfl, q _ _ (.refl H) (.bl _)⟩
  · split at eb
    · rename_i hf
      cases eb
      obtain ⟨a, xs, rfl, ra, sa⟩ := sy.L
      refine op_in_seq pins s σ H _ _ v u Q I rx ry ⟨a, xs, rfl, .inl ra, by rw [flat_sh sx]; exact hf.1, by rw [flat_shA sa]; exact hf.2, ?_⟩
      rw [if_neg Bool.false_ne_true, inV_sh sx hf.1 sa hf.2]
      exact q _ _ (.refl H) (.bl _)
    · cases eb
  · split at eb
    · rename_i hf
      cases eb
      obtain ⟨a, xs, rfl, ra, sa⟩ := sy.T
      refine op_in_seq pins s σ H _ _ v u Q I rx ry ⟨a, xs, rfl, .inr ra, by rw [flat_sh sx]; exact hf.1, by rw [flat_shA sa]; exact hf.2, ?_⟩
      rw [if_neg Bool.false_ne_true, inV_sh sx hf.1 sa hf.2]
      exact q _ _ (.refl H) (.bl _)
    · cases eb
  · cases eb
theorem od_notin : OpR X (compareOp .NotIn) (rD2 X.K fNotIn) := by
  intro pins s σ H x y v u Q I rx ry h
  obtain ⟨F, d, e, r, tr, sx, sy, er, q⟩ := h
  unfold fNotIn at er
  rw [Option.map_eq_some_iff] at er
  obtain ⟨b, eb, rfl⟩ := er
  unfold fInB at eb
  split at eb
  · cases eb
    rw [sx.ofStr] at rx
    rw [sy.ofStr] at ry
    exact op_notin_str pins s σ H _ _ v u Q I rx ry ⟨_, _, rfl, rfl, q _ _ (.refl H) (.bl _)⟩
  · split at eb
    · rename_i hf
      cases eb
      obtain ⟨a, xs, rfl, ra, sa⟩ := sy.L
      refine op_notIn_seq pins s σ H _ _ v u Q I rx ry ⟨a, xs, rfl, .inl ra, by rw [flat_sh sx]; exact hf.1, by rw [flat_shA sa]; exact hf.2, ?_⟩
      rw [if_pos rfl, inV_sh sx hf.1 sa hf.2]
      exact q _ _ (.refl H) (.bl _)
    · cases eb
  · split at eb
    · rename_i hf
      cases eb
      obtain ⟨a, xs, rfl, ra, sa⟩ := sy.T
      refine op_notIn_seq pins s σ H _ _ v u Q I rx ry ⟨a, xs, rfl, .inr ra, by rw [flat_sh sx]; exact hf.1, by rw [flat_shA sa]; exact hf.2, ?_⟩
      rw [if_pos rfl, inV_sh sx hf.1 sa hf.2]
      exact q _ _ (.refl H) (.bl _)
    · cases eb
  · cases eb
end

/-! ### subscripts, slices -/
def fIx : D → D → Option R
  | .list ds, .int i => (atI ds i).map .val
  | .tuple ds, .int i => (atI ds i).map .val
  | .str z, .int i => if z.length ≤ 16777216 then (atI z.cps.toList i).map fun c => .val (.str ⟨#[c]⟩) else none
  | _, _ => none
theorem atI_sh {K : PySem.W.Frag} {F : Addr → Prop} {H : Hp} {vs : List V} {ds : List D} {i : Int} {d : D} (s : ShA K F H vs ds) (h : atI ds i = some d) : ∃ v, atI vs i = some v ∧ Sh K F H v d := by
  unfold atI at h ⊢
  rw [s.length]
  cases e : ixN ds.length i with
  | none => rw [e] at h; cases h
  | some j =>
    rw [e] at h
    exact s.get h
def rDP2 (K : PySem.W.Frag) (f : D → D → Option R) : R2 := fun x y H Q => ∃ F d e r, (∀ a, F a → H a ≠ none) ∧ Pk K F H x d ∧ Sh K F H y e ∧ f d e = some r ∧ NewOk K F H Q r
section
variable {X : Cx}
theorem ix_p : IxR X (rDP2 X.K fIx) := by
  intro value slice pins s σ H x y v u Q I rx ry h hs
  obtain ⟨F, d, e, r, tr, sx, sy, er, q⟩ := h
  unfold fIx at er
  split at er
  · rw [Option.map_eq_some_iff] at er
    obtain ⟨b, eb, rfl⟩ := er
    obtain ⟨a, xs, rfl, ra, sa⟩ := sx
    obtain ⟨w, ew, sw⟩ := atI_sh sa eb
    exact ix_list value slice pins s σ H _ _ v u Q I rx ry ⟨a, xs, _, w, rfl, sy.ofInt, ra, ew, q _ _ (.refl H) sw⟩ hs
  · rw [Option.map_eq_some_iff] at er
    obtain ⟨b, eb, rfl⟩ := er
    obtain ⟨a, xs, rfl, ra, sa⟩ := Sh.T sx
    obtain ⟨w, ew, sw⟩ := atI_sh sa eb
    exact ix_tup value slice pins s σ H _ _ v u Q I rx ry ⟨a, xs, _, w, rfl, sy.ofInt, ra, ew, q _ _ (.refl H) sw⟩ hs
  · split at er
    · rename_i hl
      rw [Option.map_eq_some_iff] at er
      obtain ⟨b, eb, rfl⟩ := er
      exact ix_str value slice pins s σ H _ _ v u Q I rx ry ⟨_, _, b, Sh.ofStr sx, sy.ofInt, line_of hl, eb, q _ _ (.refl H) (.str _)⟩ hs
    · cases er
  · cases er
theorem ix_d : IxR X (rD2 X.K fIx) := fun value slice pins s σ H x y v u Q I rx ry ⟨F, d, e, r, tr, sx, sy, er, q⟩ hs => ix_p value slice pins s σ H x y v u Q I rx ry ⟨F, d, e, r, tr, sx.pk, sy, er, q⟩ hs
end
/-- x[i], x a name: read at once -/
def eIxV (i : Nat) (mb : Env → Res D) : Env → Res R := fun ρ => bindR (ePk i ρ) fun _ _ => bindR (mb ρ) fun y ρ1 => bindR (ePk i ρ1) fun x ρ2 => optR (fIx x y) ρ2
def cutD (ds : List D) (lo hi : Option Int) : List D := (ds.drop (HT.sIx ds.length 0 lo)).take (HT.sIx ds.length ds.length hi - HT.sIx ds.length 0 lo)
def fSl (x : D) (lo hi : Option Int) : Option R := match x with
  | .list ds => some (.fresh (.lst (cutD ds lo hi)))
  | .tuple ds => some (.val (.tuple (cutD ds lo hi)))
  | .str z => if z.length ≤ 16777216 then some (.val (.str (cutS z lo hi))) else none
  | _ => none
def rSlD (K : PySem.W.Frag) : V → Option Int → Option Int → Hp → VK → Prop := fun x lo hi H Q => ∃ F d r, (∀ a, F a → H a ≠ none) ∧ Pk K F H x d ∧ fSl d lo hi = some r ∧ NewOk K F H Q r
theorem cut_sh {K : PySem.W.Frag} {F : Addr → Prop} {H : Hp} {vs : List V} {ds : List D} {lo hi : Option Int} (s : ShA K F H vs ds) : ShA K F H (cutV vs lo hi) (cutD ds lo hi) := by
  unfold cutV cutD
  rw [s.length]
  exact (s.drop _).take _
section
variable {X : Cx}
theorem sl_d : L2.SlR X (rSlD X.K) := by
  intro pins s σ H x v vl vu lo hi sl Q I rx hs pl pu h
  obtain ⟨F, d, r, tr, sx, er, q⟩ := h
  unfold fSl at er
  split at er
  · cases er
    obtain ⟨a, xs, rfl, ra, sa⟩ := sx
    exact sl_list pins s σ H _ v vl vu lo hi sl Q I rx hs pl pu ⟨a, xs, rfl, ra, new_lst tr (cut_sh sa) q⟩
  · rename_i ds
    cases er
    obtain ⟨a, xs, rfl, ra, sa⟩ := Sh.T sx
    refine sl_tupA pins s σ H _ v vl vu lo hi sl Q I rx hs pl pu ⟨a, xs, rfl, ra, fun hw => ?_, fun _ => new_tup tr (cut_sh sa) q⟩
    have e : cutD ds lo hi = ds := by
      unfold cutD
      rw [← sa.length, hw.1, hw.2, List.drop_zero, Nat.sub_zero, sa.length, List.take_length]
    refine q _ _ (.refl H) ?_
    rw [e]
    exact sx
  · split at er
    · rename_i hl
      cases er
      exact sl_str pins s σ H _ v vl vu lo hi sl Q I rx hs pl pu ⟨_, Sh.ofStr sx, line_of hl, q _ _ (.refl H) (.str _)⟩
    · cases er
  · cases er
variable {C : Ctx} {W : WX} {e b : Expr} {ma mb : Env → Res D} {pos p2 : Pos}
def oNone : Env → Res (Option Int) := fun ρ => .ok none ρ
def asI : D → Option (Option Int)
  | .int i => some (some i)
  | _ => none
def oSome (m : Env → Res D) : Env → Res (Option Int) := fun ρ => bindR (m ρ) fun d ρ1 => optR (asI d) ρ1
theorem jo_none : JO X C W none oNone := PO.imp po_none fun σ H Q ⟨ρ, o, S, q⟩ => q none H o S (.refl _ _) rfl
theorem jo_some (h : JV X C W e ma) : JO X C W (some e) (oSome ma) := PO.imp (po_some h) fun σ H Q ⟨ρ, o, S, h⟩ => by
  obtain ⟨ρ0, o0, S0, h0⟩ := stepV (Rl := Sh X.K) S h
  refine ⟨ρ0, o0, S0, h0.imp (fun d ρ1 z v H1 o1 S1 t1 s1 => ?_) fun _ _ z => z⟩
  obtain ⟨ρ1', o1', d', S1', T1, s1', q1⟩ := z v H1 o1 S1 t1 s1
  cases d' with
  | int i => exact ⟨i, s1'.ofInt, q1 (some i) H1 o1' S1' (.refl _ _) rfl⟩
  | _ => exact q1.elim
/-- a slice: the whole is read behind its bounds; x a name | any value -/
def eSlV (i : Nat) (ml mh : Env → Res (Option Int)) : Env → Res R := fun ρ => bindR (ePk i ρ) fun _ _ => bindR (ml ρ) fun lo ρ1 => bindR (mh ρ1) fun hi ρ2 => bindR (ePk i ρ2) fun x ρ3 => optR (fSl x lo hi) ρ3
def eSl (m : Env → Res D) (ml mh : Env → Res (Option Int)) : Env → Res R := fun ρ => bindR (m ρ) fun x ρ0 => bindR (ml ρ0) fun lo ρ1 => bindR (mh ρ1) fun hi ρ2 => optR (fSl x lo hi) ρ2
/-- what a slot holds, for one who knows its value -/
theorem pk_at {i : Nat} {ρ : Env} {o : Nat → List Addr} {σ : St} {H : Hp} {v : V} {γ : Type} {Ok : γ → Env → Prop} {Ex : Str → Env → Prop} {k : D → Env → Res γ} (S : SRo X.K C o ρ σ H) (hv : σ[i]? = some (some v)) (h : PoG Ok Ex (bindR (ePk i ρ) k)) : ∃ d, Pk X.K (FF C.B o) H v d ∧ PoG Ok Ex (k d ρ) := by
  have z := S.slot i
  unfold ePk at h
  cases g : gS ρ i with
  | emp => rw [g] at h; exact h.elim
  | val d =>
    rw [g] at h z
    obtain ⟨_, w, ew, s⟩ := z
    rw [ew] at hv; cases hv
    exact ⟨d, s.pk, h⟩
  | own c =>
    rw [g] at h z
    obtain ⟨w, ew, s⟩ := z
    rw [ew] at hv; cases hv
    exact ⟨c.toD, s.pk, h⟩
  | bor c =>
    rw [g] at h z
    rw [z.1] at hv; cases hv
    exact ⟨c.toD, z.2.pk, h⟩
theorem val_at {i : Nat} {ρ : Env} {o : Nat → List Addr} {σ : St} {H : Hp} {γ : Type} {Ok : γ → Env → Prop} {Ex : Str → Env → Prop} {rr : Res γ} (S : SRo X.K C o ρ σ H) (h : PoG Ok Ex (bindR (ePk i ρ) fun _ _ => rr)) : ∃ v, σ[i]? = some (some v) ∧ PoG Ok Ex rr := by
  have z := S.slot i
  unfold ePk at h
  cases g : gS ρ i with
  | emp => rw [g] at h; exact h.elim
  | val d => rw [g] at h z; exact ⟨_, z.2.choose_spec.1, h⟩
  | own c => rw [g] at h z; exact ⟨_, z.choose_spec.1, h⟩
  | bor c => rw [g] at h z; exact ⟨_, z.1, h⟩
theorem je_ixV {i : Nat} (ha : PE X e (tVar i)) (hb : JV X C W b mb) (hs : PlainIx b) : JE X C W (.Subscript e b pos) (eIxV i mb) :=
  PE.imp (pe_ix ix_p ha hb hs) fun σ H Q ⟨ρ, o, S, h⟩ => by
    unfold eIxV at h
    obtain ⟨v, hv, h⟩ := val_at S h
    refine ⟨v, hv, ?_⟩
    obtain ⟨ρ0, o0, S0, h0⟩ := stepE (Rl := Sh X.K) S h
    refine ⟨ρ0, o0, S0, h0.imp (fun d ρ1 z v1 H1 o1 S1 t1 s1 => ?_) fun _ _ z => z⟩
    obtain ⟨ρ1', o1', d', S1', T1, s1', q1⟩ := z v1 H1 o1 S1 t1 s1
    obtain ⟨dx, pk, q2⟩ := pk_at S1' hv q1
    obtain ⟨r, er, q⟩ := optE q2
    exact ⟨FF C.B o1', dx, d', r, S1'.tr, pk, s1', er, newOk S1' q⟩
theorem je_slV {i : Nat} {lo hi : Option Expr} {ml mh : Env → Res (Option Int)} (ha : PE X e (tVar i)) (hl : JO X C W lo ml) (hh : JO X C W hi mh) : JE X C W (.Subscript e (.Slice lo hi none p2) pos) (eSlV i ml mh) :=
  PE.imp (pe_slice sl_d ha hl hh) fun σ H Q ⟨ρ, o, S, h⟩ => by
    unfold eSlV at h
    obtain ⟨v, hv, h⟩ := val_at S h
    refine ⟨v, hv, ?_⟩
    obtain ⟨ρ0, o0, S0, h0⟩ := stepE (Rl := RlO) S h
    refine ⟨ρ0, o0, S0, h0.imp (fun d ρ1 z v1 H1 o1 S1 t1 s1 => ?_) fun _ _ z => z⟩
    obtain ⟨ρ1', o1', d', S1', T1, s1', q1⟩ := z v1 H1 o1 S1 t1 s1
    obtain ⟨ρ2, o2, S2, h2⟩ := stepE (Rl := RlO) S1' q1
    refine ⟨ρ2, o2, S2, h2.imp (fun d ρ1 z v2 H1 o1 S1 t1 s2 => ?_) fun _ _ z => z⟩
    obtain ⟨ρ3', o3', d3', S3', T3, s3', q3⟩ := z v2 H1 o1 S1 t1 s2
    have e1 : v1 = d' := s1'
    have e2 : v2 = d3' := s3'
    subst e1
    subst e2
    obtain ⟨dx, pk, q2⟩ := pk_at S3' hv q3
    obtain ⟨r, er, q⟩ := optE q2
    exact ⟨FF C.B o3', dx, r, S3'.tr, pk, er, newOk S3' q⟩
theorem je_sl {lo hi : Option Expr} {ml mh : Env → Res (Option Int)} (ha : JV X C W e ma) (hl : JO X C W lo ml) (hh : JO X C W hi mh) : JE X C W (.Subscript e (.Slice lo hi none p2) pos) (eSl ma ml mh) :=
  PE.imp (pe_slice sl_d ha hl hh) fun σ H Q ⟨ρ, o, S, h⟩ => by
    obtain ⟨ρ00, o00, S00, h00⟩ := stepE (Rl := Sh X.K) S h
    refine ⟨ρ00, o00, S00, h00.imp (fun d ρ1 z v H1 o1 S1 t1 s1 => ?_) fun _ _ z => z⟩
    obtain ⟨ρ0', o0', d0', S0', T0, s0', q0⟩ := z v H1 o1 S1 t1 s1
    obtain ⟨ρ0, o0, S0, h0⟩ := stepE (Rl := RlO) S0' q0
    refine ⟨ρ0, o0, S0, h0.imp (fun d ρ1 z v1 H1 o1 S1 t1 s1 => ?_) fun _ _ z => z⟩
    obtain ⟨ρ1', o1', d', S1', T1, s1', q1⟩ := z v1 H1 o1 S1 t1 s1
    obtain ⟨ρ2, o2, S2, h2⟩ := stepE (Rl := RlO) S1' q1
    refine ⟨ρ2, o2, S2, h2.imp (fun d ρ1 z v2 H1 o1 S1 t1 s2 => ?_) fun _ _ z => z⟩
    obtain ⟨ρ3', o3', d3', S3', T3, s3', q3⟩ := z v2 H1 o1 S1 t1 s2
    have e1 : v1 = d' := s1'
    have e2 : v2 = d3' := s3'
    subst e1
    subst e2
    obtain ⟨r, er, q⟩ := optE q3
    exact ⟨FF C.B o3', d0', r, S3'.tr, ((s0'.tx T1).tx T3).pk, er, newOk S3' q⟩
theorem chain_imp {f g : D → D → Option R} {mc : Env → Res D} {o : Nat → List Addr} {σ : St} {H : Hp} {ρ : Env} {Q : VK} (S : SRo X.K C o ρ σ H) (h : PoG (OkE X C o σ H Q) (ExP X C W o σ H) (eChain f g ma mb mc ρ)) :
    tChain (rD2 X.K f) (rD2 X.K g) (tV X C W (Sh X.K) ma) (tV X C W (Sh X.K) mb) (tV X C W (Sh X.K) mc) σ H Q := by
  obtain ⟨ρ0, o0, S0, h0⟩ := stepE (Rl := Sh X.K) S h
  refine ⟨ρ0, o0, S0, h0.imp (fun d ρ1 z v H1 o1 S1 t1 s1 => ?_) fun _ _ z => z⟩
  obtain ⟨ρ1', o1', d', S1', T1, s1', q1⟩ := z v H1 o1 S1 t1 s1
  obtain ⟨ρ2, o2, S2, h2⟩ := stepE (Rl := Sh X.K) S1' q1
  refine ⟨ρ2, o2, S2, h2.imp (fun d2 ρ3 z2 v2 H2 o3 S3 t3 s3 => ?_) fun _ _ z => z⟩
  obtain ⟨ρ4, o4, d4, S4, T4, s4, q4⟩ := z2 v2 H2 o3 S3 t3 s3
  cases ef : f d' d4 with
  | none => rw [ef] at q4; exact q4.elim
  | some r =>
    rw [ef, optR_some, bindR_ok] at q4
    cases eb : asB r with
    | none => simp only [eb] at q4; exact q4.elim
    | some k =>
      have er := asB_eq eb
      subst er
      refine ⟨FF C.B o4, d', d4, _, S4.tr, s1'.tx T4, s4, ef, fun v' H' sm sh => ⟨k, sh.ofBool, ?_⟩⟩
      cases k with
      | false =>
        simp only [eb] at q4
        rw [if_neg Bool.false_ne_true]
        exact q4 _ H' o4 (S4.keep sm) (.same sm) (.bl false)
      | true =>
        simp only [eb] at q4
        rw [if_pos rfl]
        have S5 := S4.keep sm
        have q5 : PoG (OkE X C o4 σ H' Q) (ExP X C W o4 σ H') (bindR (mc ρ4) fun z ρ5 => optR (g d4 z) ρ5) := q4.imp (fun _ _ => OkE.shift (.same sm)) fun _ _ => ExP.shift (.same sm)
        obtain ⟨ρ6, o6, S6, h6⟩ := stepE (Rl := Sh X.K) S5 q5
        refine ⟨ρ6, o6, S6, h6.imp (fun d6 ρ7 z7 v7 H7 o7 S7 t7 s7 => ?_) fun _ _ z => z⟩
        obtain ⟨ρ8, o8, d8, S8, T8, s8, q8⟩ := z7 v7 H7 o7 S7 t7 s7
        obtain ⟨r, er, q⟩ := optE q8
        exact ⟨FF C.B o8, d4, d8, r, S8.tr, (s4.tx (.same sm)).tx T8, s8, er, newOk S8 q⟩
/-- a comparison of three -/
theorem je_chain {op op' : CmpOp} {f g : D → D → Option R} {c : Expr} {mc : Env → Res D} (ho : OpR X (compareOp op) (rD2 X.K f)) (ho' : OpR X (compareOp op') (rD2 X.K g)) (ha : JV X C W e ma) (hb : JV X C W b mb) (hc : JV X C W c mc)
    (hm : lastMarks [op, op'] [b, c] = false := by with_unfolding_all rfl) : JE X C W (.Compare e [op, op'] [b, c] pos) (eChain f g ma mb mc) :=
  PE.imp (pe_chain ho ho' ha hb hc hm) fun σ H Q ⟨ρ, o, S, h⟩ => chain_imp S h
theorem jt_chain {op op' : CmpOp} {f g : D → D → Option R} {c : Expr} {mc : Env → Res D} (ho : OpR X (compareOp op) (rD2 X.K f)) (ho' : OpR X (compareOp op') (rD2 X.K g)) (ha : JV X C W e ma) (hb : JV X C W b mb) (hc : JV X C W c mc)
    (hm : lastMarks [op, op'] [b, c] = false := by with_unfolding_all rfl) : JT X C W (.Compare e [op, op'] [b, c] pos) (tBoolD (eChain f g ma mb mc)) :=
  PT.imp (pt_chain ho ho' ha hb hc hm) fun σ H Q ⟨ρ, o, S, h⟩ => by
    obtain ⟨ρ0, o0, S0, h0⟩ := tB_imp S h
    exact chain_imp S0 h0
end
end Dn
set_option Elab.async false
set_option linter.all false
set_option maxRecDepth 100000
set_option maxHeartbeats 2000000
/-! Dn7: built-ins of one argument, isinstance, what loops walk, methods of own lists and dicts -/
namespace Dn
open PySem L2

theorem bt_len : bootBuiltins "len" = some (.builtin "len") := by decide +kernel
theorem bt_abs : bootBuiltins "abs" = some (.builtin "abs") := by decide +kernel
theorem bt_isi : bootBuiltins "isinstance" = some (.builtin "isinstance") := by decide +kernel
theorem bt_int : bootBuiltins "int" = some (.type "int") := by decide +kernel
theorem bt_str : bootBuiltins "str" = some (.type "str") := by decide +kernel
theorem bt_bool : bootBuiltins "bool" = some (.type "bool") := by decide +kernel
theorem bt_list : bootBuiltins "list" = some (.type "list") := by decide +kernel
theorem bt_tuple : bootBuiltins "tuple" = some (.type "tuple") := by decide +kernel
theorem bt_dict : bootBuiltins "dict" = some (.type "dict") := by decide +kernel
theorem bt_sum : bootBuiltins "sum" = some (.builtin "sum") := by decide +kernel
theorem bt_min : bootBuiltins "min" = some (.builtin "min") := by decide +kernel
theorem bt_max : bootBuiltins "max" = some (.builtin "max") := by decide +kernel
theorem bt_all : bootBuiltins "all" = some (.builtin "all") := by decide +kernel
theorem bt_any : bootBuiltins "any" = some (.builtin "any") := by decide +kernel
theorem bt_sorted : bootBuiltins "sorted" = some (.builtin "sorted") := by decide +kernel

/-! ### kinds -/
def tyN : D → String
  | .none => "NoneType"
  | .bool _ => "bool"
  | .int _ => "int"
  | .str _ => "str"
  | .list _ => "list"
  | .tuple _ => "tuple"
  | .dict _ => "dict"
def isInt : D → Bool
  | .int _ => true
  | .bool _ => true
  | _ => false
def isBool : D → Bool
  | .bool _ => true
  | _ => false
def isStr : D → Bool
  | .str _ => true
  | _ => false
def isTup : D → Bool
  | .tuple _ => true
  | _ => false
def isLst : D → Bool
  | .list _ => true
  | _ => false
def isDct : D → Bool
  | .dict _ => true
  | _ => false
theorem kit_int : ∀ d : D, kitB (tyN d) "int" = some (isInt d)
  | .none => (by decide +kernel : kitB "NoneType" "int" = some false)
  | .bool _ => (by decide +kernel : kitB "bool" "int" = some true)
  | .int _ => (by decide +kernel : kitB "int" "int" = some true)
  | .str _ => (by decide +kernel : kitB "str" "int" = some false)
  | .list _ => (by decide +kernel : kitB "list" "int" = some false)
  | .tuple _ => (by decide +kernel : kitB "tuple" "int" = some false)
  | .dict _ => (by decide +kernel : kitB "dict" "int" = some false)
theorem kit_bool : ∀ d : D, kitB (tyN d) "bool" = some (isBool d)
  | .none => (by decide +kernel : kitB "NoneType" "bool" = some false)
  | .bool _ => (by decide +kernel : kitB "bool" "bool" = some true)
  | .int _ => (by decide +kernel : kitB "int" "bool" = some false)
  | .str _ => (by decide +kernel : kitB "str" "bool" = some false)
  | .list _ => (by decide +kernel : kitB "list" "bool" = some false)
  | .tuple _ => (by decide +kernel : kitB "tuple" "bool" = some false)
  | .dict _ => (by decide +kernel : kitB "dict" "bool" = some false)
theorem kit_str : ∀ d : D, kitB (tyN d) "str" = some (isStr d)
  | .none => (by decide +kernel : kitB "NoneType" "str" = some false)
  | .bool _ => (by decide +kernel : kitB "bool" "str" = some false)
  | .int _ => (by decide +kernel : kitB "int" "str" = some false)
  | .str _ => (by decide +kernel : kitB "str" "str" = some true)
  | .list _ => (by decide +kernel : kitB "list" "str" = some false)
  | .tuple _ => (by decide +kernel : kitB "tuple" "str" = some false)
  | .dict _ => (by decide +kernel : kitB "dict" "str" = some false)
theorem kit_tuple : ∀ d : D, kitB (tyN d) "tuple" = some (isTup d)
  | .none => (by decide +kernel : kitB "NoneType" "tuple" = some false)
  | .bool _ => (by decide +kernel : kitB "bool" "tuple" = some false)
  | .int _ => (by decide +kernel : kitB "int" "tuple" = some false)
  | .str _ => (by decide +kernel : kitB "str" "tuple" = some false)
  | .list _ => (by decide +kernel : kitB "list" "tuple" = some false)
  | .tuple _ => (by decide +kernel : kitB "tuple" "tuple" = some true)
  | .dict _ => (by decide +kernel : kitB "dict" "tuple" = some false)
theorem kit_list : ∀ d : D, kitB (tyN d) "list" = some (isLst d)
  | .none => (by decide +kernel : kitB "NoneType" "list" = some false)
  | .bool _ => (by decide +kernel : kitB "bool" "list" = some false)
  | .int _ => (by decide +kernel : kitB "int" "list" = some false)
  | .str _ => (by decide +kernel : kitB "str" "list" = some false)
  | .list _ => (by decide +kernel : kitB "list" "list" = some true)
  | .tuple _ => (by decide +kernel : kitB "tuple" "list" = some false)
  | .dict _ => (by decide +kernel : kitB "dict" "list" = some false)
theorem kit_dict : ∀ d : D, kitB (tyN d) "dict" = some (isDct d)
  | .none => (by decide +kernel : kitB "NoneType" "dict" = some false)
  | .bool _ => (by decide +kernel : kitB "bool" "dict" = some false)
  | .int _ => (by decide +kernel : kitB "int" "dict" = some false)
  | .str _ => (by decide +kernel : kitB "str" "dict" = some false)
  | .list _ => (by decide +kernel : kitB "list" "dict" = some false)
  | .tuple _ => (by decide +kernel : kitB "tuple" "dict" = some false)
  | .dict _ => (by decide +kernel : kitB "dict" "dict" = some true)
section
variable {K : PySem.W.Frag} {F : Addr → Prop} {H : Hp}
theorem rd_tyL {a : Addr} {xs : List V} (r : SqL K H a xs) : TyX K H (.ref a) (.type "list") := by
  rcases r with (r | ⟨o, r⟩) | ⟨o, its, n, hk, hc, _⟩
  · exact .base (.lst r)
  · exact .base (.frz r)
  · exact .kList hk hc
theorem rd_tyD {a : Addr} {xs : List (Key × V)} (r : Rd H a (.dK xs)) : TyX K H (.ref a) (.type "dict") := by
  rcases r with r | ⟨o, r⟩
  · exact .base (.dK r)
  · exact .fDict r
theorem TyX.keep {K : PySem.W.Frag} {H H' : Hp} {v : V} {t : Value} (sm : Same H H') (ty : TyX K H v t) : TyX K H' v t := by
  cases ty with
  | base h => cases h with
    | non => exact .base .non
    | bl b => exact .base (.bl b)
    | int i => exact .base (.int i)
    | str i => exact .base (.str i)
    | flt i => exact .base (.flt i)
    | lst r => exact .base (.lst (sm _ _ r))
    | frz r => exact .base (.frz (sm _ _ r))
    | tup r => exact .base (.tup (sm _ _ r))
    | dK r => exact .base (.dK (sm _ _ r))
    | dT r => exact .base (.dT (sm _ _ r))
    | ins r a b c d e => exact .base (.ins (sm _ _ r) a b c d e)
  | byt b => exact .byt b
  | set r => exact .set (sm _ _ r)
  | kList e c => exact .kList e c
  | kTuple e c => exact .kTuple e c
  | kDict e c => exact .kDict e c
  | fTuple r => exact .fTuple (sm _ _ r)
  | fDict r => exact .fDict (sm _ _ r)
theorem pk_ty {v : V} {d : D} (h : Pk K F H v d) : TyX K H v (.type (tyN d)) := by
  cases d with
  | none => cases h; exact .base .non
  | bool b => cases h; exact .base (.bl b)
  | int i => cases h; exact .base (.int i)
  | str x => cases h; exact .base (.str x)
  | list ds =>
    obtain ⟨a, xs, rfl, r, s⟩ := h
    exact rd_tyL r
  | dict ds =>
    obtain ⟨a, xs, rfl, r, s⟩ := h
    exact rd_tyD r
  | tuple ds =>
    have h : Sh K F H v (.tuple ds) := h
    cases h with
    | tup hh s =>
      rcases hh with ⟨n, r⟩ | ⟨o, its, n, hk, hc, _⟩
      · rcases r with r | ⟨o, r⟩
        · exact .base (.tup r)
        · exact .fTuple r
      · exact .kTuple hk hc
end
section
variable {X : Cx} {C : Ctx} {W : WX} {e b : Expr} {ma mb : Env → Res D} {pos p p1 p2 : Pos}
def fP (q : D → Bool) : D → Option R := fun d => some (.val (.bool (q d)))
/-- isinstance(e, T) -/
theorem je_isi {T : Str} {T' : String} {q : D → Bool} (hq : ∀ d, kitB (tyN d) T' = some (q d)) (hv : bootBuiltins T = some (.type T')) (hm : X.mg "isinstance" = none) (hmT : X.mg T = none) (ha : JP X C W e ma) (hg : Gl X "isinstance") (hgT : Gl X T)
    (hnT : T ≠ "__name__" := by decide) (hdT : (T == ("__debug__" : Str)) = false := by decide) (hs1 : starEach [.Name T p1] X.env = (false, eval (.Name T p1) X.env) :: starEach [] X.env := by rfl)
    (hs : starEach (e :: [.Name T p1]) X.env = (false, eval e X.env) :: starEach [.Name T p1] X.env := by rfl) (hpl : (backTo pos (starEach [.Name T p1] X.env)).any (·.1) = false := by rfl) :
    JE X C W (.Call (.Name "isinstance" p) [e, .Name T p1] [] pos) (eOp1 (fP q) ma) :=
  PE.imp (pe_callB call_isi hg hm bt_isi (pa_cons ha (pa_cons (pe_bltn (v := .ty T') hgT hmT hv rfl hnT hdT) pa_nil hs1) hs) (by decide) (by decide) hs hpl) fun σ H Q ⟨ρ, o, S, h⟩ => by
    obtain ⟨ρ0, o0, S0, h0⟩ := stepE (Rl := Pk X.K) S h
    refine ⟨ρ0, o0, S0, h0.imp (fun d ρ1 z v H1 o1 S1 t1 s1 => ?_) fun _ _ z => z⟩
    obtain ⟨ρ1', o1', d', S1', T1, s1', q1⟩ := z v H1 o1 S1 t1 s1
    exact ⟨v, .ty T', .type (tyN d'), .type T', q d', rfl, .ty T', pk_ty s1', kit_ty (hq d'), (newOk (r := .val (.bool (q d'))) S1' q1) _ _ (.refl _) (.bl _)⟩
/-- isinstance(e, (T, U)) -/
theorem je_isi2 {T U : Str} {T' U' : String} {q r : D → Bool} {k : Nat} {pt : Pos} (hq : ∀ d, kitB (tyN d) T' = some (q d)) (hr : ∀ d, kitB (tyN d) U' = some (r d)) (hv : bootBuiltins T = some (.type T')) (hu : bootBuiltins U = some (.type U')) (hm : X.mg "isinstance" = none) (hmT : X.mg T = none) (hmU : X.mg U = none) (ha : JP X C W e ma) (hg : Gl X "isinstance") (hgT : Gl X T) (hgU : Gl X U)
    (hnT : T ≠ "__name__" := by decide) (hdT : (T == ("__debug__" : Str)) = false := by decide) (hnU : U ≠ "__name__" := by decide) (hdU : (U == ("__debug__" : Str)) = false := by decide) (hsU : starEach [.Name U p2] X.env = (false, eval (.Name U p2) X.env) :: starEach [] X.env := by rfl)
    (hsT : starEach [.Name T p1, .Name U p2] X.env = (false, eval (.Name T p1) X.env) :: starEach [.Name U p2] X.env := by rfl)
    (hs1 : starEach [.Tuple [.Name T p1, .Name U p2] k pt] X.env = (false, eval (.Tuple [.Name T p1, .Name U p2] k pt) X.env) :: starEach [] X.env := by rfl)
    (hs : starEach (e :: [.Tuple [.Name T p1, .Name U p2] k pt]) X.env = (false, eval e X.env) :: starEach [.Tuple [.Name T p1, .Name U p2] k pt] X.env := by rfl) (hpl : (backTo pos (starEach [.Tuple [.Name T p1, .Name U p2] k pt] X.env)).any (·.1) = false := by rfl) :
    JE X C W (.Call (.Name "isinstance" p) [e, .Tuple [.Name T p1, .Name U p2] k pt] [] pos) (eOp1 (fP fun d => q d || r d) ma) :=
  PE.imp (pe_callB call_isiT hg hm bt_isi (pa_cons ha (pa_cons (pe_tup (pa_cons (pe_bltn (v := .ty T') hgT hmT hv rfl hnT hdT) (pa_cons (pe_bltn (v := .ty U') hgU hmU hu rfl hnU hdU) pa_nil hsU) hsT)) pa_nil hs1) hs) (by decide) (by decide) hs hpl) fun σ H Q ⟨ρ, o, S, h⟩ => by
    obtain ⟨ρ0, o0, S0, h0⟩ := stepE (Rl := Pk X.K) S h
    refine ⟨ρ0, o0, S0, h0.imp (fun d ρ1 z v H1 o1 S1 t1 s1 => ?_) fun _ _ z => z⟩
    obtain ⟨ρ1', o1', d', S1', T1, s1', q1⟩ := z v H1 o1 S1 t1 s1
    refine ⟨line_of (by show 2 ≤ 16777216; decide), fun tp htp => ⟨v, tp, [.ty T', .ty U'], .type (tyN d'), [.type T', .type U'], q d' || r d', rfl, upd_same, .cons (.ty T') (.cons (.ty U') .nil), ?_, ?_, (newOk (r := .val (.bool (q d' || r d'))) S1' q1) _ _ (same_new htp) (.bl _)⟩⟩
    · exact TyX.keep (same_new htp) (pk_ty s1')
    · exact kitAny_cons (kit_ty (hq d')) (fun hb => by
        rw [hb, Bool.false_or]
        exact kitAny_cons (kit_ty (hr d')) (fun hb => by rw [hb]; rfl) fun hb => by rw [hb]) fun hb => by rw [hb]; rfl

/-! ### one argument -/
def fLen : D → Option R
  | .list ds => some (.val (.int ds.length))
  | .tuple ds => some (.val (.int ds.length))
  | .str z => if z.length ≤ 16777216 then some (.val (.int z.length)) else none
  | .dict ds => some (.val (.int ds.length))
  | _ => none
def fInt : D → Option R
  | .int i => some (.val (.int i))
  | .bool b => some (.val (.int (if b then 1 else 0)))
  | _ => none
def fAbs : D → Option R
  | .int i => some (.val (.int (if i < 0 then -i else i)))
  | _ => none
def fStr : D → Option R
  | .int i => if i.natAbs.log2 < 1920 then some (.val (.str (toString i))) else none
  | _ => none
def fTuple : D → Option R
  | .list ds => some (.val (.tuple ds))
  | .tuple ds => some (.val (.tuple ds))
  | _ => none
def fList : D → Option R
  | .list ds => some (.fresh (.lst ds))
  | .tuple ds => some (.fresh (.lst ds))
  | _ => none
theorem ShK.length {K : PySem.W.Frag} {F : Addr → Prop} {H : Hp} : ∀ {vs : List (Key × V)} {ds : List (D × D)}, ShK K F H vs ds → vs.length = ds.length
  | _, _, .nil => rfl
  | _, _, .cons _ s => by rw [List.length_cons, List.length_cons, ShK.length s]
theorem Pk.int {K : PySem.W.Frag} {F : Addr → Prop} {H : Hp} {v : V} {i : Int} (h : Pk K F H v (.int i)) : v = .int i := Sh.ofInt h
theorem Pk.bool {K : PySem.W.Frag} {F : Addr → Prop} {H : Hp} {v : V} {i : Bool} (h : Pk K F H v (.bool i)) : v = .bl i := Sh.ofBool h
theorem Pk.str {K : PySem.W.Frag} {F : Addr → Prop} {H : Hp} {v : V} {i : Str} (h : Pk K F H v (.str i)) : v = .str i := Sh.ofStr h
theorem Pk.tup {K : PySem.W.Frag} {F : Addr → Prop} {H : Hp} {v : V} {ds : List D} (h : Pk K F H v (.tuple ds)) : ∃ a xs, v = .ref a ∧ SqT K H a xs ∧ ShA K F H xs ds := Sh.T h
theorem cr_len : CallR X (.builtin "len") (rP1 X.K fLen) := by
  intro pins s σ H xs us Q I r h
  obtain ⟨x, F, d, rr, rfl, tr, sx, er, q⟩ := h
  unfold fLen at er
  split at er
  · cases er
    obtain ⟨a, xs, rfl, ra, sa⟩ := sx
    exact call_len pins s σ H _ us Q I r ⟨.ref a, xs.length, rfl, .inl ⟨xs, ra, rfl⟩, by rw [sa.length]; exact q _ _ (.refl H) (.int _)⟩
  · cases er
    obtain ⟨a, xs, rfl, ra, sa⟩ := sx.tup
    exact call_len pins s σ H _ us Q I r ⟨.ref a, xs.length, rfl, .inr ⟨xs, ra, rfl⟩, by rw [sa.length]; exact q _ _ (.refl H) (.int _)⟩
  · split at er
    · rename_i hl
      cases er
      rw [sx.str] at r
      exact call_len pins s σ H _ us Q I r ⟨_, _, rfl, ⟨line_of hl, rfl⟩, q _ _ (.refl H) (.int _)⟩
    · cases er
  · cases er
    obtain ⟨a, xs, rfl, ra, sa⟩ := sx
    obtain ⟨u, rfl, ru⟩ := vals1 r
    cases ru
    exact d_len I ra fun t s' I' => ⟨.int xs.length, H, I', ⟨t, rfl⟩, by rw [sa.length]; exact q _ _ (.refl H) (.int _)⟩
  · cases er
theorem cr_int : CallR X (.type "int") (rP1 X.K fInt) := by
  intro pins s σ H xs us Q I r h
  obtain ⟨x, F, d, rr, rfl, tr, sx, er, q⟩ := h
  unfold fInt at er
  split at er
  · cases er
    rw [sx.int] at r
    exact call_int1 pins s σ H _ us Q I r (.inl ⟨_, rfl, q _ _ (.refl H) (.int _)⟩)
  · cases er
    rw [sx.bool] at r
    exact call_int1 pins s σ H _ us Q I r (.inr ⟨_, rfl, q _ _ (.refl H) (.int _)⟩)
  · cases er
theorem cr_abs : CallR X (.builtin "abs") (rP1 X.K fAbs) := by
  intro pins s σ H xs us Q I r h
  obtain ⟨x, F, d, rr, rfl, tr, sx, er, q⟩ := h
  unfold fAbs at er
  split at er
  · cases er
    rw [sx.int] at r
    exact call_abs pins s σ H _ us Q I r ⟨_, rfl, q _ _ (.refl H) (.int _)⟩
  · cases er
theorem cr_str : CallR X (.type "str") (rP1 X.K fStr) := by
  intro pins s σ H xs us Q I r h
  obtain ⟨x, F, d, rr, rfl, tr, sx, er, q⟩ := h
  unfold fStr at er
  split at er
  · split at er
    · rename_i hl
      cases er
      rw [sx.int] at r
      exact call_str_int pins s σ H _ us Q I r ⟨_, rfl, hl, q _ _ (.refl H) (.str _)⟩
    · cases er
  · cases er
theorem cr_tuple : CallR X (.type "tuple") (rP1 X.K fTuple) := by
  intro pins s σ H xs us Q I r h
  obtain ⟨x, F, d, rr, rfl, tr, sx, er, q⟩ := h
  unfold fTuple at er
  split at er
  · cases er
    obtain ⟨a, xs, rfl, ra, sa⟩ := sx
    exact call_tuple_of pins s σ H _ us Q I r ⟨a, xs, rfl, .inl ⟨ra, new_tup tr sa q⟩⟩
  · cases er
    obtain ⟨a, xs, rfl, ra, sa⟩ := Pk.tup sx
    exact call_tuple_of pins s σ H _ us Q I r ⟨a, xs, rfl, .inr ⟨ra, q _ _ (.refl H) sx⟩⟩
  · cases er
theorem cr_list : CallR X (.type "list") (rP1 X.K fList) := by
  intro pins s σ H xs us Q I r h
  obtain ⟨x, F, d, rr, rfl, tr, sx, er, q⟩ := h
  unfold fList at er
  split at er
  · cases er
    obtain ⟨a, xs, rfl, ra, sa⟩ := sx
    exact call_list_of pins s σ H _ us Q I r ⟨a, xs, rfl, .inl ra, new_lst tr sa q⟩
  · cases er
    obtain ⟨a, xs, rfl, ra, sa⟩ := Pk.tup sx
    exact call_list_of pins s σ H _ us Q I r ⟨a, xs, rfl, .inr ra, new_lst tr sa q⟩
  · cases er

/-! ### truth of any value -/
def truD : D → Option Bool
  | .none => some false
  | .bool b => some b
  | .int i => some (i != 0)
  | .str z => if z.length ≤ 16777216 then some ((z.length : Int) != 0) else none
  | .list ds => some (!ds.isEmpty)
  | .tuple ds => some (!ds.isEmpty)
  | .dict _ => none
def tTru (m : Env → Res D) : Env → Res Bool := fun ρ => bindR (m ρ) fun d ρ1 => optR (truD d) ρ1
theorem isEmpty_sh {K : PySem.W.Frag} {F : Addr → Prop} {H : Hp} {vs : List V} {ds : List D} (s : ShA K F H vs ds) : vs.isEmpty = ds.isEmpty := by cases s <;> rfl
theorem jt_tru (h : JP X C W e ma) (he : ∀ whole, isTrue e X.env whole = (do let v ← whole; standAt e.pos; holding [v] (truthy v)) := by intro _; rfl) : JT X C W e (tTru ma) :=
  PT.imp (pt_truth h he) fun σ H Q ⟨ρ, o, S, h⟩ => by
    obtain ⟨ρ0, o0, S0, h0⟩ := stepV (Rl := Pk X.K) S h
    refine ⟨ρ0, o0, S0, h0.imp (fun d ρ1 z v H1 o1 S1 t1 s1 => ?_) fun _ _ z => z⟩
    obtain ⟨ρ1', o1', d', S1', T1, s1', q1⟩ := z v H1 o1 S1 t1 s1
    have fin : ∀ k, truD d' = some k → Q k H1 := fun k e => by
      rw [e] at q1
      exact q1 k H1 o1' S1' (.refl _ _) rfl
    cases d' with
    | none => rw [Sh.ofNone s1']; exact ⟨false, rfl, fin _ rfl⟩
    | bool b => rw [s1'.bool]; exact ⟨b, rfl, fin _ rfl⟩
    | int i => rw [s1'.int]; exact ⟨_, rfl, fin _ rfl⟩
    | str z =>
      rw [s1'.str]
      by_cases hl : z.length ≤ 16777216
      · exact ⟨_, ⟨line_of hl, rfl⟩, fin _ (if_pos hl)⟩
      · have e0 : truD (.str z) = none := if_neg hl
        rw [e0] at q1; exact q1.elim
    | list ds =>
      obtain ⟨a, xs, rfl, r, s⟩ := s1'
      exact ⟨_, .inl ⟨xs, r, rfl⟩, by rw [isEmpty_sh s]; exact fin _ rfl⟩
    | tuple ds =>
      obtain ⟨a, xs, rfl, r, s⟩ := s1'.tup
      exact ⟨_, .inr (.inl ⟨xs, r, rfl⟩), by rw [isEmpty_sh s]; exact fin _ rfl⟩
    | dict ds => exact q1.elim

/-! ### what is walked -/
def iterD : D → Option (List D)
  | .list ds => some ds
  | .tuple ds => some ds
  | .str z => some (z.cps.toList.map fun c => .str ⟨#[c]⟩)
  | _ => none
def eIt (m : Env → Res D) : Env → Res (List D) := fun ρ => bindR (m ρ) fun d ρ1 => optR (iterD d) ρ1
theorem it_list {K : PySem.W.Frag} {F : Addr → Prop} {H : Hp} {a : Addr} {xs : List V} {ds : List D} (h : (¬ F a ∧ Rd H a (.lst xs)) ∨ SqLK K a xs) (s : ShA K F H xs ds) : ItOk K F H (Itl K a) ds := by
  intro F' H' t tr
  have r' : SqL K H' a xs := h.elim (fun z => .inl (t.rd z.1 z.2).2) .inr
  have s' := s.tx t
  refine ⟨⟨xs, r', by rw [s.length]; exact Nat.le_refl _⟩, fun i d e => ?_⟩
  obtain ⟨v, ev, sv⟩ := s'.get e
  refine ⟨⟨xs, v, r', ev⟩, fun x H2 y => ?_⟩
  obtain ⟨e2, y⟩ := y
  subst e2
  have := y xs r'
  rw [ev] at this
  cases this
  exact ⟨.refl _, sv⟩
theorem it_tup {K : PySem.W.Frag} {F : Addr → Prop} {H : Hp} {a : Addr} {xs : List V} {ds : List D} (h : (¬ F a ∧ Rd H a (.tup xs)) ∨ SqTK K a xs) (s : ShA K F H xs ds) : ItOk K F H (Itt K a) ds := by
  intro F' H' t tr
  have r' : SqT K H' a xs := h.elim (fun z => .inl (t.rd z.1 z.2).2) .inr
  have s' := s.tx t
  refine ⟨⟨xs, r', by rw [s.length]; exact Nat.le_refl _⟩, fun i d e => ?_⟩
  obtain ⟨v, ev, sv⟩ := s'.get e
  refine ⟨⟨xs, v, r', ev⟩, fun x H2 y => ?_⟩
  obtain ⟨e2, y⟩ := y
  subst e2
  have := y xs r'
  rw [ev] at this
  cases this
  exact ⟨.refl _, sv⟩
theorem it_str {K : PySem.W.Frag} {F : Addr → Prop} {H : Hp} {z : Str} : ItOk K F H (Its z) (z.cps.toList.map fun c => .str ⟨#[c]⟩) := by
  intro F' H' t tr
  refine ⟨by show z.cps.size ≤ _; simp, fun i d e => ?_⟩
  rw [List.getElem?_map, Option.map_eq_some_iff] at e
  obtain ⟨c, ec, rfl⟩ := e
  rw [Array.getElem?_toList] at ec
  refine ⟨(Array.getElem?_eq_some_iff.mp ec).1, fun x H2 y => ?_⟩
  obtain ⟨e2, c', ec', rfl⟩ := y
  subst e2
  rw [ec] at ec'
  cases ec'
  exact ⟨.refl _, .str _⟩
variable {tg : Expr}
theorem ji_any (he : JV X C W e ma) : JI X C W tg e (eIt ma) := PI.imp (PI.or (PI.or (pi_list he) (pi_tup he)) (pi_str he)) fun σ H Q ⟨ρ, o, S, h⟩ => by
  unfold eIt at h
  cases em : ma ρ with
  | bad => rw [em] at h; exact h.elim
  | exc c ρ1 => rw [em] at h; exact .inl (.inl ⟨ρ, o, S, by rw [em]; exact h⟩)
  | ok d ρ1 =>
    rw [em, bindR_ok] at h
    cases d with
    | list ds => exact .inl (.inl ⟨ρ, o, S, by
        rw [em]
        intro v H1 o1 S1 t1 s1
        cases s1 with
        | lst r s => exact ⟨_, rfl, ⟨_, r.elim (fun z => .inl z.2) .inr⟩, h _ H1 o1 S1 t1 (it_list r s)⟩⟩)
    | tuple ds => exact .inl (.inr ⟨ρ, o, S, by
        rw [em]
        intro v H1 o1 S1 t1 s1
        cases s1 with
        | tup r s => exact ⟨_, rfl, ⟨_, r.elim (fun z => .inl z.2) .inr⟩, h _ H1 o1 S1 t1 (it_tup r s)⟩⟩)
    | str z => exact .inr ⟨ρ, o, S, by
        rw [em]
        intro v H1 o1 S1 t1 s1
        exact ⟨z, s1.ofStr, h _ H1 o1 S1 t1 it_str⟩⟩
    | _ => exact h.elim
def rgD (lo : Int) (n : Nat) : List D := (List.range n).map fun i => .int (lo + (i : Nat))
theorem it_rg {K : PySem.W.Frag} {F : Addr → Prop} {H : Hp} {lo : Int} {n : Nat} : ItOk K F H (Itr lo n) (rgD lo n) := by
  intro F' H' t tr
  refine ⟨by show n ≤ _; simp [rgD], fun i d e => ?_⟩
  unfold rgD at e
  rw [List.getElem?_map, Option.map_eq_some_iff] at e
  obtain ⟨c, ec, rfl⟩ := e
  have hi : i < n := by
    have := (List.getElem?_eq_some_iff.mp ec).1
    simpa using this
  rw [List.getElem?_range hi] at ec
  cases ec
  refine ⟨hi, fun x H2 y => ?_⟩
  obtain ⟨e2, rfl⟩ := y
  subst e2
  exact ⟨.refl _, .int _⟩
def inB (n : Int) : Bool := decide (-(2 ^ 62) ≤ n ∧ n < 2 ^ 62)
def rg1 : D → Option (List D)
  | .int n => if inB n = true then some (rgD 0 n.toNat) else none
  | _ => none
def rg2 : D → D → Option (List D)
  | .int a, .int b => if inB a = true ∧ inB b = true then some (rgD a (b - a).toNat) else none
  | _, _ => none
def eRg1 (m : Env → Res D) : Env → Res (List D) := fun ρ => bindR (m ρ) fun d ρ1 => optR (rg1 d) ρ1
def eRg2 (m : Env → Res (List D)) : Env → Res (List D) := fun ρ => bindR (m ρ) fun ds ρ1 => match ds with | [a, b] => optR (rg2 a b) ρ1 | _ => .bad
theorem stepI {σ : St} {o : Nat → List Addr} {H : Hp} {α β : Type} {Rl : (Addr → Prop) → Hp → β → α → Prop} {Q : It → Hp → Prop} {m : Env → Res α} {k : α → Env → Res (List D)} {ρ : Env} (S : SRo X.K C o ρ σ H)
    (h : PoG (fun ds ρ' => ∀ J H' o', SRo X.K C o' ρ' σ H' → Tx (FF C.B o) H (FF C.B o') H' → ItOk X.K (FF C.B o') H' J ds → Q J H') (ExP X C W o σ H) (bindR (m ρ) k)) :
    tV X C W Rl m σ H (fun v H1 => ∃ ρ1 o1 d, SRo X.K C o1 ρ1 σ H1 ∧ Tx (FF C.B o) H (FF C.B o1) H1 ∧ Rl (FF C.B o1) H1 v d ∧ PoG (fun ds ρ' => ∀ J H' o', SRo X.K C o' ρ' σ H' → Tx (FF C.B o1) H1 (FF C.B o') H' → ItOk X.K (FF C.B o') H' J ds → Q J H') (ExP X C W o1 σ H1) (k d ρ1)) :=
  step (Ok := fun H o ds ρ' => ∀ J H' o', SRo X.K C o' ρ' σ H' → Tx (FF C.B o) H (FF C.B o') H' → ItOk X.K (FF C.B o') H' J ds → Q J H') S (fun _ _ _ _ t z J H' o' S' t' => z J H' o' S' (t.trans t')) h
theorem ji_rg1 (hm : X.mg "range" = none) (ha : JV X C W e ma) (hg : Gl X "range") (hs : starEach [e] X.env = [(false, eval e X.env)] := by rfl) : JI X C W tg (.Call (.Name "range" p) [e] [] pos) (eRg1 ma) :=
  PI.imp (pi_range1 hg hm (pa_cons ha pa_nil hs) hs) fun σ H Q ⟨ρ, o, S, h⟩ => by
    obtain ⟨ρ0, o0, S0, h0⟩ := stepI (Rl := Sh X.K) S h
    refine ⟨ρ0, o0, S0, h0.imp (fun d ρ1 z v H1 o1 S1 t1 s1 => ?_) fun _ _ z => z⟩
    obtain ⟨ρ1', o1', d', S1', T1, s1', q1⟩ := z v H1 o1 S1 t1 s1
    cases d' with
    | int n =>
      unfold rg1 at q1
      dsimp only at q1
      split at q1
      · rename_i hb
        have hb := of_decide_eq_true hb
        exact ⟨n, by rw [s1'.ofInt], hb.1, hb.2, q1 _ H1 o1' S1' (.refl _ _) it_rg⟩
      · exact q1.elim
    | _ => exact q1.elim
theorem ji_rg2 {m : Env → Res (List D)} (hm : X.mg "range" = none) (ha : JA X C W [e, b] m) (hg : Gl X "range") (hs : starEach [e, b] X.env = [(false, eval e X.env), (false, eval b X.env)] := by rfl) (hs2 : starEach [b] X.env = [(false, eval b X.env)] := by rfl) : JI X C W tg (.Call (.Name "range" p) [e, b] [] pos) (eRg2 m) :=
  PI.imp (pi_range2 hg hm ha hs hs2) fun σ H Q ⟨ρ, o, S, h⟩ => by
    obtain ⟨ρ0, o0, S0, h0⟩ := stepI (Rl := ShA X.K) S h
    refine ⟨ρ0, o0, S0, h0.imp (fun d ρ1 z v H1 o1 S1 t1 s1 => ?_) fun _ _ z => z⟩
    obtain ⟨ρ1', o1', d', S1', T1, s1', q1⟩ := z v H1 o1 S1 t1 s1
    cases s1' with
    | nil => exact q1.elim
    | cons ha s2 =>
      cases s2 with
      | nil => exact q1.elim
      | cons hb s3 =>
        cases s3 with
        | cons _ _ => exact q1.elim
        | nil =>
          rename_i d1 _ d2
          cases d1 with
          | int n1 =>
            cases d2 with
            | int n2 =>
              dsimp only [rg2] at q1
              split at q1
              · rename_i hbb
                have h1 := of_decide_eq_true hbb.1
                have h2 := of_decide_eq_true hbb.2
                exact ⟨n1, n2, by rw [ha.ofInt, hb.ofInt], ⟨h1.1, h1.2, h2.1, h2.2⟩, q1 _ H1 o1' S1' (.refl _ _) it_rg⟩
              · exact q1.elim
            | _ => exact q1.elim
          | _ => exact q1.elim

/-! ### own lists: append, pop, extend, xs[i] = e -/
def lstAt : Sl → Option (List D)
  | .own (.lst xs) => some xs
  | .bor (.lst xs) => some xs
  | _ => none
def lstTo : Sl → List D → Sl
  | .bor _, xs => .bor (.lst xs)
  | _, xs => .own (.lst xs)
theorem lst_at {o : Nat → List Addr} {ρ : Env} {σ : St} {H : Hp} {i : Nat} {xs : List D} (S : SRo X.K C o ρ σ H) (h : lstAt (gS ρ i) = some xs) : ∃ a vs, σ[i]? = some (some (.ref a)) ∧ o i = [a] ∧ H a = some (.lst vs) ∧ ShA X.K (FF C.B o) H vs xs ∧ i < ρ.length := by
  have hl : i < ρ.length := by
    by_cases hl : i < ρ.length
    · exact hl
    · rw [gS_out (by omega)] at h; cases h
  have z := S.slot i
  cases g : gS ρ i with
  | emp => rw [g] at h; cases h
  | val d => rw [g] at h; cases h
  | own c =>
    rw [g] at h z
    cases c with
    | lst ys =>
      cases h
      obtain ⟨v, ev, a, vs, e1, e2, e3, e4⟩ := z
      subst e2
      exact ⟨a, vs, ev, e1, e3, e4, hl⟩
    | dic _ => cases h
  | bor c =>
    rw [g] at h z
    cases c with
    | lst ys =>
      cases h
      obtain ⟨ev, a, vs, e1, e2, e3, e4⟩ := z
      rw [e2] at ev
      exact ⟨a, vs, ev, e1, e3, e4, hl⟩
    | dic _ => cases h
theorem lst_wr {o : Nat → List Addr} {ρ : Env} {σ : St} {H : Hp} {i : Nat} {a : Addr} {xs ys : List D} {ws : List V} (S : SRo X.K C o ρ σ H) (h : lstAt (gS ρ i) = some xs) (ea : σ[i]? = some (some (.ref a))) (s : ShA X.K (FF C.B o) H ws ys) :
    SRo X.K C o (sS ρ i (lstTo (gS ρ i) ys)) σ (upd H a (.lst ws)) ∧ Tx (FF C.B o) H (FF C.B o) (upd H a (.lst ws)) := by
  obtain ⟨a', vs, ea', eo, eH, sh, hl⟩ := lst_at S h
  rw [ea] at ea'
  cases ea'
  refine S.wr eo hl fun H' t e => ?_
  have z := S.slot i
  cases g : gS ρ i with
  | emp => rw [g] at h; cases h
  | val d => rw [g] at h; cases h
  | own c => exact ⟨.ref a, ea, a, ws, rfl, rfl, e, s.tx t⟩
  | bor c =>
    rw [g] at z
    rw [z.1] at ea
    have eb : C.bv i = .ref a := Option.some.inj (Option.some.inj ea)
    exact ⟨z.1, a, ws, rfl, eb, e, s.tx t⟩
def sApp (i : Nat) (m : Env → Res R) : Env → SR := fun ρ => match lstAt (gS ρ i) with
  | none => .bad
  | some _ => bindRS (m ρ) fun r ρ1 => match lstAt (gS ρ1 i) with
    | some xs => if xs.length < 16777216 then .nx (sS ρ1 i (lstTo (gS ρ1 i) (xs ++ [r.toD]))) else .bad
    | none => .bad
theorem tyV_l {o : Nat → List Addr} {ρ : Env} {σ : St} {H : Hp} {i : Nat} {xs : List D} (S : SRo X.K C o ρ σ H) (h : lstAt (gS ρ i) = some xs) : ∃ a, σ[i]? = some (some (.ref a)) ∧ tyV X.K "list" (.ref a) H := by
  obtain ⟨a, vs, ea, eo, eH, sh, hl⟩ := lst_at S h
  exact ⟨a, ea, .inl ⟨rfl, vs, .of eH⟩⟩
variable {apos : Pos} {m : Env → Res R}
theorem js_app {i : Nat} (ho : PE X b (tVar i)) (he : JE X C W e m) (hp : ∀ {te : TE}, PE X e te → PS X (.Expr (.Call (.Attribute b "append" apos) [e] [] p) pos) (tDrop (tBM X.K "list" rAppend (tVar i) (tCons te tNil)))) :
    JS X C W (.Expr (.Call (.Attribute b "append" apos) [e] [] p) pos) (sApp i m) := PS.imp (hp he) fun D σ H ⟨ρ, o, S, h⟩ => by
  unfold sApp at h
  cases g : lstAt (gS ρ i) with
  | none => simp only [g] at h; exact h.elim
  | some xs =>
    simp only [g] at h
    obtain ⟨a, ea, ty⟩ := tyV_l S g
    refine ⟨.ref a, ea, ty, ?_⟩
    refine stepSE S h fun r ρ1 z => OkE.of_val fun v H1 o1 S1 t s => ?_
    cases g1 : lstAt (gS ρ1 i) with
    | none => simp only [g1] at z; exact z.elim
    | some ys =>
      simp only [g1] at z
      split at z
      · rename_i hl
        obtain ⟨a1, vs1, ea1, eo1, eH1, sh1, hl1⟩ := lst_at S1 g1
        rw [ea] at ea1
        cases ea1
        obtain ⟨S2, t2⟩ := lst_wr (ws := vs1 ++ [v]) (ys := ys ++ [r.toD]) S1 g1 ea (sh1.append (.one s))
        exact ⟨a, vs1, v, rfl, rfl, eH1, by rw [sh1.length]; exact line_lt hl, z σ _ o1 S2 (t.trans t2)⟩
      · exact z.elim
def ePop (i : Nat) : Env → Res R := fun ρ => match lstAt (gS ρ i) with
  | some xs => match xs.getLast? with
    | some d => .ok (.val d) (sS ρ i (lstTo (gS ρ i) xs.dropLast))
    | none => .bad
  | none => .bad
theorem je_pop {i : Nat} (hp : PE X e (tBM0 X.K "list" rPop (tVar i))) : JE X C W e (ePop i) := PE.imp hp fun σ H Q ⟨ρ, o, S, h⟩ => by
  unfold ePop at h
  cases g : lstAt (gS ρ i) with
  | none => simp only [g] at h; exact h.elim
  | some xs =>
    simp only [g] at h
    cases gl : xs.getLast? with
    | none => simp only [gl] at h; exact h.elim
    | some d =>
      simp only [gl] at h
      obtain ⟨a, ea, ty⟩ := tyV_l S g
      obtain ⟨a1, vs1, ea1, eo1, eH1, sh1, hl1⟩ := lst_at S g
      rw [ea] at ea1
      cases ea1
      rw [List.getLast?_eq_getElem?] at gl
      obtain ⟨v, ev, sv⟩ := sh1.get gl
      have sd : ShA X.K (FF C.B o) H vs1.dropLast xs.dropLast := by
        rw [List.dropLast_eq_take, List.dropLast_eq_take, sh1.length]
        exact sh1.take _
      obtain ⟨S2, t2⟩ := lst_wr S g ea sd
      exact ⟨.ref a, ea, ty, a, vs1, v, rfl, rfl, eH1, by rw [sh1.length]; exact ev, h v _ o S2 t2 (sv.tx t2)⟩
/-- xs[k] = e -/
def sSetL (i : Nat) (me mk : Env → Res D) : Env → SR := fun ρ => bindRS (me ρ) fun x ρ1 => match lstAt (gS ρ1 i) with
  | none => .bad
  | some _ => bindRS (mk ρ1) fun k ρ2 => match lstAt (gS ρ2 i), k with
    | some xs, .int n => match ixN xs.length n with
      | some j => .nx (sS ρ2 i (lstTo (gS ρ2 i) (xs.set j x)))
      | none => .bad
    | _, _ => .bad
theorem js_setL {i : Nat} {tpos : Pos} {kx : Expr} {mk : Env → Res D} (he : JV X C W e ma) (ho : PE X b (tVar i)) (hk : JV X C W kx mk) (hp : PS X (.Assign [.Subscript b kx tpos] e pos) (tAsg (tV X C W (Sh X.K) ma) (gSub (tVar i) (tV X C W (Sh X.K) mk) rSetL))) :
    JS X C W (.Assign [.Subscript b kx tpos] e pos) (sSetL i ma mk) := PS.imp hp fun D σ H ⟨ρ, o, S, h⟩ => by
  obtain ⟨ρ0, o0, S0, h0⟩ := stepS (Rl := Sh X.K) S h
  refine ⟨ρ0, o0, S0, h0.imp (fun d ρ1 z v H1 o1 S1 t1 s1 => ?_) fun _ _ z => z⟩
  obtain ⟨ρ1', o1', d', S1', T1, s1', q1⟩ := z v H1 o1 S1 t1 s1
  cases g : lstAt (gS ρ1' i) with
  | none => simp only [g] at q1; exact q1.elim
  | some xs0 =>
    simp only [g] at q1
    obtain ⟨a, vs, ea, eo, eH, sh, hl⟩ := lst_at S1' g
    refine ⟨.ref a, ea, ?_⟩
    obtain ⟨ρ2, o2, S2, h2⟩ := stepS (Rl := Sh X.K) S1' q1
    refine ⟨ρ2, o2, S2, h2.imp (fun d2 ρ3 z2 v2 H2 o3 S3 t3 s3 => ?_) fun _ _ z => z⟩
    obtain ⟨ρ4, o4, d4, S4, T4, s4, q4⟩ := z2 v2 H2 o3 S3 t3 s3
    cases g4 : lstAt (gS ρ4 i) with
    | none => simp only [g4] at q4; exact q4.elim
    | some xs =>
      cases d4 with
      | int n =>
        simp only [g4] at q4
        cases ej : ixN xs.length n with
        | none => simp only [ej] at q4; exact q4.elim
        | some j =>
          simp only [ej] at q4
          obtain ⟨a1, vs1, ea1, eo1, eH1, sh1, hl1⟩ := lst_at S4 g4
          rw [ea] at ea1
          cases ea1
          obtain ⟨S5, t5⟩ := lst_wr (ws := vs1.set j v) S4 g4 ea (ShA.set (s1'.tx T4) j sh1)
          exact ⟨a, vs1, n, j, rfl, s4.ofInt, eH1, by rw [sh1.length]; exact ej, q4 σ _ o4 S5 t5⟩
      | _ => simp only [g4] at q4; exact q4.elim
end
end Dn
set_option Elab.async false
set_option linter.all false
set_option maxRecDepth 100000
set_option maxHeartbeats 2000000
/-! Dn8: own dicts, extend -/
namespace Dn
open PySem L2

section
variable {X : Cx} {C : Ctx} {W : WX} {e b kx : Expr} {ma mb mk : Env → Res D} {pos p p1 p2 apos tpos : Pos}
/-! ### dicts whose keys are ints and texts -/
def keyD : D → Option Key
  | .int i => some (.inl i)
  | .str x => some (.inr x)
  | _ => none
def lookD (ds : List (D × D)) (k : Key) : Option D := (ds.find? fun p => decide (keyD p.1 = some k)).map (·.2)
theorem keyD_kd (k : Key) : keyD (kd k) = some k := by cases k <;> rfl
theorem look_sh {K : PySem.W.Frag} {F : Addr → Prop} {H : Hp} (k : Key) : ∀ {vs : List (Key × V)} {ds : List (D × D)}, ShK K F H vs ds → (valV vs k = none ∧ lookD ds k = none) ∨ ∃ v d, valV vs k = some v ∧ lookD ds k = some d ∧ Sh K F H v d
  | _, _, .nil => .inl ⟨rfl, rfl⟩
  | (k', v) :: vs, (_, d) :: ds, .cons h s => by
    by_cases e : k' = k
    · subst e
      exact .inr ⟨v, d, valV_pos rfl, by unfold lookD; rw [List.find?_cons]; simp [keyD_kd], h⟩
    · have e1 : valV ((k', v) :: vs) k = valV vs k := by unfold valV; rw [List.find?_cons]; simp [e]
      have e2 : lookD ((kd k', d) :: ds) k = lookD ds k := by unfold lookD; rw [List.find?_cons]; simp [keyD_kd, e]
      rw [e1, e2]
      exact look_sh k s
theorem key_sh {K : PySem.W.Frag} {F : Addr → Prop} {H : Hp} {v : V} {d : D} {k : Key} (h : Sh K F H v d) (e : keyD d = some k) : v = kV k := by
  cases h with
  | int i => cases e; rfl
  | str x => cases e; rfl
  | _ => cases e
theorem DGet.r {H : Hp} {a : Addr} {kvs : List (Key × V)} {k : Key} (e : Rd H a (.dK kvs)) : DGet H a (kV k) (valV kvs k) := .inl ⟨kvs, k, e, rfl, rfl⟩
/-- {} -/
def eDic0 : Env → Res R := fun ρ => .ok (.fresh (.dic [])) ρ
theorem je_dic0 : JE X C W (.Dict [] [] pos) eDic0 := PE.imp pe_dnewK fun σ H Q ⟨ρ, o, S, h⟩ => fun p hp =>
  newOk S (r := .fresh (.dic [])) h _ _ [p] (same_new hp) (by simp) (fun a ha => by simp at ha; rw [ha]; exact hp) (fun a ha => by simp at ha; rw [ha, upd_same]; exact fun z => nomatch z) ⟨p, [], rfl, rfl, upd_same, .nil⟩
/-- k in d, k not in d; d a name -/
def eDin (neg : Bool) (i : Nat) (mk : Env → Res D) : Env → Res R := fun ρ => bindR (mk ρ) fun k ρ1 => bindR (ePk i ρ1) fun d ρ2 => match d, keyD k with
  | .dict ds, some q => .ok (.val (.bool (if neg then !(lookD ds q).isSome else (lookD ds q).isSome))) ρ2
  | _, _ => .bad
theorem din_imp {neg : Bool} {i : Nat} {o : Nat → List Addr} {ρ : Env} {σ : St} {H : Hp} {Q : VK} (S : SRo X.K C o ρ σ H) (h : PoG (OkE X C o σ H Q) (ExP X C W o σ H) (eDin neg i mk ρ)) :
    tV X C W (Sh X.K) mk σ H fun y H1 => (tVar i) σ H1 fun x H2 => ∃ a oo, x = .ref a ∧ DGet H2 a y oo ∧ Q (.bl (if neg then !oo.isSome else oo.isSome)) H2 := by
  obtain ⟨ρ0, o0, S0, h0⟩ := stepE (Rl := Sh X.K) S h
  refine ⟨ρ0, o0, S0, h0.imp (fun d ρ1 z v H1 o1 S1 t1 s1 => ?_) fun _ _ z => z⟩
  obtain ⟨ρ1', o1', d', S1', T1, s1', q1⟩ := z v H1 o1 S1 t1 s1
  have hv : ∃ w, σ[i]? = some (some w) := by
    have z := S1'.slot i
    unfold ePk at q1
    cases g : gS ρ1' i with
    | emp => rw [g] at q1; exact q1.elim
    | val d => rw [g] at z; exact ⟨_, z.2.choose_spec.1⟩
    | own c => rw [g] at z; exact ⟨_, z.choose_spec.1⟩
    | bor c => rw [g] at z; exact ⟨_, z.1⟩
  obtain ⟨w, hv⟩ := hv
  obtain ⟨dx, pk, q2⟩ := pk_at S1' hv q1
  refine ⟨w, hv, ?_⟩
  cases dx with
  | dict ds =>
    cases ek : keyD d' with
    | none => simp only [ek] at q2; exact q2.elim
    | some q =>
      simp only [ek] at q2
      obtain ⟨a, kvs, rfl, r, s⟩ := pk
      refine ⟨a, valV kvs q, rfl, by rw [key_sh s1' ek]; exact DGet.r r, ?_⟩
      have e : (valV kvs q).isSome = (lookD ds q).isSome := by
        rcases look_sh q s with ⟨h1, h2⟩ | ⟨v, d, h1, h2, _⟩
        · rw [h1, h2]; rfl
        · rw [h1, h2]; rfl
      rw [e]
      exact newOk (r := .val (.bool _)) S1' q2 _ _ (.refl _) (.bl _)
  | _ => exact q2.elim
theorem je_din {i : Nat} (hu : X.A.units + 1 < cLine) (hk : JV X C W kx mk) (ho : PE X b (tVar i)) (hm : behindInMarks .In b = false := by rfl) : JE X C W (.Compare kx [.In] [b] pos) (eDin false i mk) := PE.imp (pe_cmp (pc_din hu hk ho) hm) fun σ H Q ⟨ρ, o, S, h⟩ => din_imp S h
theorem je_dnin {i : Nat} (hu : X.A.units + 1 < cLine) (hk : JV X C W kx mk) (ho : PE X b (tVar i)) (hm : behindInMarks .NotIn b = false := by rfl) : JE X C W (.Compare kx [.NotIn] [b] pos) (eDin true i mk) := PE.imp (pe_cmp (pc_dnotin hu hk ho) hm) fun σ H Q ⟨ρ, o, S, h⟩ => din_imp S h
theorem jt_din {i : Nat} (hu : X.A.units + 1 < cLine) (hk : JV X C W kx mk) (ho : PE X b (tVar i)) (hm : behindInMarks .In b = false := by rfl) : JT X C W (.Compare kx [.In] [b] pos) (tBoolD (eDin false i mk)) := PT.imp (pt_cmp (pc_din hu hk ho) hm) fun σ H Q ⟨ρ, o, S, h⟩ => by
  obtain ⟨ρ0, o0, S0, h0⟩ := tB_imp S h
  exact din_imp S0 h0
theorem jt_dnin {i : Nat} (hu : X.A.units + 1 < cLine) (hk : JV X C W kx mk) (ho : PE X b (tVar i)) (hm : behindInMarks .NotIn b = false := by rfl) : JT X C W (.Compare kx [.NotIn] [b] pos) (tBoolD (eDin true i mk)) := PT.imp (pt_cmp (pc_dnotin hu hk ho) hm) fun σ H Q ⟨ρ, o, S, h⟩ => by
  obtain ⟨ρ0, o0, S0, h0⟩ := tB_imp S h
  exact din_imp S0 h0
def putD (kvs : List (Key × D)) (k : Key) (d : D) : List (Key × D) :=
  if (kvs.any fun kv => decide (kv.1 = k)) = true then kvs.map (fun kv => if kv.1 = k then (kv.1, d) else kv) else kvs ++ [(k, d)]
def lookC (kvs : List (Key × D)) (k : Key) : Option D := (kvs.find? fun p => decide (p.1 = k)).map (·.2)
theorem lookD_map (kvs : List (Key × D)) (k : Key) : lookD (kvs.map fun p => (kd p.1, p.2)) k = lookC kvs k := by
  unfold lookD lookC
  induction kvs with
  | nil => rfl
  | cons p r ih =>
    rw [List.map_cons, List.find?_cons, List.find?_cons]
    by_cases e : p.1 = k
    · simp [e, keyD_kd]
    · have e' : decide (keyD (kd p.1) = some k) = false := decide_eq_false (by rw [keyD_kd]; exact fun z => e (Option.some.inj z))
      have e2 : decide (p.1 = k) = false := decide_eq_false e
      rw [e', e2]
      exact ih
theorem put_sh {K : PySem.W.Frag} {F : Addr → Prop} {H : Hp} {k : Key} {v : V} {d : D} (h : Sh K F H v d) {vs : List (Key × V)} {kvs : List (Key × D)} (s : ShD K F H vs kvs) : ShD K F H (putK vs k v) (putD kvs k d) := by
  have any : ∀ {vs : List (Key × V)} {kvs : List (Key × D)}, ShD K F H vs kvs → (vs.any fun kv => decide (kv.1 = k)) = kvs.any fun kv => decide (kv.1 = k) := by
    intro vs kvs s
    induction s with
    | nil => rfl
    | cons h' _ ih => rw [List.any_cons, List.any_cons, ih, h'.1]
  have mp : ∀ {vs : List (Key × V)} {kvs : List (Key × D)}, ShD K F H vs kvs → ShD K F H (vs.map fun kv => if kv.1 = k then (kv.1, v) else kv) (kvs.map fun kv => if kv.1 = k then (kv.1, d) else kv) := by
    intro vs kvs s
    induction s with
    | nil => exact .nil
    | @cons p q _ _ h' _ ih =>
      rw [List.map_cons, List.map_cons]
      refine .cons ?_ ih
      obtain ⟨e, sh⟩ := h'
      by_cases c : p.1 = k
      · rw [if_pos c, if_pos (e ▸ c)]; exact ⟨e, h⟩
      · rw [if_neg c, if_neg (e ▸ c)]; exact ⟨e, sh⟩
  have ap : ∀ {vs : List (Key × V)} {kvs : List (Key × D)}, ShD K F H vs kvs → ShD K F H (vs ++ [(k, v)]) (kvs ++ [(k, d)]) := by
    intro vs kvs s
    induction s with
    | nil => exact .cons ⟨rfl, h⟩ .nil
    | cons h' _ ih => exact .cons h' ih
  unfold putK putD
  rw [any s]
  split
  · exact mp s
  · exact ap s
def dicAt : Sl → Option (List (Key × D))
  | .own (.dic xs) => some xs
  | .bor (.dic xs) => some xs
  | _ => none
def dicTo : Sl → List (Key × D) → Sl
  | .bor _, xs => .bor (.dic xs)
  | _, xs => .own (.dic xs)
theorem dic_at {o : Nat → List Addr} {ρ : Env} {σ : St} {H : Hp} {i : Nat} {xs : List (Key × D)} (S : SRo X.K C o ρ σ H) (h : dicAt (gS ρ i) = some xs) : ∃ a vs, σ[i]? = some (some (.ref a)) ∧ o i = [a] ∧ H a = some (.dK vs) ∧ ShD X.K (FF C.B o) H vs xs ∧ i < ρ.length := by
  have hl : i < ρ.length := by
    by_cases hl : i < ρ.length
    · exact hl
    · rw [gS_out (by omega)] at h; cases h
  have z := S.slot i
  cases g : gS ρ i with
  | emp => rw [g] at h; cases h
  | val d => rw [g] at h; cases h
  | own c =>
    rw [g] at h z
    cases c with
    | dic ys =>
      cases h
      obtain ⟨v, ev, a, vs, e1, e2, e3, e4⟩ := z
      subst e2
      exact ⟨a, vs, ev, e1, e3, e4, hl⟩
    | lst _ => cases h
  | bor c =>
    rw [g] at h z
    cases c with
    | dic ys =>
      cases h
      obtain ⟨ev, a, vs, e1, e2, e3, e4⟩ := z
      rw [e2] at ev
      exact ⟨a, vs, ev, e1, e3, e4, hl⟩
    | lst _ => cases h
theorem dic_wr {o : Nat → List Addr} {ρ : Env} {σ : St} {H : Hp} {i : Nat} {a : Addr} {xs ys : List (Key × D)} {ws : List (Key × V)} (S : SRo X.K C o ρ σ H) (h : dicAt (gS ρ i) = some xs) (ea : σ[i]? = some (some (.ref a))) (s : ShD X.K (FF C.B o) H ws ys) :
    SRo X.K C o (sS ρ i (dicTo (gS ρ i) ys)) σ (upd H a (.dK ws)) ∧ Tx (FF C.B o) H (FF C.B o) (upd H a (.dK ws)) := by
  obtain ⟨a', vs, ea', eo, eH, sh, hl⟩ := dic_at S h
  rw [ea] at ea'
  cases ea'
  refine S.wr eo hl fun H' t e => ?_
  have z := S.slot i
  cases g : gS ρ i with
  | emp => rw [g] at h; cases h
  | val d => rw [g] at h; cases h
  | own c => exact ⟨.ref a, ea, a, ws, rfl, rfl, e, s.tx t⟩
  | bor c =>
    rw [g] at z
    rw [z.1] at ea
    have eb : C.bv i = .ref a := Option.some.inj (Option.some.inj ea)
    exact ⟨z.1, a, ws, rfl, eb, e, s.tx t⟩
theorem ShD.length {K : PySem.W.Frag} {F : Addr → Prop} {H : Hp} {vs : List (Key × V)} {kvs : List (Key × D)} (s : ShD K F H vs kvs) : vs.length = kvs.length := by
  induction s with
  | nil => rfl
  | cons _ _ ih => rw [List.length_cons, List.length_cons, ih]
/-- d[k] = e -/
def sSetD (i : Nat) (me mk : Env → Res D) : Env → SR := fun ρ => bindRS (me ρ) fun x ρ1 => match dicAt (gS ρ1 i) with
  | none => .bad
  | some _ => bindRS (mk ρ1) fun k ρ2 => match dicAt (gS ρ2 i), keyD k with
    | some kvs, some q => if kvs.length < 16777216 then .nx (sS ρ2 i (dicTo (gS ρ2 i) (putD kvs q x))) else .bad
    | _, _ => .bad
theorem js_setD {i : Nat} (hu : X.A.units + 1 < cLine) (he : JV X C W e ma) (ho : PE X b (tVar i)) (hk : JV X C W kx mk) (hs : swapsWith e (some (.Subscript b kx tpos)) pos.line X.env = pure false := by rfl) :
    JS X C W (.Assign [.Subscript b kx tpos] e pos) (sSetD i ma mk) := PS.imp (ps_dput hu ho hk he hs) fun D σ H ⟨ρ, o, S, h⟩ => by
  obtain ⟨ρ0, o0, S0, h0⟩ := stepS (Rl := Sh X.K) S h
  refine ⟨ρ0, o0, S0, h0.imp (fun d ρ1 z v H1 o1 S1 t1 s1 => ?_) fun _ _ z => z⟩
  obtain ⟨ρ1', o1', d', S1', T1, s1', q1⟩ := z v H1 o1 S1 t1 s1
  cases g : dicAt (gS ρ1' i) with
  | none => simp only [g] at q1; exact q1.elim
  | some xs0 =>
    simp only [g] at q1
    obtain ⟨a, vs, ea, eo, eH, sh, hl⟩ := dic_at S1' g
    refine ⟨.ref a, ea, ?_⟩
    obtain ⟨ρ2, o2, S2, h2⟩ := stepS (Rl := Sh X.K) S1' q1
    refine ⟨ρ2, o2, S2, h2.imp (fun d2 ρ3 z2 v2 H2 o3 S3 t3 s3 => ?_) fun _ _ z => z⟩
    obtain ⟨ρ4, o4, d4, S4, T4, s4, q4⟩ := z2 v2 H2 o3 S3 t3 s3
    cases g4 : dicAt (gS ρ4 i) with
    | none => simp only [g4] at q4; exact q4.elim
    | some kvs =>
      cases ek : keyD d4 with
      | none => simp only [g4, ek] at q4; exact q4.elim
      | some q =>
        simp only [g4, ek] at q4
        split at q4
        · rename_i hlen
          obtain ⟨a1, vs1, ea1, eo1, eH1, sh1, hl1⟩ := dic_at S4 g4
          rw [ea] at ea1
          cases ea1
          obtain ⟨S5, t5⟩ := dic_wr (ws := putK vs1 q v) S4 g4 ea (put_sh (s1'.tx T4) sh1)
          exact ⟨a, _, rfl, by rw [key_sh s4 ek]; exact DPut.k eH1 (by rw [sh1.length]; exact line_lt hlen), q4 σ _ o4 S5 t5⟩
        · exact q4.elim

/-! ### extend by a new list -/
def sExt (i : Nat) (m : Env → Res R) : Env → SR := fun ρ => match lstAt (gS ρ i) with
  | none => .bad
  | some _ => bindRS (m ρ) fun r ρ1 => match lstAt (gS ρ1 i), r with
    | some xs, .fresh (.lst ys) => if xs.length + ys.length ≤ 16777216 then .nx (sS ρ1 i (lstTo (gS ρ1 i) (xs ++ ys))) else .bad
    | _, _ => .bad
theorem js_ext {m : Env → Res R} {i : Nat} (he : JE X C W e m) (hp : ∀ {te : TE}, PE X e te → PS X (.Expr (.Call (.Attribute b "extend" apos) [e] [] p) pos) (tDrop (tBM X.K "list" rExtend (tVar i) (tCons te tNil)))) :
    JS X C W (.Expr (.Call (.Attribute b "extend" apos) [e] [] p) pos) (sExt i m) := PS.imp (hp he) fun D σ H ⟨ρ, o, S, h⟩ => by
  unfold sExt at h
  cases g : lstAt (gS ρ i) with
  | none => simp only [g] at h; exact h.elim
  | some xs =>
    simp only [g] at h
    obtain ⟨a, ea, ty⟩ := tyV_l S g
    refine ⟨.ref a, ea, ty, ?_⟩
    refine stepSE S h fun r ρ1 z => ?_
    cases g1 : lstAt (gS ρ1 i) with
    | none => simp only [g1] at z; exact z.elim
    | some ys =>
      cases r with
      | val d => simp only [g1] at z; exact z.elim
      | fresh c =>
        cases c with
        | dic _ => simp only [g1] at z; exact z.elim
        | lst zs =>
          simp only [g1] at z
          split at z
          · rename_i hl
            intro v H1 o1 as nd h0 nB S1 t cr
            obtain ⟨bb, ws, rfl, rfl, eb, sb⟩ := cr
            have S1' := S1.less
            have g1' : lstAt (gS ρ1 i) = some ys := g1
            obtain ⟨a1, vs1, ea1, eo1, eH1, sh1, hl1⟩ := lst_at S1' g1'
            rw [ea] at ea1
            cases ea1
            have sb' : ShA X.K (FF C.B o1) H1 ws zs := sb.tx (.less fun a z => z.elim (fun q => .inl (.inl q)) .inr)
            obtain ⟨S2, t2⟩ := lst_wr (ws := vs1 ++ ws) (ys := ys ++ zs) S1' g1' ea (sh1.append sb')
            exact ⟨a, bb, vs1, ws, rfl, rfl, eH1, eb, by rw [sh1.length, sb.length]; exact line_of hl, z σ _ o1 S2 (t.dropB.trans t2)⟩
          · exact z.elim
end
end Dn
set_option Elab.async false
set_option linter.all false
set_option maxRecDepth 100000
set_option maxHeartbeats 1000000
/-! Dn9: the ends -/
namespace Dn
open PySem L2
open PyProof.Rows (envOfC)

def Known (P : Program) (w : World) (K : PySem.W.Frag) (mg : Str → Option Value) (base : Heap) (x : Str) (ps : List Str) (k : Nat) (den : Env → Res R) : Prop :=
  ∃ a fd, FnOk P w K mg base (L2.CX P w) k a fd ps (spG K mg ps.length den) ∧ mg x = some (.ref a) ∧ PySem.W.keepIn K (.ref a) = true ∧ Binds K fd ps []
def Err (K : PySem.W.Frag) (mg : Str → Option Value) (x : Str) : Prop :=
  ∃ A, PySem.W.excIn K A [.type "ValueError", .type "Exception", .type "BaseException", .type "object"] "ValueError.__new__" = true ∧ mg x = some (.ref A) ∧ PySem.W.keepIn K (.ref A) = true ∧ PySem.W.subIn K (.ref A) (.type "BaseException") = some true ∧ PySem.W.typeIn K (.ref A) = some (.type "type")
section
variable {P : Program} {w : World} {K : PySem.W.Frag} {mg : Str → Option Value} {base : Heap}
theorem known {x qual : Str} {st : Stmt} {f : Addr} {fd : FuncData} {N ps : List Str} {k : Nat} {body : Env → SR} (F : Fun K x qual st f fd) (S : FnScope N ps (defScope st))
    (hb : ∀ (cdv : Value) (A : Around) (outer : List PySem.Env) (s : Shared) (H : Hp) (E : XK) (C : Ctx), Room k (A.deeper (envOfC qual (defScope st) s.heap.objs.size f cdv)) →
      Takes (cxOf (L2.CX P w) P w K mg base N qual (defScope st) f cdv A outer s H E) (fun cls d _ H => E cls d H) →
      PassesOwn (model P w) (cxOf (L2.CX P w) P w K mg base N qual (defScope st) f cdv A outer s H E).A (cxOf (L2.CX P w) P w K mg base N qual (defScope st) f cdv A outer s H E).env (cxOf (L2.CX P w) P w K mg base N qual (defScope st) f cdv A outer s H E).xe →
      JSs (cxOf (L2.CX P w) P w K mg base N qual (defScope st) f cdv A outer s H E) C (fun cls d _ H => E cls d H) (defBody st) body) :
    FnOk P w K mg base (L2.CX P w) (k + 1) f fd ps (spG K mg ps.length (mkF ps.length N.length body)) :=
  fn_ok F S fun cdv A outer s H E C hr => hb cdv A outer s H E C hr (takes_of rfl rfl rfl rfl) (passes_of rfl)
/-- what law(script) promises: for a list of at most 63 ints the answer is True -/
def spLaw (K : PySem.W.Frag) : Sp := fun vs H Q _ => ∃ (a : Addr) (ns : List Int), vs = [.ref a] ∧ SqL K H a (ns.map V.int) ∧ ns.length ≤ 63 ∧ ∀ H', Q (.bl true) H'
theorem shA_ints {F : Addr → Prop} {H : Hp} : ∀ ns : List Int, ShA K F H (ns.map V.int) (ns.map PyData.int)
  | [] => .nil
  | i :: r => .cons (.int i) (shA_ints r)
def script (ns : List Int) : D := .list (ns.map .int)
theorem law_start {d : Env → Res R} (hp : ∀ ns : List Int, ns.length ≤ 63 → ∃ ρ, d [.val (script ns)] = .ok (.val (.bool true)) ρ) {vs : List V} {H : Hp} {Q : VK} {E : XK} (h : spLaw K vs H Q E) : spG K mg 1 d vs H Q E := by
  obtain ⟨a, ns, rfl, hS, hl, q⟩ := h
  refine ⟨rfl, ⟨fun _ => False, H, fun i => ([.ref a] : List V).getD i .non⟩, fun _ => [], vals [script ns], fun i v e => by show ([.ref a] : List V).getD i .non = v; rw [List.getD_eq_getElem?_getD, e]; rfl, SRo.vals (fun a z => z.elim) (.cons ?_ .nil) _, ?_⟩
  · rcases hS with r | r
    · exact .lst (.inl ⟨fun z => z, r⟩) (shA_ints ns)
    · exact .lst (.inr r) (shA_ints ns)
  · obtain ⟨ρ, e⟩ := hp ns hl
    have e : d (vals [script ns]) = .ok (.val (.bool true)) ρ := e
    rw [e]
    intro v H' o' S t s
    cases s
    exact q H'
theorem law_fn {k : Nat} {f : Addr} {fd : FuncData} {ps : List Str} {d : Env → Res R} (hp : ∀ ns : List Int, ns.length ≤ 63 → ∃ ρ, d [.val (script ns)] = .ok (.val (.bool true)) ρ) (F : FnOk P w K mg base (L2.CX P w) k f fd ps (spG K mg 1 d)) :
    FnOk P w K mg base (L2.CX P w) k f fd ps (spLaw K) := F.imp fun _ _ _ _ h => law_start hp h
end
theorem walk {l : PySem.W.OpenLaw} {q : Program} {loose : List Str} {XP : (Str → Option Value) → Heap → Prop} {YP : World → Heap → Prop} {d : DefRec} {K : Params → PySem.W.Frag} (k : Nat) (hn : l.most = some 63) (hr : Room k callerA) (hdf : d.params.defaults = [])
    (hY : ∀ (w : World) (h : Heap), YP w h → (K w.params).In h)
    (F : ∀ (w : World) (mg : Str → Option Value) (fa : Addr) (h : Heap), (K w.params).In h → h.Ns mainGlobals mg → mg d.name = some (.ref fa) →
      ∃ fd : FuncData, (∀ (s : Shared) (u : Value), BindsTo s fd ⟨[u], []⟩ [("script", u)]) ∧ ∀ base : Heap, (K w.params).In base → base.Ns mainGlobals mg → FnOk l.prog w (K w.params) mg base (L2.CX l.prog w) k fa fd ["script"] (spLaw (K w.params))) :
    PySem.W.WalkO q loose XP YP l.row.toRowW d [] (fun f vs => PySem.call f vs) :=
  L2.walk_of (n := 63) (k := k) (x := "script") (CX := fun w => L2.CX l.prog w) (sp := fun w => spLaw (K w.params)) hn (by decide) hdf hr hY F (fun _ _ a ns hl _ hS => ⟨a, ns, rfl, hS, hl, fun _ => rfl⟩) fun _ H s e s' z => by
    obtain ⟨_, _, _, _, _, _, _, _, _, _, _, _, z⟩ := z
    exact z
end Dn
set_option Elab.async false
set_option linter.all false
set_option maxRecDepth 100000
set_option maxHeartbeats 1000000
/-! Dn10: try .. except X as e: return (what is known of e's class alone) -/
namespace Dn
open PySem L2
section
variable {X : Cx} {C : Ctx} {W : WX} {e : Expr} {body : List Stmt} {b : Env → SR} {x n : Str} {c : Value} {i : Nat} {np rp pos pos' : Pos}
def okV : D → Bool
  | .none => true
  | .bool _ => true
  | _ => false
/-- h: what of the classes that may be raised: none, not known; some none, goes on; some (some v), is caught: v is returned -/
def sTryR (i : Nat) (b : Env → SR) (h : Str → Option (Option D)) : Env → SR := fun ρ => match b ρ with
  | .exc c ρ1 => match h c with
    | some (some v) => if i < ρ1.length ∧ okV v = true then .ret (.val v) ρ1 else .bad
    | some none => .exc c ρ1
    | none => .bad
  | r => r
def tsR (X : Cx) (i : Nat) (h : Str → Option (Option D)) (a : Addr) (cls : Value) (d : Option Addr) : TS := fun D σ H =>
  ∃ A nm v, cls = .ref A ∧ d = none ∧ X.mg nm = some (.ref A) ∧ h nm = some (some v) ∧ σ[i]? = some (some (.ref a)) ∧ D.rt (vOf v) H
theorem js_tryR {h : Str → Option (Option D)} (hs : X.stack = X.env :: X.outer) (hf : X.env.frame = some X.env.locals) (hN : X.N.Nodup) (hi : X.N[i]? = some n) (hln : X.env.kindOf n = some .local) (hc : Names X x c) (tk : Takes X W)
    (hm : ∀ nm A r, X.mg nm = some (.ref A) → h nm = some r → PySem.W.exmOne X.K (.ref A) c = some r.isSome)
    (hb : ∀ (W' : WX) (pn : List (Addr × Obj)) (xe : Value → Shared → Prop), Takes (X.tr pn xe) W' → PassesOwn (model X.prog X.w) X.A X.env xe → JSs (X.tr pn xe) C W' body b)
    (hsu : ∀ (a : Addr) (oe : Obj) (A : Addr) (nm : Str) (v : D) (pn : List (Addr × Obj)), X.mg nm = some (.ref A) → h nm = some (some v) → Zc (.ref A) none oe → (∃ vs, oe.data = .fields vs) →
      PE (X.suite a ((a, oe) :: pn)) e (fun σ H Q => σ[i]? = some (some (.ref a)) ∧ Q (vOf v) H)) :
    JS X C W (.Try body [.ExceptHandler (some (.Name x np)) (some n) [.Return (some e) rp] pos'] [] [] pos) (sTryR i b h) :=
  PS.imp (ps_try_as hs hf hN hi hln hc tk (tb := fun W' => tS X C W' b) (ts := tsR X i h) (fun W' pn xe t p => hb W' pn xe t p) (fun a oe cls d pn hz hv => ⟨fun pins s σ H D I q => by
    obtain ⟨A, nm, v, rfl, rfl, q1, q2, q3, q4⟩ := q
    exact (pss_one (ps_ret (hsu a oe A nm v pn q1 q2 hz hv))).run pins s σ H D I ⟨q3, q4⟩⟩)) fun D σ H ⟨ρ, o, S, q⟩ => by
    refine ⟨ρ, o, S, ?_⟩
    have q : PoS X C W o H D (sTryR i b h ρ) := q
    unfold sTryR at q
    cases eb : b ρ with
    | nx ρ1 => rw [eb] at q; exact q
    | ret r ρ1 => rw [eb] at q; exact q
    | brk ρ1 => rw [eb] at q; exact q
    | cnt ρ1 => rw [eb] at q; exact q
    | bad => rw [eb] at q; exact q
    | exc nm ρ1 =>
      rw [eb] at q
      dsimp only at q
      intro σ1 H1 o1 S1 t1 A hA
      cases eh : h nm with
      | none => rw [eh] at q; exact q.elim
      | some r =>
        rw [eh] at q
        refine ⟨r.isSome, hm nm A r hA eh, fun hr a ha => ?_, fun hr => ?_⟩
        · cases r with
          | none => cases hr
          | some v =>
            dsimp only at q
            split at q
            · rename_i hcond
              have hl : i < σ1.length := by rw [← S1.len]; exact hcond.1
              refine ⟨A, nm, v, rfl, rfl, hA, eh, by rw [List.getElem?_set_self hl], ?_⟩
              have hsh : Sh X.K (FF C.B o1) H1 (vOf v) v := by
                cases v <;> first | exact .non | exact .bl _ | exact absurd hcond.2 Bool.false_ne_true
              exact q σ1 (vOf v) H1 o1 S1 t1 hsh
            · exact q.elim
        · cases r with
          | some v => cases hr
          | none => exact q σ1 H1 o1 S1 t1 A hA
end
/-! ### what the suite says of e -/
def KeE (X : Cx) (a : Addr) (oe : Obj) (pn : List (Addr × Obj)) (i : Nat) (e : Expr) (v : D) : Prop := PE (X.suite a ((a, oe) :: pn)) e (fun σ H Q => σ[i]? = some (some (.ref a)) ∧ Q (vOf v) H)
section
variable {X : Cx} {a A : Addr} {oe : Obj} {pn : List (Addr × Obj)} {i : Nat} {e f : Expr} {es : List Expr} {p p1 p2 pos : Pos} {n U : Str} {b : Bool}
theorem ke_bl {j : Nat} : KeE X a oe pn i (.Constant (.bool b) j pos) (.bool b) := PE.imp pe_bl fun _ _ _ h => h.2
theorem ke_is {c : V} {cv : Value} (E : ExcC X.K A) (hz : Zc (.ref A) none oe) (hf : ∃ vs, oe.data = .fields vs) (hv : PE (X.suite a ((a, oe) :: pn)) e (tVar i)) (hU : PE (X.suite a ((a, oe) :: pn)) f (tC c)) (hc : ∀ u, RelV c u → u = cv) (hk : PySem.W.kitOne X.K (.ref A) cv = some b) (hg : Gl X "isinstance") (hm : X.mg "isinstance" = none)
    (hs1 : starEach [f] (X.suite a ((a, oe) :: pn)).env = (false, eval f X.env) :: starEach [] X.env := by rfl)
    (hs : starEach (e :: [f]) (X.suite a ((a, oe) :: pn)).env = (false, eval e X.env) :: starEach [f] X.env := by rfl) (hpl : (backTo pos (starEach [f] (X.suite a ((a, oe) :: pn)).env)).any (·.1) = false := by rfl) :
    KeE X a oe pn i (.Call (.Name "isinstance" p) [e, f] [] pos) (.bool b) :=
  PE.imp (pe_callB (X := X.suite a ((a, oe) :: pn)) (call_isE E hz hf) hg hm bt_isi (pa_cons hv (pa_cons hU pa_nil hs1) hs) (by decide) (by decide) hs hpl) fun σ H Q h => ⟨_, h.1, c, cv, b, rfl, hc, hk, h.2⟩
theorem ke_one {op : BoolOp} {v : D} (h : KeE X a oe pn i e v) : KeE X a oe pn i (.BoolOp op [e] pos) v := pe_one h
theorem ke_and {c : Bool} (h1 : KeE X a oe pn i e (.bool true)) (h2 : KeE X a oe pn i (.BoolOp .And (f :: es) pos) (.bool c)) : KeE X a oe pn i (.BoolOp .And (e :: f :: es) pos) (.bool c) :=
  PE.imp (pe_and h1 h2) fun σ H Q h => ⟨h.1, true, rfl, h⟩
theorem ke_own {U' : Addr} {U : Str} (gU : X.mg U = some (.ref U')) (hg : Gl X U) (hd : (U == ("__debug__" : Str)) = false := by decide) : PE (X.suite a ((a, oe) :: pn)) (.Name U p) (tC (.ref U')) := pe_glob (X := X.suite a ((a, oe) :: pn)) hg gU rfl hd
theorem ke_blt {U : Str} {T : String} (gU : X.mg U = none) (hg : Gl X U) (hv : bootBuiltins U = some (.type T)) (hn : U ≠ "__name__" := by decide) (hd : (U == ("__debug__" : Str)) = false := by decide) : PE (X.suite a ((a, oe) :: pn)) (.Name U p) (tC (.ty T)) := pe_bltn (X := X.suite a ((a, oe) :: pn)) hg gU hv rfl hn hd
end
theorem kit_own {K : PySem.W.Frag} {t : Value} {U : Addr} (hd : PySem.W.hasDictIn K U = true) (ht : PySem.W.typeIn K (.ref U) = some (.type "type")) (h : PySem.W.subIn K t (.ref U) = some true) : PySem.W.kitOne K t (.ref U) = some true := by
  obtain ⟨cd, hc, _⟩ := PySem.W.any_some hd
  unfold PySem.W.kitOne
  split
  · rfl
  · show (if ((PySem.W.clsIn K U).isSome && PySem.W.typeIn K (.ref U) == some (.type "type")) = true then PySem.W.subIn K t (.ref U) else none) = some true
    rw [if_pos (by rw [hc, ht] <;> rfl), h]
theorem kit_blt {K : PySem.W.Frag} {t : Value} {T : String} (hT : PySem.W.kitMeta T = true) (h : PySem.W.subIn K t (.type T) = some true) : PySem.W.kitOne K t (.type T) = some true := by
  unfold PySem.W.kitOne
  split
  · rfl
  · show (if PySem.W.kitMeta T = true then PySem.W.subIn K t (.type T) else none) = some true
    rw [if_pos hT, h]
theorem bt_ValueError : bootBuiltins "ValueError" = some (.type "ValueError") := by first | rfl | decide +kernel
/-- one class alone is raised and caught -/
def h1 (nm0 : Str) (v : D) : Str → Option (Option D) := fun nm => if nm = nm0 then some (some v) else none
section
variable {X : Cx} {C : Ctx} {W : WX} {e : Expr} {body : List Stmt} {b : Env → SR} {x n : Str} {i : Nat} {np rp pos pos' : Pos}
theorem js_try1 {nm0 : Str} {A0 c : Addr} {v : D} (hs : X.stack = X.env :: X.outer) (hf : X.env.frame = some X.env.locals) (hN : X.N.Nodup) (hi : X.N[i]? = some n) (hln : X.env.kindOf n = some .local) (gx : X.mg x = some (.ref c)) (hgx : Gl X x) (tk : Takes X W)
    (g0 : X.mg nm0 = some (.ref A0)) (hm : PySem.W.exmOne X.K (.ref A0) (.ref c) = some true)
    (hb : ∀ (W' : WX) (pn : List (Addr × Obj)) (xe : Value → Shared → Prop), Takes (X.tr pn xe) W' → PassesOwn (model X.prog X.w) X.A X.env xe → JSs (X.tr pn xe) C W' body b)
    (hsu : ∀ (a : Addr) (oe : Obj) (pn : List (Addr × Obj)), Zc (.ref A0) none oe → (∃ vs, oe.data = .fields vs) → KeE X a oe pn i e v) (hd : (x == ("__debug__" : Str)) = false := by decide) :
    JS X C W (.Try body [.ExceptHandler (some (.Name x np)) (some n) [.Return (some e) rp] pos'] [] [] pos) (sTryR i b (h1 nm0 v)) :=
  js_tryR hs hf hN hi hln ⟨hgx, hd, .inl gx⟩ tk (fun nm A r hA hr => by
      unfold h1 at hr
      split at hr
      · rename_i q
        subst q
        cases hr
        rw [g0] at hA
        cases hA
        exact hm
      · cases hr) hb fun a oe A nm v' pn hA hr hz hf => by
    unfold h1 at hr
    split at hr
    · rename_i q
      subst q
      cases hr
      rw [g0] at hA
      cases hA
      exact hsu a oe pn hz hf
    · cases hr
end
end Dn
set_option Elab.async false
set_option linter.all false
set_option maxRecDepth 100000
set_option maxHeartbeats 1000000
/-! Dn11: sum, min, max, all, any, gcd -/
namespace Dn
open PySem L2
def asInt : D → Option Int
  | .int i => some i
  | _ => none
def asBool : D → Option Bool
  | .bool i => some i
  | _ => none
def intsD : List D → Option (List Int)
  | [] => some []
  | .int i :: r => (intsD r).map (i :: ·)
  | _ :: _ => none
def boolsD : List D → Option (List Bool)
  | [] => some []
  | .bool i :: r => (boolsD r).map (i :: ·)
  | _ :: _ => none
@[simp] theorem intsD_map : ∀ ns : List Int, intsD (ns.map .int) = some ns
  | [] => rfl
  | i :: r => by
    show (intsD (r.map .int)).map (i :: ·) = _
    rw [intsD_map r]
    rfl
@[simp] theorem boolsD_map : ∀ ns : List Bool, boolsD (ns.map .bool) = some ns
  | [] => rfl
  | i :: r => by
    show (boolsD (r.map .bool)).map (i :: ·) = _
    rw [boolsD_map r]
    rfl
theorem intsD_eq : ∀ {ds : List D} {ns : List Int}, intsD ds = some ns → ds = ns.map .int
  | [], ns, h => by cases h; rfl
  | .int i :: r, ns, h => by
    simp only [intsD, Option.map_eq_some_iff] at h
    obtain ⟨m, hm, rfl⟩ := h
    rw [List.map_cons, ← intsD_eq hm]
  | .none :: _, _, h => by cases h
  | .bool _ :: _, _, h => by cases h
  | .str _ :: _, _, h => by cases h
  | .list _ :: _, _, h => by cases h
  | .tuple _ :: _, _, h => by cases h
  | .dict _ :: _, _, h => by cases h
theorem boolsD_eq : ∀ {ds : List D} {ns : List Bool}, boolsD ds = some ns → ds = ns.map .bool
  | [], ns, h => by cases h; rfl
  | .bool i :: r, ns, h => by
    simp only [boolsD, Option.map_eq_some_iff] at h
    obtain ⟨m, hm, rfl⟩ := h
    rw [List.map_cons, ← boolsD_eq hm]
  | .none :: _, _, h => by cases h
  | .int _ :: _, _, h => by cases h
  | .str _ :: _, _, h => by cases h
  | .list _ :: _, _, h => by cases h
  | .tuple _ :: _, _, h => by cases h
  | .dict _ :: _, _, h => by cases h
theorem sh_ints {K : PySem.W.Frag} {F : Addr → Prop} {H : Hp} : ∀ {xs : List V} {ns : List Int}, ShA K F H xs (ns.map .int) → xs = ns.map .int
  | _, [], .nil => rfl
  | _, i :: r, .cons h s => by rw [h.ofInt, sh_ints s]; rfl
theorem sh_bools {K : PySem.W.Frag} {F : Addr → Prop} {H : Hp} : ∀ {xs : List V} {ns : List Bool}, ShA K F H xs (ns.map .bool) → xs = ns.map .bl
  | _, [], .nil => rfl
  | _, i :: r, .cons h s => by rw [h.ofBool, sh_bools s]; rfl
def minL : List Int → Int
  | [] => 0
  | [x] => x
  | x :: y :: r => min x (minL (y :: r))
def maxL : List Int → Int
  | [] => 0
  | [x] => x
  | x :: y :: r => max x (maxL (y :: r))
theorem minL_spec : ∀ {ns : List Int}, 0 < ns.length → minL ns ∈ ns ∧ ∀ y ∈ ns, minL ns ≤ y
  | [x], _ => ⟨by simp [minL], by simp [minL]⟩
  | x :: y :: r, _ => by
    obtain ⟨a, b⟩ := minL_spec (ns := y :: r) (by simp)
    have e : minL (x :: y :: r) = min x (minL (y :: r)) := rfl
    rw [e]
    refine ⟨?_, fun z hz => ?_⟩
    · by_cases c : x ≤ minL (y :: r)
      · rw [Int.min_eq_left c]; exact List.mem_cons_self ..
      · rw [Int.min_eq_right (by omega)]; exact List.mem_cons_of_mem _ a
    · rcases List.mem_cons.mp hz with rfl | hz
      · exact Int.min_le_left _ _
      · exact Int.le_trans (Int.min_le_right _ _) (b z hz)
theorem maxL_spec : ∀ {ns : List Int}, 0 < ns.length → maxL ns ∈ ns ∧ ∀ y ∈ ns, y ≤ maxL ns
  | [x], _ => ⟨by simp [maxL], by simp [maxL]⟩
  | x :: y :: r, _ => by
    obtain ⟨a, b⟩ := maxL_spec (ns := y :: r) (by simp)
    have e : maxL (x :: y :: r) = max x (maxL (y :: r)) := rfl
    rw [e]
    refine ⟨?_, fun z hz => ?_⟩
    · by_cases c : x ≤ maxL (y :: r)
      · rw [Int.max_eq_right c]; exact List.mem_cons_of_mem _ a
      · rw [Int.max_eq_left (by omega)]; exact List.mem_cons_self ..
    · rcases List.mem_cons.mp hz with rfl | hz
      · exact Int.le_max_left _ _
      · exact Int.le_trans (b z hz) (Int.le_max_right _ _)
def fSum : D → Option R
  | .list ds => (intsD ds).map fun ns => .val (.int ns.sum)
  | _ => none
def fMin1 : D → Option R
  | .list ds => (intsD ds).bind fun ns => if 0 < ns.length then some (.val (.int (minL ns))) else none
  | _ => none
def fMax1 : D → Option R
  | .list ds => (intsD ds).bind fun ns => if 0 < ns.length then some (.val (.int (maxL ns))) else none
  | _ => none
def fAll : D → Option R
  | .list ds => (boolsD ds).map fun bs => .val (.bool (bs.all id))
  | _ => none
def fAny : D → Option R
  | .list ds => (boolsD ds).map fun bs => .val (.bool (bs.any id))
  | _ => none
def fGcd : List D → Option R
  | [.int a, .int b] => some (.val (.int ((Nat.gcd a.natAbs b.natAbs : Nat) : Int)))
  | _ => none
def fMin2 : List D → Option R
  | [.int i, .int j] => some (.val (.int (if j < i then j else i)))
  | _ => none
def fMax2 : List D → Option R
  | [.int i, .int j] => some (.val (.int (if j > i then j else i)))
  | _ => none
section
variable {X : Cx}
theorem cr_sumD (hc : X.calm = true) : CallR X (.builtin "sum") (rP1 X.K fSum) := by
  intro pins s σ H xs us Q I r h
  obtain ⟨x, F, d, rr, rfl, tr, sx, er, q⟩ := h
  unfold fSum at er
  split at er
  · rw [Option.map_eq_some_iff] at er
    obtain ⟨ns, e, rfl⟩ := er
    obtain ⟨a, xs, rfl, ra, sa⟩ := sx
    rw [intsD_eq e] at sa
    rw [sh_ints sa] at ra
    exact cr_sum hc pins s σ H _ us Q I r ⟨a, ns, rfl, ra, q _ _ (.refl H) (.int _)⟩
  · cases er
theorem cr_min1 (hc : X.calm = true) : CallR X (.builtin "min") (rP1 X.K fMin1) := by
  intro pins s σ H xs us Q I r h
  obtain ⟨x, F, d, rr, rfl, tr, sx, er, q⟩ := h
  unfold fMin1 at er
  split at er
  · rw [Option.bind_eq_some_iff] at er
    obtain ⟨ns, e, er⟩ := er
    split at er
    · rename_i hl
      cases er
      obtain ⟨a, xs, rfl, ra, sa⟩ := sx
      rw [intsD_eq e] at sa
      rw [sh_ints sa] at ra
      obtain ⟨m1, m2⟩ := minL_spec hl
      exact cr_min hc pins s σ H _ us Q I r ⟨a, ns, rfl, ra, hl, fun m hm hy => by
        have : m = minL ns := Int.le_antisymm (hy _ m1) (m2 _ hm)
        rw [this]
        exact q _ _ (.refl H) (.int _)⟩
    · cases er
  · cases er
theorem cr_max1 (hc : X.calm = true) : CallR X (.builtin "max") (rP1 X.K fMax1) := by
  intro pins s σ H xs us Q I r h
  obtain ⟨x, F, d, rr, rfl, tr, sx, er, q⟩ := h
  unfold fMax1 at er
  split at er
  · rw [Option.bind_eq_some_iff] at er
    obtain ⟨ns, e, er⟩ := er
    split at er
    · rename_i hl
      cases er
      obtain ⟨a, xs, rfl, ra, sa⟩ := sx
      rw [intsD_eq e] at sa
      rw [sh_ints sa] at ra
      obtain ⟨m1, m2⟩ := maxL_spec hl
      exact cr_max hc pins s σ H _ us Q I r ⟨a, ns, rfl, ra, hl, fun m hm hy => by
        have : m = maxL ns := Int.le_antisymm (m2 _ hm) (hy _ m1)
        rw [this]
        exact q _ _ (.refl H) (.int _)⟩
    · cases er
  · cases er
theorem cr_allD (hc : X.calm = true) : CallR X (.builtin "all") (rP1 X.K fAll) := by
  intro pins s σ H xs us Q I r h
  obtain ⟨x, F, d, rr, rfl, tr, sx, er, q⟩ := h
  unfold fAll at er
  split at er
  · rw [Option.map_eq_some_iff] at er
    obtain ⟨ns, e, rfl⟩ := er
    obtain ⟨a, xs, rfl, ra, sa⟩ := sx
    rw [boolsD_eq e] at sa
    rw [sh_bools sa] at ra
    exact cr_all hc pins s σ H _ us Q I r ⟨a, ns, rfl, ra, q _ _ (.refl H) (.bl _)⟩
  · cases er
theorem cr_anyD (hc : X.calm = true) : CallR X (.builtin "any") (rP1 X.K fAny) := by
  intro pins s σ H xs us Q I r h
  obtain ⟨x, F, d, rr, rfl, tr, sx, er, q⟩ := h
  unfold fAny at er
  split at er
  · rw [Option.map_eq_some_iff] at er
    obtain ⟨ns, e, rfl⟩ := er
    obtain ⟨a, xs, rfl, ra, sa⟩ := sx
    rw [boolsD_eq e] at sa
    rw [sh_bools sa] at ra
    exact cr_any hc pins s σ H _ us Q I r ⟨a, ns, rfl, ra, q _ _ (.refl H) (.bl _)⟩
  · cases er
theorem sh2 {K : PySem.W.Frag} {F : Addr → Prop} {H : Hp} {xs : List V} {i j : Int} (s : ShA K F H xs [.int i, .int j]) : xs = [.int i, .int j] := by
  cases s with
  | cons h s => cases s with
    | cons h2 s => cases s; rw [h.ofInt, h2.ofInt]
theorem cr_gcdD : CallR X (.builtin "math.gcd") (rDn X.K fGcd) := by
  intro pins s σ H xs us Q I r h
  obtain ⟨F, ds, rr, tr, sx, er, q⟩ := h
  unfold fGcd at er
  split at er
  · cases er
    rw [sh2 sx] at r
    exact cr_gcd pins s σ H _ us Q I r ⟨_, _, rfl, q _ _ (.refl H) (.int _)⟩
  · cases er
theorem cr_min2 (hc : X.calm = true) : CallR X (.builtin "min") (rDn X.K fMin2) := by
  intro pins s σ H xs us Q I r h
  obtain ⟨F, ds, rr, tr, sx, er, q⟩ := h
  unfold fMin2 at er
  split at er
  · cases er
    rw [sh2 sx] at r
    exact call_min2 hc pins s σ H _ us Q I r ⟨_, _, rfl, q _ _ (.refl H) (.int _)⟩
  · cases er
theorem cr_max2 (hc : X.calm = true) : CallR X (.builtin "max") (rDn X.K fMax2) := by
  intro pins s σ H xs us Q I r h
  obtain ⟨F, ds, rr, tr, sx, er, q⟩ := h
  unfold fMax2 at er
  split at er
  · cases er
    rw [sh2 sx] at r
    exact call_max2 hc pins s σ H _ us Q I r ⟨_, _, rfl, q _ _ (.refl H) (.int _)⟩
  · cases er
end
end Dn
set_option Elab.async false
set_option linter.all false
set_option maxRecDepth 100000
set_option maxHeartbeats 1000000
/-! Dn12: methods of texts -/
namespace Dn
open PySem L2
def rM1 (K : PySem.W.Frag) (f : D → D → Option R) : V → List V → Hp → VK → Prop := fun x xs H Q => ∃ y F d e r, xs = [y] ∧ (∀ a, F a → H a ≠ none) ∧ Sh K F H x d ∧ Pk K F H y e ∧ f d e = some r ∧ NewOk K F H Q r
def eM1 (f : D → D → Option R) (a b : Env → Res D) : Env → Res R := fun ρ => bindR (a ρ) fun x ρ1 => if isStr x = true then bindR (b ρ1) fun y ρ2 => optR (f x y) ρ2 else .bad
section
variable {X : Cx} {C : Ctx} {W : WX} {o e : Expr} {ma mb : Env → Res D} {f : D → D → Option R} {id : String} {name : Str} {apos pos : Pos}
theorem je_m1 (slot : Slot "str" name id) (ty : typeOf (.builtin id) = pure (.type "method_descriptor")) (rule : MtR X id (rM1 X.K f)) (ho : JV X C W o ma) (he : JP X C W e mb)
    (hs : starEach [e] X.env = [(false, eval e X.env)] := by rfl) (hbase : attributeBase o name X.env (eval o X.env) = eval o X.env := by rfl) (hline : (apos.endLine == pos.line) = true := by rfl) :
    JE X C W (.Call (.Attribute o name apos) [e] [] pos) (eM1 f ma mb) := PE.imp (pe_m1 slot ty rule ho he hs hbase hline) fun σ H Q ⟨ρ, oo, S, h⟩ => by
  obtain ⟨ρ0, o0, S0, h0⟩ := stepE (Rl := Sh X.K) S h
  refine ⟨ρ0, o0, S0, h0.imp (fun d ρ1 z v H1 o1 S1 t1 s1 => ?_) fun _ _ z => z⟩
  obtain ⟨ρ1', o1', d', S1', T1, s1', q1⟩ := z v H1 o1 S1 t1 s1
  split at q1
  · rename_i hi
    have hx : ∃ a, v = .str a := by
      cases d' <;> first | (cases hi; done) | exact ⟨_, s1'.ofStr⟩
    refine ⟨hx, ?_⟩
    obtain ⟨ρ2, o2, S2, h2⟩ := stepE (Rl := Pk X.K) S1' q1
    refine ⟨ρ2, o2, S2, h2.imp (fun d2 ρ3 z2 v2 H2 o3 S3 t3 s3 => ?_) fun _ _ z => z⟩
    obtain ⟨ρ4, o4, d4, S4, T4, s4, q4⟩ := z2 v2 H2 o3 S3 t3 s3
    obtain ⟨r, er, q⟩ := optE q4
    exact ⟨v2, FF C.B o4, d', d4, r, rfl, S4.tr, s1'.tx T4, s4, er, newOk S4 q⟩
  · exact q1.elim
def fFind : D → D → Option R
  | .str a, .str b => some (.val (.int (Txt.find a b)))
  | _, _ => none
def fRfind : D → D → Option R
  | .str a, .str b => some (.val (.int (Txt.rfind a b)))
  | _, _ => none
def fCount : D → D → Option R
  | .str a, .str b => some (.val (.int (Txt.count a b)))
  | _, _ => none
def fIndexS : D → D → Option R
  | .str a, .str b => match Builtin.Str.occurrences a b 0 a.length 1 with
    | i :: _ => some (.val (.int (i : Nat)))
    | [] => none
  | _, _ => none
def strsD : List D → Option (List Str)
  | [] => some []
  | .str i :: r => (strsD r).map (i :: ·)
  | _ :: _ => none
@[simp] theorem strsD_map : ∀ ns : List Str, strsD (ns.map .str) = some ns
  | [] => rfl
  | i :: r => by
    show (strsD (r.map .str)).map (i :: ·) = _
    rw [strsD_map r]
    rfl
theorem strsD_eq : ∀ {ds : List D} {ns : List Str}, strsD ds = some ns → ds = ns.map .str
  | [], ns, h => by cases h; rfl
  | .str i :: r, ns, h => by
    simp only [strsD, Option.map_eq_some_iff] at h
    obtain ⟨m, hm, rfl⟩ := h
    rw [List.map_cons, ← strsD_eq hm]
  | .none :: _, _, h => by cases h
  | .bool _ :: _, _, h => by cases h
  | .int _ :: _, _, h => by cases h
  | .list _ :: _, _, h => by cases h
  | .tuple _ :: _, _, h => by cases h
  | .dict _ :: _, _, h => by cases h
theorem sh_strs {K : PySem.W.Frag} {F : Addr → Prop} {H : Hp} : ∀ {xs : List V} {ns : List Str}, ShA K F H xs (ns.map .str) → xs = ns.map .str
  | _, [], .nil => rfl
  | _, i :: r, .cons h s => by rw [h.ofStr, sh_strs s]; rfl
def seqD : D → Option (List D)
  | .list ds => some ds
  | .tuple ds => some ds
  | _ => none
def fJoin : D → D → Option R
  | .str a, y => (seqD y).bind fun ds => (strsD ds).bind fun ys => if (ys.map (·.length)).sum + ys.length * a.length ≤ 16777216 then some (.val (.str (Txt.join a ys))) else none
  | _, _ => none
theorem mr_find : MtR X "str.find" (rM1 X.K fFind) := by
  intro pins s σ H x xs v us Q I rx rs h
  obtain ⟨y, F, d, e, r, rfl, tr, sx, sy, er, q⟩ := h
  unfold fFind at er
  split at er
  · cases er
    rw [sx.ofStr] at rx
    rw [sy.str] at rs
    exact mt_find pins s σ H _ _ v us Q I rx rs ⟨_, _, rfl, rfl, q _ _ (.refl H) (.int _)⟩
  · cases er
theorem mr_rfind : MtR X "str.rfind" (rM1 X.K fRfind) := by
  intro pins s σ H x xs v us Q I rx rs h
  obtain ⟨y, F, d, e, r, rfl, tr, sx, sy, er, q⟩ := h
  unfold fRfind at er
  split at er
  · cases er
    rw [sx.ofStr] at rx
    rw [sy.str] at rs
    exact mt_rfind pins s σ H _ _ v us Q I rx rs ⟨_, _, rfl, rfl, q _ _ (.refl H) (.int _)⟩
  · cases er
theorem mr_count : MtR X "str.count" (rM1 X.K fCount) := by
  intro pins s σ H x xs v us Q I rx rs h
  obtain ⟨y, F, d, e, r, rfl, tr, sx, sy, er, q⟩ := h
  unfold fCount at er
  split at er
  · cases er
    rw [sx.ofStr] at rx
    rw [sy.str] at rs
    exact mt_count pins s σ H _ _ v us Q I rx rs ⟨_, _, rfl, rfl, q _ _ (.refl H) (.int _)⟩
  · cases er
theorem mr_sindex : MtR X "str.index" (rM1 X.K fIndexS) := by
  intro pins s σ H x xs v us Q I rx rs h
  obtain ⟨y, F, d, e, r, rfl, tr, sx, sy, er, q⟩ := h
  unfold fIndexS at er
  split at er
  · split at er
    · rename_i i rest hocc
      cases er
      rw [sx.ofStr] at rx
      rw [sy.str] at rs
      exact mt_sindex pins s σ H _ _ v us Q I rx rs ⟨_, _, i, rest, rfl, rfl, hocc, q _ _ (.refl H) (.int _)⟩
    · cases er
  · cases er
theorem mr_join : MtR X "str.join" (rM1 X.K fJoin) := by
  intro pins s σ H x xs v us Q I rx rs h
  obtain ⟨y, F, d, e, r, rfl, tr, sx, sy, er, q⟩ := h
  unfold fJoin at er
  split at er
  · rename_i a
    rw [Option.bind_eq_some_iff] at er
    obtain ⟨ds, eds, er⟩ := er
    rw [Option.bind_eq_some_iff] at er
    obtain ⟨ys, eys, er⟩ := er
    split at er
    · rename_i hl
      cases er
      rw [sx.ofStr] at rx
      have ed := strsD_eq eys
      subst ed
      have key : ∃ p, y = .ref p ∧ (SqL X.K H p (ys.map V.str) ∨ SqT X.K H p (ys.map V.str)) := by
        cases e with
        | list zs =>
          cases eds
          obtain ⟨p, xs, rfl, rp, sp⟩ := sy
          rw [sh_strs sp] at rp
          exact ⟨p, rfl, .inl rp⟩
        | tuple zs =>
          cases eds
          obtain ⟨p, xs, rfl, rp, sp⟩ := sy.tup
          rw [sh_strs sp] at rp
          exact ⟨p, rfl, .inr rp⟩
        | _ => cases eds
      obtain ⟨p, rfl, hp⟩ := key
      exact mt_join pins s σ H _ _ v us Q I rx rs ⟨a, p, ys, rfl, rfl, hp, hl, q _ _ (.refl H) (.str _)⟩
    · cases er
  · cases er
end
end Dn
set_option Elab.async false
set_option linter.all false
set_option maxRecDepth 100000
set_option maxHeartbeats 1000000
/-! Dn13: text * int, tuple * int, min and max with default= -/
namespace Dn
open PySem L2
theorem bt_divmod : bootBuiltins "divmod" = some (.builtin "divmod") := by decide +kernel
def fMulS : D → D → Option R
  | .str x, .int n => if -(2 ^ 62) ≤ n ∧ n < 2 ^ 62 ∧ x.length * n.toNat ≤ 16777216 then some (.val (.str (Txt.mul x n))) else none
  | .tuple xs, .int n => if xs ≠ [] ∧ 2 ≤ n ∧ n ≤ 1000 ∧ xs.length ≤ 1000 then some (.val (.tuple (List.replicate n.toNat xs).flatten)) else if xs ≠ [] ∧ n = 1 then some (.val (.tuple xs)) else none
  | _, _ => none
theorem tup_once (l : Addr) (items : Array Value) (n : Nat) (dd : Option Addr) (sl : Array (Option Value)) (u : Tok) (c1 : (items.isEmpty || (1 : Int) == 1) = true) :
    Meets (Builtin.«tuple.__mul__» ⟨[.ref l, .int 1 u], []⟩) (fun _ R s => s.heap.get? l = some { cls := .type "tuple", dict := dd, data := .seq items n, slots := sl } ∧ R (.ok (.ret (Value.ref l))) s) :=
  .of_wp fun prog w A R s h => by
    obtain ⟨hp, g, d, tk, os⟩ := s
    obtain ⟨hl, h⟩ := h
    have f1 := AutoSeq1.idx_int
    wp_walk using wpAny_loadPart' hl
    repeat (first
      | (refine wpAny_ite_true (decide_eq_true c1) ?_; wp_walk using wpAny_loadPart' hl)
      | (refine wpAny_ite_false (by decide) ?_; wp_walk using wpAny_loadPart' hl))
    exact ⟨_, rfl, h⟩
section
variable {X : Cx}
theorem op_tup1 : OpR X (binaryOp .Mult) (fun x y H Q => ∃ l xs, x = V.ref l ∧ y = V.int 1 ∧ SqT X.K H l xs ∧ Q (.ref l) H) := by
  intro pins s σ H x y v u Q I rx ry h
  obtain ⟨l, xs, rfl, rfl, hT, q⟩ := h
  cases rx
  obtain ⟨t, rfl⟩ := ry
  obtain ⟨its, r, ⟨⟨cls, dd, data, sl⟩, ho, hc, n, hd⟩, hs⟩ := I.tuple hT
  simp only at hc hd
  subst hc hd
  refine wpAny_binaryOp_repeat_ref (T := "tuple") (U := "int") (by decide) ⟨_, ho, rfl⟩ (fun s' => typeIs_int s' 1 t) noFill_tuple_mul F.fills_int_mul F.slot_int_rmul repeat_tuple F.slot_int_index.lookup
    (call_meets F.slot_int_rmul (typeIs_int s 1 t) F.entry_int_rmul (F.args_int_rmul_2 _ _) (int_rmul_tuple 1 t l its.toArray n dd sl)
      ⟨ho, rfl, ⟨_, ho, rfl⟩, call_meets F.slot_tuple_mul ⟨_, ho, rfl⟩ F.entry_tuple_mul (F.args_tuple_mul_2 _ _) (tup_once l its.toArray n dd sl t (by simp)) ⟨ho, ?_⟩⟩)
  exact ⟨.ref l, H, I, rfl, q⟩
theorem mulok {x : Str} {n : Int} (h1 : -(2 ^ 62) ≤ n) (h2 : n < 2 ^ 62) (h3 : x.length * n.toNat ≤ 16777216) : MulOk x n := by
  refine ⟨?_, fun hn _ hg => ?_, fun hn _ => ?_⟩
  · rw [decide_eq_false (by omega), decide_eq_false (by omega)]; rfl
  · have hn : 0 < n := by omega
    have e : (x.length : Int) * n ≤ 16777216 := by
      have : ((x.length * n.toNat : Nat) : Int) = x.length * n := by rw [Int.natCast_mul, Int.toNat_of_nonneg (by omega)]
      omega
    have := Int.mul_ediv_self_le (x := (2 ^ 63 - 1 : Int)) (k := n) (by omega)
    have h5 : (2 ^ 63 - 1 : Int) < n * ((2 ^ 63 - 1) / n) + n := Int.lt_mul_ediv_self_add hn
    have hx0 : 0 ≤ (x.length : Int) := by omega
    have h6 : n * ((2 ^ 63 - 1) / n + 1) ≤ n * (x.length : Int) := Int.mul_le_mul_of_nonneg_left (by omega) (by omega)
    rw [Int.mul_add, Int.mul_one] at h6
    rw [Int.mul_comm] at e
    omega
  · unfold Builtin.Str.tooLong
    rw [sizeLine_eq]
    exact decide_eq_false (by omega)
theorem od_mulS : OpR X (binaryOp .Mult) (rD2 X.K fMulS) := by
  intro pins s σ H x y v u Q I rx ry h
  obtain ⟨F, d, e, r, tr, sx, sy, er, q⟩ := h
  unfold fMulS at er
  split at er
  · split at er
    · rename_i hb
      cases er
      rw [sx.ofStr] at rx
      rw [sy.ofInt] at ry
      obtain ⟨t, rfl⟩ := rx
      obtain ⟨t2, rfl⟩ := ry
      exact SB.mul (mulok hb.1 hb.2.1 hb.2.2) fun t' k => ⟨.str _, H, I.kept (fun _ _ e => e), ⟨t', rfl⟩, q _ _ (.refl H) (.str _)⟩
    · cases er
  · split at er
    · rename_i hb
      cases er
      obtain ⟨a, vs, rfl, ra, sa⟩ := sx.T
      rw [sy.ofInt] at ry
      have rep : ∀ m : Nat, ShA X.K F H (List.replicate m vs).flatten (List.replicate m _).flatten := fun m => by
        induction m with
        | zero => exact .nil
        | succ m ih => rw [List.replicate_succ, List.replicate_succ, List.flatten_cons, List.flatten_cons]; exact sa.append ih
      have hl := sa.length
      exact op_repT pins s σ H _ _ v u Q I rx ry ⟨a, _, vs, rfl, rfl, ra, fun z => hb.1 (List.eq_nil_of_length_eq_zero (by rw [← hl, z]; rfl)), hb.2.1, hb.2.2.1, by rw [hl]; exact hb.2.2.2, new_tup tr (rep _) q⟩
    · split at er
      · rename_i hb
        obtain ⟨h1, rfl⟩ := hb
        cases er
        obtain ⟨a, vs, rfl, ra, sa⟩ := sx.T
        rw [sy.ofInt] at ry
        exact op_tup1 pins s σ H _ _ v u Q I rx ry ⟨a, vs, rfl, rfl, ra, q _ _ (.refl H) sx⟩
      · cases er
  · cases er
end

/-! ### min(xs, default=c), max(xs, default=c) -/
def fMinD (c : D) : D → Option R
  | .list ds => (intsD ds).map fun ns => if ns.length = 0 then .val c else .val (.int (minL ns))
  | _ => none
def fMaxD (c : D) : D → Option R
  | .list ds => (intsD ds).map fun ns => if ns.length = 0 then .val c else .val (.int (maxL ns))
  | _ => none
def constV : D → V
  | .bool b => .bl b
  | .int i => .int i
  | .str x => .str x
  | _ => .non
def isConst : D → Bool
  | .none => true
  | .bool _ => true
  | .int _ => true
  | .str _ => true
  | _ => false
theorem const_sh {K : PySem.W.Frag} {F : Addr → Prop} {H : Hp} {c : D} (h : isConst c = true) : Sh K F H (constV c) c := by
  cases c <;> first | exact .non | exact .bl _ | exact .int _ | exact .str _ | cases h
def rPK (K : PySem.W.Frag) (c : D) (f : D → Option R) : List V → List V → Hp → VK → Prop := fun xs zs H Q => zs = [constV c] ∧ rP1 K f xs H Q
section
variable {X : Cx} {C : Ctx} {W : WX} {x : Str} {p pos kpos : Pos} {e ke : Expr} {ma : Env → Res D} {id : String} {ks : List Str} {c : D} {f : D → Option R} {nm : Option Str}
theorem cr_minD (hc : X.calm = true) (hk : isConst c = true) : CallRK X (.builtin "min") [Str.ofString "default"] (rPK X.K c (fMinD c)) := by
  intro pins s σ H xs zs us ws Q I r rz h
  obtain ⟨rfl, x, F, d, rr, rfl, tr, sx, er, q⟩ := h
  obtain ⟨w1, rfl, e1⟩ := vals1 rz
  unfold fMinD at er
  split at er
  · rw [Option.map_eq_some_iff] at er
    obtain ⟨ns, en, rfl⟩ := er
    obtain ⟨a, vs, rfl, ra, sa⟩ := sx
    rw [intsD_eq en] at sa
    rw [sh_ints sa] at ra
    obtain ⟨its, rv, hl, _⟩ := I.list ra
    obtain rfl := Vals.ref1 r
    refine PySem.dmin_raw (I.ok.hd hc) hl.isList rv.ints (fun e0 h' tk hk2 => ?_) fun h' tk m t hk2 m1 m2 => ?_
    · subst e0
      exact ⟨constV c, H, I.kept hk2, e1, q _ _ (.refl H) (const_sh hk)⟩
    · have hpos : 0 < ns.length := List.length_pos_of_mem m1
      rw [if_neg (by omega)] at q
      obtain ⟨n1, n2⟩ := minL_spec hpos
      have em : m = minL ns := Int.le_antisymm (m2 _ n1) (n2 _ m1)
      subst em
      exact ⟨.int _, H, I.kept hk2, ⟨_, rfl⟩, q _ _ (.refl H) (.int _)⟩
  · cases er
theorem cr_maxD (hc : X.calm = true) (hk : isConst c = true) : CallRK X (.builtin "max") [Str.ofString "default"] (rPK X.K c (fMaxD c)) := by
  intro pins s σ H xs zs us ws Q I r rz h
  obtain ⟨rfl, x, F, d, rr, rfl, tr, sx, er, q⟩ := h
  obtain ⟨w1, rfl, e1⟩ := vals1 rz
  unfold fMaxD at er
  split at er
  · rw [Option.map_eq_some_iff] at er
    obtain ⟨ns, en, rfl⟩ := er
    obtain ⟨a, vs, rfl, ra, sa⟩ := sx
    rw [intsD_eq en] at sa
    rw [sh_ints sa] at ra
    obtain ⟨its, rv, hl, _⟩ := I.list ra
    obtain rfl := Vals.ref1 r
    refine PySem.dmax_raw (I.ok.hd hc) hl.isList rv.ints (fun e0 h' tk hk2 => ?_) fun h' tk m t hk2 m1 m2 => ?_
    · subst e0
      exact ⟨constV c, H, I.kept hk2, e1, q _ _ (.refl H) (const_sh hk)⟩
    · have hpos : 0 < ns.length := List.length_pos_of_mem m1
      rw [if_neg (by omega)] at q
      obtain ⟨n1, n2⟩ := maxL_spec hpos
      have em : m = maxL ns := Int.le_antisymm (n2 _ m1) (m2 _ n1)
      subst em
      exact ⟨.int _, H, I.kept hk2, ⟨_, rfl⟩, q _ _ (.refl H) (.int _)⟩
  · cases er
/-- name(e, key=c), c written -/
theorem je_bkc (hc : CallRK X (.builtin id) ks (rPK X.K c f)) (hm : X.mg x = none) (hv : bootBuiltins x = some (.builtin id)) (ha : JP X C W e ma) (hk : PE X ke (tC (constV c))) (hg : Gl X x)
    (hn : x ≠ "__name__" := by decide) (hdb : (x == ("__debug__" : Str)) = false := by decide) (hs : starEach [e] X.env = (false, eval e X.env) :: starEach [] X.env := by rfl)
    (he : backTo pos (starEach (e :: []) X.env) = (false, eval e X.env) :: backTo pos (starEach [] X.env) := by rfl) (hpl : (backTo pos (starEach (e :: []) X.env)).any (·.1) = false := by rfl)
    (hall : (backToKw pos (keywordEach [⟨nm, ke, kpos⟩] X.env)).all (·.1.isSome) = true := by rfl) (hnone : (backToKw pos (keywordEach [⟨nm, ke, kpos⟩] X.env)).any (·.1.isNone) = false := by rfl) (hks : (backToKw pos (keywordEach [⟨nm, ke, kpos⟩] X.env)).filterMap (·.1) = ks := by rfl) :
    JE X C W (.Call (.Name x p) [e] [⟨nm, ke, kpos⟩] pos) (eOp1 f ma) := PE.imp (pe_callBK hc hg hm hv (pa_cons ha pa_nil hs) (pk_cons hk pk_nil) hn hdb he hpl hall hnone hks) fun σ H Q ⟨ρ, o, S, h⟩ => by
  obtain ⟨ρ0, o0, S0, h0⟩ := jeP_imp S h
  refine ⟨ρ0, o0, S0, h0.imp (fun d ρ1 z v H1 o1 S1 t1 s1 => ?_) fun _ _ z => z⟩
  have := z v H1 o1 S1 t1 s1
  exact ⟨rfl, this⟩
end
end Dn
set_option Elab.async false
set_option linter.all false
set_option maxRecDepth 100000
set_option maxHeartbeats 1000000
/-! Dn14: x[::-1], zip, enumerate, reversed -/
namespace Dn
open PySem L2 PySem.Spec PyProof.Rows RT RZ
def revS (z : Str) : Str := ⟨z.cps.toList.reverse.toArray⟩
def fRev : D → Option R
  | .list ds => some (.fresh (.lst ds.reverse))
  | .str z => if z.length ≤ 16777216 then some (.val (.str (revS z))) else none
  | _ => none
section
variable {X : Cx} {C : Ctx} {W : WX} {e b tg : Expr} {ma : Env → Res D} {pos p p1 p2 p3 : Pos} {k : Nat}
def tRevX (K : PySem.W.Frag) (te : TE) : TE := fun σ H Q => te σ H fun x H1 => (∃ a xs, x = .ref a ∧ SqL K H1 a xs ∧ ∀ p, H1 p = none → Q (.ref p) (upd H1 p (.lst xs.reverse))) ∨ ∃ z, x = .str z ∧ z.length ≤ sizeLine ∧ Q (.str (revS z)) H1
theorem pe_revX {te : TE} (he : PE X e te) : PE X (.Subscript e (.Slice none none (some (.UnaryOp .USub (.Constant (.int 1) k p1) p2)) p3) pos) (tRevX X.K te) := by
  refine ⟨fun pins s σ H Q I h => ?_⟩
  refine Subscript_ (thn (he.run pins s σ H _ I h) fun v s1 ⟨x, H1, I1, r1, q1⟩ => ?_)
  have neg : PO X (some (.UnaryOp .USub (.Constant (.int 1) k p1) p2)) (tPart (tUn (rU fun i => .int (-i)) (tC (.int 1)))) := po_some (pe_un un_neg pe_int)
  refine wpAny_Slice (thn (po_none.run pins s1 σ H1 (fun o H2 => o = none ∧ H2 = H1) I1 ⟨rfl, rfl⟩) fun vl s2 ⟨l, H2, I2, pl, el, e2⟩ => ?_)
  subst el e2
  refine thn (po_none.run pins s2 σ H2 (fun o H3 => o = none ∧ H3 = H2) I2 ⟨rfl, rfl⟩) fun vu s3 ⟨u, H3, I3, pu, eu, e3⟩ => ?_
  subst eu e3
  refine thn (neg.run pins s3 σ H3 (fun o H4 => o = some (-1) ∧ H4 = H3) I3 ⟨1, rfl, -1, rfl, rfl, rfl⟩) fun vs s4 ⟨o, H4, I4, ps, eo, e4⟩ => ?_
  subst eo e4
  have I5 : Inv X pins σ H4 { s4 with heap := s4.heap.push { cls := .type "slice", data := .fields #[vl, vu, vs] } } := I4.kept (t' := s4.toks) fun b ob q => Heap.get?_push_of_some _ q
  rcases q1 with ⟨a, xs, rfl, hx, q⟩ | ⟨z, rfl, hz, q⟩
  · cases r1
    obtain ⟨its, r, ht, hz⟩ := I5.list hx
    have hlen := r.length
    refine tail_any (ops := [.ref a, .ref s4.heap.objs.size]) ht.isList.typeIs (PySem.slot_list_getitem.lookup) ?_ (by with_unfolding_all rfl)
    refine wpAny_getItem_list_slice ht.isList (Heap.IsSliceOf.new _ vl vu vs) pl pu ps (by decide) ?_ (by rw [List.size_toArray]; omega)
    rw [PySem.W.krv_pick]
    exact ⟨.ref _, _, I5.laid (t' := s4.toks) (o := .lst xs.reverse) (fun b ob q => Heap.get?_push_of_some _ q) (Nat.le_refl _) ⟨by rw [List.length_reverse]; exact hz, _, 0, r.reverse, Heap.get?_push_size _ rfl⟩, rfl, q _ (I5.hok.fresh (Nat.le_refl _))⟩
  · obtain ⟨t, rfl⟩ := r1
    obtain ⟨l, rfl, el⟩ := IsPart.raw pl
    obtain ⟨u, rfl, eu⟩ := IsPart.raw pu
    obtain ⟨w, rfl, ew⟩ := IsPart.raw ps
    refine tail_any (ops := [.str z t, .ref s4.heap.objs.size]) (typeIs_str _ _ _) F.slot_str_getitem.lookup ?_ (by with_unfolding_all rfl)
    have e3 : (w.map (·.1)).getD 1 = -1 := by rw [ew]; rfl
    refine wpAny_getItem_str_slice (l := l) (u := u) (st := w) ⟨_, Heap.get?_push_size _ rfl, rfl, rfl⟩ (by rw [e3]; rfl) ?_
    have er : ((Builtin.Str.strSliceIndices (l.map (·.1)) (u.map (·.1)) ((w.map (·.1)).getD 1) z.length).filterMap (z.cps[·]?)).toArray = z.cps.toList.reverse.toArray := by
      rw [e3, el, eu]
      show ((sliceRange ((z.cps.size : Int) - 1) (-1) (-1)).filterMap (z.cps[·]?)).toArray = _
      rw [PySem.W.krv_sliceRange, PySem.W.krv_range, List.filterMap_reverse, PySem.W.krv_all]
    unfold sliceMade slicePicked
    rw [er]
    rw [if_neg (by rw [e3]; exact Bool.false_ne_true)]
    exact ⟨by show (z.cps.toList.reverse.toArray).size ≤ _; rw [List.size_toArray, List.length_reverse]; exact hz, .str (revS z), H4, I5.tok _, ⟨_, rfl⟩, q⟩
theorem je_rev (ha : JP X C W e ma) : JE X C W (.Subscript e (.Slice none none (some (.UnaryOp .USub (.Constant (.int 1) k p1) p2)) p3) pos) (eOp1 fRev ma) := PE.imp (pe_revX ha) fun σ H Q ⟨ρ, o, S, h⟩ => by
  obtain ⟨ρ0, o0, S0, h0⟩ := stepE (Rl := Pk X.K) S h
  refine ⟨ρ0, o0, S0, h0.imp (fun d ρ1 z v H1 o1 S1 t1 s1 => ?_) fun _ _ z => z⟩
  obtain ⟨ρ1', o1', d', S1', T1, s1', q1⟩ := z v H1 o1 S1 t1 s1
  obtain ⟨r, er, q⟩ := optE q1
  unfold fRev at er
  split at er
  · cases er
    obtain ⟨a, xs, rfl, ra, sa⟩ := s1'
    exact .inl ⟨a, xs, rfl, ra, new_lst S1'.tr sa.rev (newOk S1' q)⟩
  · split at er
    · rename_i hl
      cases er
      rw [s1'.str]
      exact .inr ⟨_, rfl, line_of hl, newOk S1' q _ _ (.refl _) (.str _)⟩
    · cases er
  · cases er

/-! ### what loops walk -/
def pairD (a b : D) : D := .tuple [a, b]
def zipD : D → D → Option (List D)
  | .list xs, .list ys => some (List.zipWith pairD xs ys)
  | .tuple xs, .tuple ys => some (List.zipWith pairD xs ys)
  | _, _ => none
def zipA : List D → Option (List D)
  | [a, b] => zipD a b
  | _ => none
def eZip (m : Env → Res (List D)) : Env → Res (List D) := fun ρ => bindR (m ρ) fun ds ρ1 => optR (zipA ds) ρ1
def enumD : D → Option (List D)
  | .list xs => some (xs.zipIdx.map fun p => .tuple [.int (p.2 : Nat), p.1])
  | _ => none
def eEnum (m : Env → Res D) : Env → Res (List D) := fun ρ => bindR (m ρ) fun d ρ1 => optR (enumD d) ρ1
def revdD : D → Option (List D)
  | .list xs => some xs.reverse
  | .tuple xs => some xs.reverse
  | _ => none
def eRevd (m : Env → Res D) : Env → Res (List D) := fun ρ => bindR (m ρ) fun d ρ1 => optR (revdD d) ρ1
theorem Tx.lst {F0 F : Addr → Prop} {H0 H : Hp} {K : PySem.W.Frag} {a : Addr} {xs : List V} (t : Tx F0 H0 F H) (h : (¬ F0 a ∧ Rd H0 a (.lst xs)) ∨ SqLK K a xs) : SqL K H a xs := h.elim (fun z => .inl (t.rd z.1 z.2).2) .inr
theorem Tx.tup {F0 F : Addr → Prop} {H0 H : Hp} {K : PySem.W.Frag} {a : Addr} {xs : List V} (t : Tx F0 H0 F H) (h : (¬ F0 a ∧ Rd H0 a (.tup xs)) ∨ SqTK K a xs) : SqT K H a xs := h.elim (fun z => .inl (t.rd z.1 z.2).2) .inr
theorem pair_new {K : PySem.W.Frag} {F0 F : Addr → Prop} {H0 H : Hp} {T : Addr} {x y : V} {d e : D} (t : Tx F0 H0 F H) (tr : ∀ a, F a → H a ≠ none) (hT : H T = none) (s1 : Sh K F0 H0 x d) (s2 : Sh K F0 H0 y e) :
    Same H (upd H T (.tup [x, y])) ∧ Sh K F (upd H T (.tup [x, y])) (.ref T) (.tuple [d, e]) := by
  have sm : Same H (upd H T (.tup [x, y])) := same_new hT
  have tt := t.trans (Tx.same sm)
  exact ⟨sm, .tup (.inl ⟨fun z => tr T z hT, .inl upd_same⟩) (.cons (s1.tx tt) (.cons (s2.tx tt) .nil))⟩
theorem zipWith_get {xs ys : List D} {i : Nat} {d : D} (h : (List.zipWith pairD xs ys)[i]? = some d) : ∃ a b, xs[i]? = some a ∧ ys[i]? = some b ∧ d = .tuple [a, b] := by
  rw [List.getElem?_zipWith] at h
  cases e1 : xs[i]? with
  | none => rw [e1] at h; cases h
  | some a =>
    cases e2 : ys[i]? with
    | none => rw [e1, e2] at h; cases h
    | some b =>
      rw [e1, e2] at h
      cases h
      exact ⟨a, b, rfl, rfl, rfl⟩
theorem it_zipL {K : PySem.W.Frag} {F : Addr → Prop} {H : Hp} {a b : Addr} {xs ys : List V} {ds es : List D} (h1 : (¬ F a ∧ Rd H a (.lst xs)) ∨ SqLK K a xs) (h2 : (¬ F b ∧ Rd H b (.lst ys)) ∨ SqLK K b ys) (s1 : ShA K F H xs ds) (s2 : ShA K F H ys es) : ItOk K F H (Itz K a b) (List.zipWith pairD ds es) := by
  intro F' H' t tr
  have g1 := t.lst h1
  have g2 := t.lst h2
  refine ⟨⟨xs, ys, g1, g2, ?_⟩, fun i d e => ?_⟩
  · rw [List.length_zipWith, s1.length, s2.length]; omega
  · obtain ⟨da, db, e1, e2, rfl⟩ := zipWith_get e
    obtain ⟨x, ex, sx⟩ := s1.get e1
    obtain ⟨y, ey, sy⟩ := s2.get e2
    refine ⟨⟨xs, ys, x, y, g1, g2, ex, ey⟩, fun v H2 ⟨T, x', y', ev, hT, eH, k1, k2⟩ => ?_⟩
    subst ev eH
    have q1 := k1 xs g1
    have q2 := k2 ys g2
    rw [ex] at q1
    rw [ey] at q2
    cases q1
    cases q2
    exact pair_new t tr hT sx sy
theorem it_zipT {K : PySem.W.Frag} {F : Addr → Prop} {H : Hp} {a b : Addr} {xs ys : List V} {ds es : List D} (h1 : (¬ F a ∧ Rd H a (.tup xs)) ∨ SqTK K a xs) (h2 : (¬ F b ∧ Rd H b (.tup ys)) ∨ SqTK K b ys) (s1 : ShA K F H xs ds) (s2 : ShA K F H ys es) : ItOk K F H (ItzT K a b) (List.zipWith pairD ds es) := by
  intro F' H' t tr
  have g1 := t.tup h1
  have g2 := t.tup h2
  refine ⟨⟨xs, ys, g1, g2, ?_⟩, fun i d e => ?_⟩
  · rw [List.length_zipWith, s1.length, s2.length]; omega
  · obtain ⟨da, db, e1, e2, rfl⟩ := zipWith_get e
    obtain ⟨x, ex, sx⟩ := s1.get e1
    obtain ⟨y, ey, sy⟩ := s2.get e2
    refine ⟨⟨xs, ys, x, y, g1, g2, ex, ey⟩, fun v H2 ⟨T, x', y', ev, hT, eH, k1, k2⟩ => ?_⟩
    subst ev eH
    have q1 := k1 xs g1
    have q2 := k2 ys g2
    rw [ex] at q1
    rw [ey] at q2
    cases q1
    cases q2
    exact pair_new t tr hT sx sy
theorem it_enum {K : PySem.W.Frag} {F : Addr → Prop} {H : Hp} {a : Addr} {xs : List V} {ds : List D} (h1 : (¬ F a ∧ Rd H a (.lst xs)) ∨ SqLK K a xs) (s1 : ShA K F H xs ds) : ItOk K F H (Ite K a) (ds.zipIdx.map fun p => .tuple [.int (p.2 : Nat), p.1]) := by
  intro F' H' t tr
  have g1 := t.lst h1
  refine ⟨⟨xs, g1, ?_⟩, fun i d e => ?_⟩
  · rw [List.length_map, List.length_zipIdx, s1.length]
    exact Nat.le_refl _
  · rw [List.getElem?_map, List.getElem?_zipIdx, Option.map_map, Option.map_eq_some_iff] at e
    obtain ⟨da, e1, rfl⟩ := e
    obtain ⟨x, ex, sx⟩ := s1.get e1
    refine ⟨⟨xs, x, g1, ex⟩, fun v H2 ⟨T, x', ev, hT, eH, k1⟩ => ?_⟩
    subst ev eH
    have q1 := k1 xs g1
    rw [ex] at q1
    cases q1
    have := pair_new t tr hT (.int (i : Int)) sx
    simpa using this
theorem it_revL {K : PySem.W.Frag} {F : Addr → Prop} {H : Hp} {a : Addr} {xs : List V} {ds : List D} (h1 : (¬ F a ∧ Rd H a (.lst xs)) ∨ SqLK K a xs) (s1 : ShA K F H xs ds) : ItOk K F H (Itv K a xs.length) ds.reverse := by
  intro F' H' t tr
  have g1 := t.lst h1
  refine ⟨by show xs.length ≤ _; rw [List.length_reverse, s1.length]; exact Nat.le_refl _, fun i d e => ?_⟩
  obtain ⟨hi, e1⟩ := List.getElem?_eq_some_iff.mp e
  rw [List.length_reverse] at hi
  rw [List.getElem?_reverse hi] at e
  rw [← s1.length] at e hi
  obtain ⟨x, ex, sx⟩ := s1.get e
  refine ⟨⟨hi, xs, x, g1, ex⟩, fun v H2 ⟨eH, k⟩ => ?_⟩
  subst eH
  have q := k xs g1
  have ei : xs.length - 1 - i = xs.length - 1 - i := rfl
  rw [show xs.length - 1 - i = xs.length - 1 - i by omega] at q
  rw [ex] at q
  cases q
  exact ⟨.refl _, sx.tx t⟩
theorem it_revT {K : PySem.W.Frag} {F : Addr → Prop} {H : Hp} {a : Addr} {xs : List V} {ds : List D} (h1 : (¬ F a ∧ Rd H a (.tup xs)) ∨ SqTK K a xs) (s1 : ShA K F H xs ds) : ItOk K F H (ItvT K a xs.length) ds.reverse := by
  intro F' H' t tr
  have g1 := t.tup h1
  refine ⟨by show xs.length ≤ _; rw [List.length_reverse, s1.length]; exact Nat.le_refl _, fun i d e => ?_⟩
  obtain ⟨hi, e1⟩ := List.getElem?_eq_some_iff.mp e
  rw [List.length_reverse] at hi
  rw [List.getElem?_reverse hi] at e
  rw [← s1.length] at e hi
  obtain ⟨x, ex, sx⟩ := s1.get e
  refine ⟨⟨hi, xs, x, g1, ex⟩, fun v H2 ⟨eH, k⟩ => ?_⟩
  subst eH
  have q := k xs g1
  rw [ex] at q
  cases q
  exact ⟨.refl _, sx.tx t⟩
theorem ji_zip {elts : List Expr} {kk : Nat} {tpos : Pos} {m : Env → Res (List D)} (hm : X.mg "zip" = none) (ha : JA X C W [e, b] m) (hg : Gl X "zip") (hs : starEach [e, b] X.env = (false, eval e X.env) :: starEach [b] X.env := by rfl) (hpl : (backTo pos (starEach [b] X.env)).any (·.1) = false := by rfl) :
    JI X C W (.Tuple elts kk tpos) (.Call (.Name "zip" p) [e, b] [] pos) (eZip m) := PI.imp (pi_zipA hg hm ha hs hpl) fun σ H Q ⟨ρ, o, S, h⟩ => by
  obtain ⟨ρ0, o0, S0, h0⟩ := stepI (Rl := ShA X.K) S h
  refine ⟨ρ0, o0, S0, h0.imp (fun d ρ1 z v H1 o1 S1 t1 s1 => ?_) fun _ _ z => z⟩
  obtain ⟨ρ1', o1', d', S1', T1, s1', q1⟩ := z v H1 o1 S1 t1 s1
  cases s1' with
  | nil => exact q1.elim
  | cons ha s2 =>
    cases s2 with
    | nil => exact q1.elim
    | cons hb s3 =>
      cases s3 with
      | cons _ _ => exact q1.elim
      | nil =>
        cases ha with
        | lst r1 s3 =>
          cases hb with
          | lst r2 s4 => exact ⟨_, _, _, _, rfl, .inl ⟨r1.elim (fun z => .inl z.2) .inr, r2.elim (fun z => .inl z.2) .inr, q1 _ H1 o1' S1' (.refl _ _) (it_zipL r1 r2 s3 s4)⟩⟩
          | _ => exact q1.elim
        | tup r1 s3 =>
          cases hb with
          | tup r2 s4 => exact ⟨_, _, _, _, rfl, .inr ⟨r1.elim (fun z => .inl z.2) .inr, r2.elim (fun z => .inl z.2) .inr, q1 _ H1 o1' S1' (.refl _ _) (it_zipT r1 r2 s3 s4)⟩⟩
          | _ => exact q1.elim
        | _ => exact q1.elim
theorem ji_enum {elts : List Expr} {kk : Nat} {tpos : Pos} (hm : X.mg "enumerate" = none) (ha : JV X C W e ma) (hg : Gl X "enumerate") (hs : starEach [e] X.env = [(false, eval e X.env)] := by rfl) :
    JI X C W (.Tuple elts kk tpos) (.Call (.Name "enumerate" p) [e] [] pos) (eEnum ma) := PI.imp (pi_enum hg hm (pa_cons ha pa_nil hs) hs) fun σ H Q ⟨ρ, o, S, h⟩ => by
  obtain ⟨ρ0, o0, S0, h0⟩ := stepI (Rl := Sh X.K) S h
  refine ⟨ρ0, o0, S0, h0.imp (fun d ρ1 z v H1 o1 S1 t1 s1 => ?_) fun _ _ z => z⟩
  obtain ⟨ρ1', o1', d', S1', T1, s1', q1⟩ := z v H1 o1 S1 t1 s1
  cases s1' with
  | lst r1 s2 => exact ⟨_, _, rfl, r1.elim (fun z => .inl z.2) .inr, q1 _ H1 o1' S1' (.refl _ _) (it_enum r1 s2)⟩
  | _ => exact q1.elim
theorem ji_revd (hm : X.mg "reversed" = none) (ha : JV X C W e ma) (hg : Gl X "reversed") (hs : starEach [e] X.env = (false, eval e X.env) :: starEach [] X.env := by rfl) :
    JI X C W tg (.Call (.Name "reversed" p) [e] [] pos) (eRevd ma) := PI.imp (pi_revA hg hm ha hs) fun σ H Q ⟨ρ, o, S, h⟩ => by
  obtain ⟨ρ0, o0, S0, h0⟩ := stepI (Rl := Sh X.K) S h
  refine ⟨ρ0, o0, S0, h0.imp (fun d ρ1 z v H1 o1 S1 t1 s1 => ?_) fun _ _ z => z⟩
  obtain ⟨ρ1', o1', d', S1', T1, s1', q1⟩ := z v H1 o1 S1 t1 s1
  cases s1' with
  | lst r1 s2 => exact ⟨_, _, rfl, .inl ⟨r1.elim (fun z => .inl z.2) .inr, q1 _ H1 o1' S1' (.refl _ _) (it_revL r1 s2)⟩⟩
  | tup r1 s2 => exact ⟨_, _, rfl, .inr ⟨r1.elim (fun z => .inl z.2) .inr, q1 _ H1 o1' S1' (.refl _ _) (it_revT r1 s2)⟩⟩
  | _ => exact q1.elim
end
end Dn
set_option Elab.async false
set_option linter.all false
set_option maxRecDepth 100000
set_option maxHeartbeats 1000000
/-! Dn15: enumerate(tuple), order of data, sorted, min and max of data, divmod, xs[k] += e -/
namespace Dn
open PySem L2 PySem.Spec PyProof.Rows PySem.W
/-! ### enumerate(tuple) -/
theorem enum_tup_new (l : Addr) (items : Array Value) (n : Nat) (dct : Option Addr) (sl : Array (Option Value)) :
    Meets (Builtin.«enumerate.__new__» ⟨[.type "enumerate", .ref l], []⟩) (fun _ R s => s.heap.get? l = some { cls := .type "tuple", dict := dct, data := .seq items n, slots := sl } ∧
      R (.ok (.ret (.ref (s.heap.push { cls := .type "tuple_iterator", data := .fields #[.ref l, .int 0 0] }).objs.size)))
        { s with heap := (s.heap.push { cls := .type "tuple_iterator", data := .fields #[.ref l, .int 0 0] }).push { cls := .type "enumerate", data := .fields #[.none, .bool false, .ref s.heap.objs.size, rawInt 0, .none, .none] } }) :=
  .of_wp fun prog w A R s z => by
    obtain ⟨hp, g, d, tk, os⟩ := s
    obtain ⟨hl, z⟩ := z
    have e1 := sub_enumerate
    have hT : Heap.IsTuple (Shared.heap ⟨hp, g, d, tk, os⟩) l items := ⟨_, hl, rfl, n, rfl⟩
    wp_walk using AutoSeq1.wpAny_loadPart' hl
    refine wpAny_stack_any fun st => wpAny_pure ?_
    split
    · rename_i c _ _ _ _ _
      cases (c == Value.type "enumerate") <;> (wp_walk using AutoSeq1.wpAny_loadPart' hl, wpAny_pyIter_tuple hT) <;> exact ⟨_, rfl, z⟩
    · wp_walk using AutoSeq1.wpAny_loadPart' hl, wpAny_pyIter_tuple hT
      exact ⟨_, rfl, z⟩
section
variable {prog : Program} {w : World} {A : Around} {E : Value → Shared → Prop} {s : Shared}
theorem enum_tup_call {l : Addr} {items : Array Value} {Q : Value → Shared → Prop} (hL : s.heap.IsTuple l items)
    (q : ∀ g, IsEnum g (s.heap.objs.size + 1) s.heap.objs.size 0 .none → g.IsTupleIter s.heap.objs.size l 0 → (∀ b o, s.heap.get? b = some o → g.get? b = some o) → Q (.ref (s.heap.objs.size + 1)) { s with heap := g }) :
    wpAny (model prog w) A (call (.type "enumerate") [.ref l]) Q E s := by
  obtain ⟨⟨c, dct, dt, sl⟩, hl, hc, n, hd⟩ := hL
  simp only at hc hd
  subst hc hd
  have ez : (s.heap.push { cls := .type "tuple_iterator", data := .fields #[.ref l, .int 0 0] }).objs.size = s.heap.objs.size + 1 := Heap.size_push ..
  have he : ((s.heap.push { cls := .type "tuple_iterator", data := .fields #[.ref l, .int 0 0] }).push { cls := .type "enumerate", data := .fields #[.none, .bool false, .ref s.heap.objs.size, rawInt 0, .none, .none] }).get? (s.heap.objs.size + 1) = some { cls := .type "enumerate", data := .fields #[.none, .bool false, .ref s.heap.objs.size, rawInt 0, .none, .none] } := by
    have := Heap.get?_push_size (s.heap.push { cls := .type "tuple_iterator", data := .fields #[.ref l, .int 0 0] }) (o := { cls := .type "enumerate", data := .fields #[.none, .bool false, .ref s.heap.objs.size, rawInt 0, .none, .none] }) rfl
    rwa [ez] at this
  refine callType_new F.called_enumerate (by decide) (F.typeCall_enumerate_1 _) (F.newCall_enumerate_1 _) (fun obj => F.args_object_init_2 obj _) F.entry_enumerate_new (enum_tup_new l items n dct sl) ⟨hl, ?_⟩
  show _ ∧ _
  rw [ez]
  exact ⟨⟨_, he, rfl⟩, q _ he ⟨_, Heap.get?_push_of_some _ (Heap.get?_push_size _ rfl), rfl, rfl⟩ fun b o x => Heap.get?_push_of_some _ (Heap.get?_push_of_some _ x)⟩
end
def IteT (K : PySem.W.Frag) (a : Addr) : It :=
  ⟨fun i H => ∃ (xs : List V) (x : V), SqT K H a xs ∧ xs[i]? = some x, fun i H v H' => ∃ T x, v = .ref T ∧ H T = none ∧ H' = upd H T (.tup [.int (i : Nat), x]) ∧ ∀ xs, SqT K H a xs → xs[i]? = some x, fun i H => ∃ xs : List V, SqT K H a xs ∧ xs.length = i⟩
theorem turn_enumT {P : Program} {w : World} {K : PySem.W.Frag} {elts : List Expr} {kk : Nat} {tpos : Pos} (a e it : Addr) (ai : a ≠ it) (ae : e ≠ a) :
    Turn P w K (.Tuple elts kk tpos) (IteT K a) [e, it] e (fun i h => (∃ old, IsEnum h e it ((i : Nat) : Int) old) ∧ h.IsTupleIter it a i ∧ e ≠ it) where
  mem := by simp
  obj := fun i h st b hb => by
    obtain ⟨⟨old, he⟩, ⟨o, ho, hc, hd⟩, _⟩ := st
    rcases List.mem_cons.mp hb with z | z
    · rw [z]; exact ⟨_, he, fun v q => nomatch q⟩
    · rw [List.mem_singleton.mp z]; exact ⟨o, ho, fun v q => by rw [hd] at q; cases q⟩
  keep := fun i h h' st k => let ⟨⟨old, he⟩, hi, hne⟩ := st; ⟨⟨old, k e (by simp) _ he⟩, hi.at fun o q => k it (by simp) o q, hne⟩
  item := by
    intro X hP hw hK hc i pins s σ H E I hf st hg
    subst hP hw hK
    obtain ⟨⟨old, he⟩, hit, hne⟩ := st
    obtain ⟨xs, x, hq, hx⟩ := hg
    obtain ⟨its, rv, ⟨⟨cls, dd, data, sl⟩, ho, hcl, n, hd⟩, hs⟩ := I.tuple hq
    simp only at hcl hd
    subst hcl hd
    have hT : s.heap.IsTuple a its.toArray := ⟨_, ho, rfl, n, rfl⟩
    obtain ⟨u, hu, ru⟩ := rv.get hx
    have el := Heap.lt_size he
    have il : it < s.heap.objs.size := by obtain ⟨_, q, _⟩ := hit; exact Heap.lt_size q
    have D := Draws.tuple (prog := X.prog) (w := X.w) (A := X.A.in1) (I.ok.hd hc) it a ai its.toArray
    have hi2 : i < its.toArray.size := by
      rw [List.size_toArray]
      exact (List.getElem?_eq_some_iff.mp hu).1
    refine wpAny_pyNext_enum_itemD D he ⟨hit, hT⟩ hi2 hne (by simp [hne, ae]) fun y h' tk py ho' st' hT' hsz hk => ?_
    have ey : y = u := by
      have : its.toArray[i]? = some y := py
      simp at this
      rw [hu] at this
      cases this
      rfl
    subst ey
    refine ⟨_, rfl, wpAny_letOwnedTupleGo_enum (s := { s with heap := h', toks := tk + 1 }) ho' fun h2 he' sb => ?_⟩
    have h3 : h2.get? s.heap.objs.size = some { cls := .type "tuple", data := .seq #[.int i tk, y] } := (sb.2 _ (Nat.ne_of_gt el)).trans hT'
    have I1 : Inv X pins σ (upd H s.heap.objs.size (.tup [.int (i : Nat), x])) { s with heap := h2, toks := tk + 1 } :=
      I.turnedNew (ch := [e, it]) (fun b ob hb q => (sb.2 b (fun z => hb (by simp [z]))).trans (hk b ob (fun z => hb (by simp [z])) (fun z => hb (by simp [z])) q)) hf (Nat.le_refl _)
        ⟨by show 2 ≤ sizeLine; decide, [.int i tk, y], .cons ⟨_, rfl⟩ (.cons ru .nil), ⟨_, h3, rfl, _, rfl⟩⟩
    refine ⟨.ref s.heap.objs.size, _, I1, rfl, ⟨_, x, rfl, I.hok.fresh (Nat.le_refl _), rfl, fun ys hy => ?_⟩, ⟨⟨y, ?_⟩, st'.1.at fun o q => (sb.2 it (Ne.symm hne)).trans q, hne⟩, fun b hb => ?_⟩
    · rw [I.tuple_inj hy hq]; exact hx
    · have e1 : ((i + 1 : Nat) : Int) = (i : Int) + 1 := by omega
      rw [e1]; exact he'
    · have lb : b < s.heap.objs.size := by
        rcases List.mem_cons.mp hb with z | z
        · rw [z]; exact el
        · rw [List.mem_singleton.mp z]; exact il
      rw [upd_ne (Nat.ne_of_lt lb)]
      exact (hf b hb).1
  done := by
    intro X hP hw hK hc i pins s σ H E I hf st hg
    subst hP hw hK
    obtain ⟨⟨old, he⟩, hit, hne⟩ := st
    obtain ⟨xs, hq, hx⟩ := hg
    obtain ⟨its, rv, ⟨⟨cls, dd, data, sl⟩, ho, hcl, n, hd⟩, hs⟩ := I.tuple hq
    simp only at hcl hd
    subst hcl hd
    have hT : s.heap.IsTuple a its.toArray := ⟨_, ho, rfl, n, rfl⟩
    have D := Draws.tuple (prog := X.prog) (w := X.w) (A := X.A.in1) (I.ok.hd hc) it a ai its.toArray
    have en : its.toArray.size = i := by rw [List.size_toArray, ← rv.length]; exact hx
    obtain ⟨f0, f1, f2, f3, f4, f5⟩ := hf it (by simp)
    refine wpAny_pyNext_enum_endD D he (by rw [en]; exact ⟨hit, hT⟩) fun h' eb => ⟨rfl, I.turned (t' := s.toks) (fun b o hb q => eb b o hb q) f0 f1 f3 f4 f5⟩
  self := fun A i s Q E st h => let ⟨⟨_, he⟩, _⟩ := st; wpAny_pyIter_enum he h

def iEnumA (K : PySem.W.Frag) (ta : TE) : TI := fun σ H R => ta σ H fun v H1 => ∃ a xs, v = .ref a ∧ ((SqL K H1 a xs ∧ R (Ite K a) H1) ∨ (SqT K H1 a xs ∧ R (IteT K a) H1))
section
variable {X : Cx} {C : Ctx} {W : WX} {e b tg : Expr} {ma mb mk : Env → Res D} {pos p : Pos} {k : Nat}
theorem pi_enumA {ta : TE} {tpos : Pos} {elts : List Expr} {kk : Nat} (hg : Gl X "enumerate") (hm : X.mg "enumerate" = none) (ha : PE X e ta) (hs : starEach [e] X.env = (false, eval e X.env) :: starEach [] X.env := by rfl) :
    PI X (.Tuple elts kk tpos) (.Call (.Name "enumerate" p) [e] [] pos) (iEnumA X.K ta) := by
  refine ⟨fun pins s σ H R I h => ?_⟩
  refine Call_ (ld_blt I hg hm boot_enumerate (PyProof.Rows.callWith_type1 (args_cons (thn (ha.run pins s σ H _ I h) fun u s1 ⟨v, H1, I1, r1, q1⟩ => args_nil ?_) hs) hs rfl))
  obtain ⟨a, xs, ev, q⟩ := q1
  subst ev
  cases r1
  have lo : ∀ b ∈ [s1.heap.objs.size + 1, s1.heap.objs.size], FpOk X pins H1 b := fun b hb => by
    have le : s1.heap.objs.size ≤ b := by
      rcases List.mem_cons.mp hb with z | z
      · rw [z]; exact Nat.le_add_right _ _
      · rw [List.mem_singleton.mp z]; exact Nat.le_refl _
    exact I1.fpOk le (I1.hok.fresh le)
  rcases q with ⟨hq, q⟩ | ⟨hq, q⟩
  · obtain ⟨its, rv, p', hz⟩ := I1.list hq
    refine call_enumerate_list p'.isList fun h' he hit hsz hk => wpAny_pyIter_enum he ?_
    exact ⟨s1.heap.objs.size + 1, [s1.heap.objs.size + 1, s1.heap.objs.size], _, _, H1, rfl, I1.kept (t' := s1.toks) hk, turn_enum a (s1.heap.objs.size + 1) s1.heap.objs.size, ⟨⟨.none, he⟩, hit, Nat.succ_ne_self _⟩, lo, q⟩
  · obtain ⟨its, rv, ⟨⟨cls, dd, data, sl⟩, ho, hcl, n, hd⟩, hs'⟩ := I1.tuple hq
    simp only at hcl hd
    subst hcl hd
    have la := Heap.lt_size ho
    refine enum_tup_call ⟨_, ho, rfl, n, rfl⟩ fun h' he hit hk => wpAny_pyIter_enum he ?_
    exact ⟨s1.heap.objs.size + 1, [s1.heap.objs.size + 1, s1.heap.objs.size], _, _, H1, rfl, I1.kept (t' := s1.toks) hk, turn_enumT a (s1.heap.objs.size + 1) s1.heap.objs.size (Nat.ne_of_lt la) (fun z => Nat.not_lt_of_le (Nat.le_succ _) (show s1.heap.objs.size + 1 < s1.heap.objs.size by rw [z]; exact la)), ⟨⟨.none, he⟩, hit, Nat.succ_ne_self _⟩, lo, q⟩
theorem it_enumT {K : PySem.W.Frag} {F : Addr → Prop} {H : Hp} {a : Addr} {xs : List V} {ds : List D} (h1 : (¬ F a ∧ Rd H a (.tup xs)) ∨ SqTK K a xs) (s1 : ShA K F H xs ds) : ItOk K F H (IteT K a) (ds.zipIdx.map fun p => .tuple [.int (p.2 : Nat), p.1]) := by
  intro F' H' t tr
  have g1 := t.tup h1
  refine ⟨⟨xs, g1, ?_⟩, fun i d e => ?_⟩
  · rw [List.length_map, List.length_zipIdx, s1.length]
  · rw [List.getElem?_map, List.getElem?_zipIdx, Option.map_map, Option.map_eq_some_iff] at e
    obtain ⟨da, e1, rfl⟩ := e
    obtain ⟨x, ex, sx⟩ := s1.get e1
    refine ⟨⟨xs, x, g1, ex⟩, fun v H2 ⟨T, x', ev, hT, eH, k1⟩ => ?_⟩
    subst ev eH
    have q1 := k1 xs g1
    rw [ex] at q1
    cases q1
    have := pair_new t tr hT (.int (i : Int)) sx
    simpa using this
def enumA : D → Option (List D)
  | .list xs => some (xs.zipIdx.map fun p => .tuple [.int (p.2 : Nat), p.1])
  | .tuple xs => some (xs.zipIdx.map fun p => .tuple [.int (p.2 : Nat), p.1])
  | _ => none
def eEnumA (m : Env → Res D) : Env → Res (List D) := fun ρ => bindR (m ρ) fun d ρ1 => optR (enumA d) ρ1
theorem ji_enumA {elts : List Expr} {kk : Nat} {tpos : Pos} (hm : X.mg "enumerate" = none) (ha : JV X C W e ma) (hg : Gl X "enumerate") (hs : starEach [e] X.env = (false, eval e X.env) :: starEach [] X.env := by rfl) :
    JI X C W (.Tuple elts kk tpos) (.Call (.Name "enumerate" p) [e] [] pos) (eEnumA ma) := PI.imp (pi_enumA hg hm ha hs) fun σ H Q ⟨ρ, o, S, h⟩ => by
  obtain ⟨ρ0, o0, S0, h0⟩ := stepI (Rl := Sh X.K) S h
  refine ⟨ρ0, o0, S0, h0.imp (fun d ρ1 z v H1 o1 S1 t1 s1 => ?_) fun _ _ z => z⟩
  obtain ⟨ρ1', o1', d', S1', T1, s1', q1⟩ := z v H1 o1 S1 t1 s1
  cases s1' with
  | lst r1 s2 => exact ⟨_, _, rfl, .inl ⟨r1.elim (fun z => .inl z.2) .inr, q1 _ H1 o1' S1' (.refl _ _) (it_enum r1 s2)⟩⟩
  | tup r1 s2 => exact ⟨_, _, rfl, .inr ⟨r1.elim (fun z => .inl z.2) .inr, q1 _ H1 o1' S1' (.refl _ _) (it_enumT r1 s2)⟩⟩
  | _ => exact q1.elim

/-! ### the order of data -/
def cmpOk (x y : D) : Bool := alike x y && (!isNon x && (PyData.canLay0 x && (PyData.canLay0 y && decide (min x.depth y.depth ≤ 32))))
def fLtX (x y : D) : Option R := if cmpOk x y = true then some (.val (.bool (dataLt x y))) else none
def fLeX (x y : D) : Option R := if cmpOk x y = true then some (.val (.bool (!dataLt y x))) else none
def fGtX (x y : D) : Option R := if cmpOk x y = true then some (.val (.bool (dataLt y x))) else none
def fGeX (x y : D) : Option R := if cmpOk x y = true then some (.val (.bool (!dataLt x y))) else none
theorem cmp_reads {pins : List (Addr × Obj)} {s : Shared} {σ : L2.St} {H : Hp} {F : Addr → Prop} {x y : V} {u v : Value} {d e : D} (I : Inv X pins σ H s) (ru : RelV x u) (rv : RelV y v) (hu : X.A.units + 64 < cLine) (sx : Sh X.K F H x d) (sy : Sh X.K F H y e) (h : cmpOk d e = true) :
    ∃ as bs, Reads s.heap u d as ∧ Reads s.heap v e bs ∧ alike d e = true ∧ d ≠ .none ∧ X.A.units + min d.depth e.depth < cLine := by
  unfold cmpOk at h
  simp only [Bool.and_eq_true, Bool.not_eq_true', decide_eq_true_eq] at h
  obtain ⟨h1, h2, h3, h4, h5⟩ := h
  obtain ⟨as, r1⟩ := Dp.reads I d x u (sx.noD _ _ h3) ru
  obtain ⟨bs, r2⟩ := Dp.reads I e y v (sy.noD _ _ h4) rv
  refine ⟨as, bs, r1, r2, h1, ?_, by omega⟩
  intro z
  rw [z] at h2
  cases h2
theorem od_ltX (hu : X.A.units + 64 < cLine) : OpR X (compareOp .Lt) (rD2 X.K fLtX) := by
  intro pins s σ H x y v u Q I rx ry h
  obtain ⟨F, d, e, r, tr, sx, sy, er, q⟩ := h
  unfold fLtX at er
  split at er
  · rename_i hm
    cases er
    obtain ⟨as, bs, r1, r2, h1, h2, h3⟩ := cmp_reads I rx ry hu sx sy hm
    exact lt_data r1 r2 h1 h2 h3 ⟨.bl _, H, I, rfl, q _ _ (.refl H) (.bl _)⟩
  · cases er
theorem od_leX (hu : X.A.units + 64 < cLine) : OpR X (compareOp .LtE) (rD2 X.K fLeX) := by
  intro pins s σ H x y v u Q I rx ry h
  obtain ⟨F, d, e, r, tr, sx, sy, er, q⟩ := h
  unfold fLeX at er
  split at er
  · rename_i hm
    cases er
    obtain ⟨as, bs, r1, r2, h1, h2, h3⟩ := cmp_reads I rx ry hu sx sy hm
    exact le_data r1 r2 h1 h2 h3 ⟨.bl _, H, I, rfl, q _ _ (.refl H) (.bl _)⟩
  · cases er
theorem od_gtX (hu : X.A.units + 64 < cLine) : OpR X (compareOp .Gt) (rD2 X.K fGtX) := by
  intro pins s σ H x y v u Q I rx ry h
  obtain ⟨F, d, e, r, tr, sx, sy, er, q⟩ := h
  unfold fGtX at er
  split at er
  · rename_i hm
    cases er
    obtain ⟨as, bs, r1, r2, h1, h2, h3⟩ := cmp_reads I rx ry hu sx sy hm
    exact gt_data r1 r2 h1 h2 h3 ⟨.bl _, H, I, rfl, q _ _ (.refl H) (.bl _)⟩
  · cases er
theorem od_geX (hu : X.A.units + 64 < cLine) : OpR X (compareOp .GtE) (rD2 X.K fGeX) := by
  intro pins s σ H x y v u Q I rx ry h
  obtain ⟨F, d, e, r, tr, sx, sy, er, q⟩ := h
  unfold fGeX at er
  split at er
  · rename_i hm
    cases er
    obtain ⟨as, bs, r1, r2, h1, h2, h3⟩ := cmp_reads I rx ry hu sx sy hm
    exact ge_data r1 r2 h1 h2 h3 ⟨.bl _, H, I, rfl, q _ _ (.refl H) (.bl _)⟩
  · cases er

/-! ### sorted(xs) -/
def isTupC : D → Bool
  | .tuple (_ :: _) => true
  | _ => false
def sortOk (ds : List D) : Bool := (ds.all fun d => ds.all fun e => alike d e) && ((ds.all isTupC || ds.all fun d => !isNon d && !isTup d) && (ds.all fun d => PyData.canLay0 d && decide (d.depth ≤ 32)))
def srt (ds : List D) : List D := ds.mergeSort (dataLe false id)
def fSorted : D → Option R
  | .list ds => if sortOk ds = true ∧ ds.length ≤ 16777216 then some (.fresh (.lst (srt ds))) else none
  | _ => none
theorem sortOk_parts {ds : List D} (h : sortOk ds = true) : AllAlike (ds.map id) ∧ Sortable (ds.map id) ∧ ∀ d ∈ ds, PyData.canLay0 d = true ∧ d.depth ≤ 32 := by
  unfold sortOk at h
  simp only [Bool.and_eq_true, Bool.or_eq_true, List.all_eq_true, decide_eq_true_eq, Bool.not_eq_true'] at h
  obtain ⟨h1, h2, h3⟩ := h
  rw [List.map_id]
  refine ⟨fun d hd e he => h1 d hd e he, ?_, h3⟩
  rcases h2 with h2 | h2
  · refine .inl fun d hd => ?_
    have := h2 d hd
    unfold isTupC at this
    split at this
    · exact ⟨_, _, rfl⟩
    · cases this
  · refine .inr fun d hd => ?_
    have := h2 d hd
    exact ⟨fun z => by subst z; simp [isNon] at this, fun xs z => by subst z; simp [isTup] at this⟩
theorem each_of {K : PySem.W.Frag} {F : Addr → Prop} {H : Hp} : ∀ {xs : List V} {us : List Value} {ds : List D}, Vals xs us → ShA K F H xs ds → EachIs (fun u d => ∃ x, RelV x u ∧ Sh K F H x d) us ds
  | _, _, _, .nil, .nil => .nil
  | _, _, _, .cons r rs, .cons h s => .cons ⟨_, r, h⟩ (each_of rs s)
theorem of_each {K : PySem.W.Frag} {F : Addr → Prop} {H : Hp} : ∀ {us : List Value} {ds : List D}, EachIs (fun u d => ∃ x, RelV x u ∧ Sh K F H x d) us ds → ∃ xs, Vals xs us ∧ ShA K F H xs ds
  | _, _, .nil => ⟨[], .nil, .nil⟩
  | _, _, .cons ⟨x, r, h⟩ t => let ⟨xs, a, b⟩ := of_each t; ⟨x :: xs, .cons r a, .cons h b⟩
theorem each_ready {pins : List (Addr × Obj)} {s : Shared} {σ : L2.St} {H : Hp} {F : Addr → Prop} (I : Inv X pins σ H s) : ∀ {us : List Value} {ds : List D}, (∀ d ∈ ds, PyData.canLay0 d = true) → EachIs (fun u d => ∃ x, RelV x u ∧ Sh X.K F H x d) us ds → EachIs (fun u d => ∃ as, Reads s.heap u (id d) as) us ds
  | _, _, _, .nil => .nil
  | _, d :: ds, h, .cons ⟨x, r, sh⟩ t => .cons (Dp.reads I d x _ (sh.noD _ _ (h d (List.mem_cons_self ..))) r) (each_ready I (fun e he => h e (List.mem_cons_of_mem _ he)) t)
theorem cr_sortedX (hu : X.A.units + 64 < cLine) : CallR X (.builtin "sorted") (rP1 X.K fSorted) := by
  intro pins s σ H xs us Q I r h
  obtain ⟨x, F, d, rr, rfl, tr, sx, er, q⟩ := h
  unfold fSorted at er
  split at er
  · split at er
    · rename_i ds hok
      cases er
      obtain ⟨a, ys, rfl, ra, sa⟩ := sx
      obtain ⟨its, rv, hl, hz⟩ := I.list ra
      rw [Vals.ref1 r]
      obtain ⟨p1, p2, p3⟩ := sortOk_parts hok.1
      have e1 := each_of rv sa
      refine sorted_data (R := fun u d => ∃ x, RelV x u ∧ Sh X.K F H x d) (enc := id) hl.isList e1 (each_ready I (fun d hd => (p3 d hd).1) e1) p1 p2 (line_of hok.2) (fun d hd => by have := (p3 d hd).2; show X.A.units + 2 + d.depth < cLine; omega) fun out hlen eo => ?_
      obtain ⟨zs, z1, z2⟩ := of_each eo
      obtain ⟨ep, hat⟩ := PyProof.Rows.sortedAll_at s.heap its (List.toArray out)
      have hzl : zs.length ≤ sizeLine := by rw [z1.length, hlen]; exact line_of hok.2
      have hn : H (s.heap.objs.size + 1) = none := I.hok.fresh (Nat.le_succ _)
      exact ⟨.ref _, upd H (s.heap.objs.size + 1) (.lst zs), I.laid (t' := s.toks) (fun _ _ => PyProof.Rows.sortedAll_old) (Nat.le_succ _) ⟨hzl, _, ep, z1, by simpa using hat⟩, rfl, new_lst tr z2 q _ hn⟩
    · cases er
  · cases er

/-! ### divmod -/
def fDivmod : List D → Option R
  | [.int i, .int j] => if 0 < j ∧ Builtin.divisionGoesByPylong i j = false then some (.val (.tuple [.int (i / j), .int (i % j)])) else none
  | _ => none
theorem cr_divmodX : CallR X (.builtin "divmod") (rDn X.K fDivmod) := by
  intro pins s σ H xs us Q I r h
  obtain ⟨F, ds, rr, tr, sx, er, q⟩ := h
  unfold fDivmod at er
  split at er
  · split at er
    · rename_i hc
      cases er
      rw [sh2 sx] at r
      exact call_divmodW pins s σ H _ us Q I r ⟨_, _, rfl, hc, new_tup tr (.cons (.int _) (.cons (.int _) .nil)) q⟩
    · cases er
  · cases er

/-! ### xs[k] += e, x += e -/
def fAddI : D → D → Option R
  | .int i, .int j => some (.val (.int (i + j)))
  | _, _ => none
def fSubI : D → D → Option R
  | .int i, .int j => some (.val (.int (i - j)))
  | _, _ => none
theorem pi_addI : PIp X .Add (rD2 X.K fAddI) := by
  intro pins s σ H x y v u Q I rx ry h
  obtain ⟨F, d, e, r, tr, sx, sy, er, q⟩ := h
  unfold fAddI at er
  split at er
  · cases er
    rw [sx.ofInt] at rx
    rw [sy.ofInt] at ry
    exact ip_add pins s σ H _ _ v u Q I rx ry ⟨_, _, rfl, rfl, q _ _ (.refl H) (.int _)⟩
  · cases er
theorem pi_subI : PIp X .Sub (rD2 X.K fSubI) := by
  intro pins s σ H x y v u Q I rx ry h
  obtain ⟨F, d, e, r, tr, sx, sy, er, q⟩ := h
  unfold fSubI at er
  split at er
  · cases er
    rw [sx.ofInt] at rx
    rw [sy.ofInt] at ry
    exact ip_sub pins s σ H _ _ v u Q I rx ry ⟨_, _, rfl, rfl, q _ _ (.refl H) (.int _)⟩
  · cases er
theorem pget_list : PGet X (fun o i H Q => ∃ a xs k x, o = V.ref a ∧ i = V.int k ∧ SqL X.K H a xs ∧ 0 ≤ k ∧ xs[k.toNat]? = some x ∧ Q x H) := by
  intro pins s σ H o i ov iv Q I ro ri h
  obtain ⟨a, xs, k, x, rfl, rfl, hq, h0, hx, q⟩ := h
  cases ro
  obtain ⟨t, rfl⟩ := ri
  obtain ⟨its, r, pl, hz⟩ := I.list hq
  obtain ⟨u, eu, ru⟩ := r.get hx
  have hn := line63
  have hl := r.length
  have hi := (List.getElem?_eq_some_iff.mp hx).1
  exact wpAny_getItem_list pl.isList h0 (by omega) (by simpa using eu) ⟨x, H, I, ru, q⟩
def sAugL (i : Nat) (mk : Env → Res D) (f : D → D → Option R) (me : Env → Res D) : Env → SR := fun ρ => match lstAt (gS ρ i) with
  | none => .bad
  | some _ => bindRS (mk ρ) fun k ρ1 => match lstAt (gS ρ1 i), k with
    | some xs, .int n => if 0 ≤ n then match xs[n.toNat]? with
        | some x => bindRS (me ρ1) fun y ρ2 => match f x y, lstAt (gS ρ2 i) with
          | some (.val z), some ys => if n < ys.length then .nx (sS ρ2 i (lstTo (gS ρ2 i) (ys.set n.toNat z))) else .bad
          | _, _ => .bad
        | none => .bad
      else .bad
    | _, _ => .bad
theorem js_augL {op : Operator} {i : Nat} {tpos : Pos} {kx : Expr} {f : D → D → Option R} (ho : PE X b (tVar i)) (hk : JV X C W kx mk) (he : JV X C W e ma) (hp : PIp X op (rD2 X.K f))
    (hs : ∀ ov iv new, augStore kx ov iv new = (do holding [new, ov, iv] (setItem ov iv new); release [new, ov, iv] []; pure .next) := by intros; rfl) :
    JS X C W (.AugAssign (.Subscript b kx tpos) op e pos) (sAugL i mk f ma) := PS.imp (ps_augS ho hk pget_list he hp set_list hs) fun D σ H ⟨ρ, o, S, h⟩ => by
  unfold sAugL at h
  cases g : lstAt (gS ρ i) with
  | none => simp only [g] at h; exact h.elim
  | some xs0 =>
    simp only [g] at h
    obtain ⟨a, vs, ea, eo, eH, sh, hl⟩ := lst_at S g
    refine ⟨.ref a, ea, ?_⟩
    obtain ⟨ρ0, o0, S0, h0⟩ := stepS (Rl := Sh X.K) S h
    refine ⟨ρ0, o0, S0, h0.imp (fun d ρ1 z v H1 o1 S1 t1 s1 => ?_) fun _ _ z => z⟩
    obtain ⟨ρ1', o1', d', S1', T1, s1', q1⟩ := z v H1 o1 S1 t1 s1
    cases g1 : lstAt (gS ρ1' i) with
    | none => simp only [g1] at q1; exact q1.elim
    | some xs =>
      cases d' with
      | int n =>
        simp only [g1] at q1
        split at q1
        · rename_i h0n
          cases ex : xs[n.toNat]? with
          | none => simp only [ex] at q1; exact q1.elim
          | some x =>
            simp only [ex] at q1
            obtain ⟨a1, vs1, ea1, eo1, eH1, sh1, hl1⟩ := lst_at S1' g1
            rw [ea] at ea1
            cases ea1
            obtain ⟨xv, exv, sxv⟩ := sh1.get ex
            refine ⟨a, vs1, n, xv, rfl, s1'.ofInt, .inl (.inl eH1), h0n, exv, ?_⟩
            obtain ⟨ρ2, o2, S2, h2⟩ := stepS (Rl := Sh X.K) S1' q1
            refine ⟨ρ2, o2, S2, h2.imp (fun d2 ρ3 z2 v2 H2 o3 S3 t3 s3 => ?_) fun _ _ z => z⟩
            obtain ⟨ρ4, o4, d4, S4, T4, s4, q4⟩ := z2 v2 H2 o3 S3 t3 s3
            cases ef : f x d4 with
            | none => simp only [ef] at q4; exact q4.elim
            | some r =>
              cases r with
              | fresh c => simp only [ef] at q4; exact q4.elim
              | val z =>
                cases g4 : lstAt (gS ρ4 i) with
                | none => simp only [ef, g4] at q4; exact q4.elim
                | some ys =>
                  simp only [ef, g4] at q4
                  split at q4
                  · rename_i hlt
                    refine ⟨FF C.B o4, x, d4, .val z, S4.tr, sxv.tx T4, s4, ef, fun vz Hz sm shz => ?_⟩
                    have S5 := S4.keep sm
                    obtain ⟨a2, vs2, ea2, eo2, eH2, sh2, hl2⟩ := lst_at S5 g4
                    rw [ea] at ea2
                    cases ea2
                    obtain ⟨S6, t6⟩ := lst_wr (ws := vs2.set n.toNat vz) S5 g4 ea (ShA.set shz n.toNat sh2)
                    exact ⟨a, vs2, n, n.toNat, rfl, s1'.ofInt, eH2, by unfold ixN; rw [if_pos h0n, sh2.length, if_pos hlt], q4 σ _ o4 S6 ((Tx.same sm).trans t6)⟩
                  · exact q4.elim
        · exact q1.elim
      | _ => simp only [g1] at q1; exact q1.elim
/-- x += e -/
def sAugN (i : Nat) (f : D → D → Option R) (me : Env → Res D) : Env → SR := fun ρ => match gS ρ i with
  | .val x => bindRS (me ρ) fun y ρ1 => match gS ρ1 i, f x y with
    | .val _, some (.val z) => .nx (sS ρ1 i (.val z))
    | _, _ => .bad
  | _ => .bad
theorem js_augN {op : Operator} {i : Nat} {x : Str} {pos' : Pos} {f : D → D → Option R} (hN : X.N.Nodup) (hi : X.N[i]? = some x) (hx : Loc X.env.scope x) (he : JV X C W e ma) (ho : PIp X op (rD2 X.K f)) (hf : X.fn x = true ∨ X.env.scope.names.lookup x = some .local := by first | exact .inl rfl | exact .inr rfl) :
    JS X C W (.AugAssign (.Name x pos') op e pos) (sAugN i f ma) := PS.imp (ps_aug hN hi hx he ho hf) fun D σ H ⟨ρ, o, S, h⟩ => by
  unfold sAugN at h
  have z0 := S.slot i
  cases g : gS ρ i with
  | emp => rw [g] at h; exact h.elim
  | own c => rw [g] at h; exact h.elim
  | bor c => rw [g] at h; exact h.elim
  | val d =>
    rw [g] at h z0
    obtain ⟨_, xv, exv, sxv⟩ := z0
    refine ⟨xv, exv, ?_⟩
    obtain ⟨ρ0, o0, S0, h0⟩ := stepS (Rl := Sh X.K) S h
    refine ⟨ρ0, o0, S0, h0.imp (fun d2 ρ1 z v H1 o1 S1 t1 s1 => ?_) fun _ _ z => z⟩
    obtain ⟨ρ1', o1', d', S1', T1, s1', q1⟩ := z v H1 o1 S1 t1 s1
    cases g1 : gS ρ1' i with
    | val d3 =>
      cases ef : f d d' with
      | none => simp only [g1, ef] at q1; exact q1.elim
      | some r =>
        cases r with
        | fresh c => simp only [g1, ef] at q1; exact q1.elim
        | val zz =>
          simp only [g1, ef] at q1
          refine ⟨FF C.B o1', d, d', .val zz, S1'.tr, sxv.tx T1, s1', ef, fun vz Hz sm shz => ?_⟩
          have S2 := S1'.keep sm
          have hl : i < ρ1'.length := by
            by_cases hl : i < ρ1'.length
            · exact hl
            · rw [gS_out (by omega)] at g1; cases g1
          exact q1 _ Hz _ (S2.setV shz) ((Tx.same sm).trans (.less FF.drop))
    | _ => simp only [g1] at q1; exact q1.elim

/-! ### min(xs), max(xs) of data -/
def mmOk (ds : List D) : Bool := (ds.all fun d => ds.all fun e => alike d e) && ((ds.all fun d => !isNon d) && (ds.all fun d => PyData.canLay0 d && decide (d.depth ≤ 32)))
def fMinX : D → Option R
  | .list (x :: xs) => if mmOk (x :: xs) = true then some (.val (minD x xs)) else none
  | _ => none
def fMaxX : D → Option R
  | .list (x :: xs) => if mmOk (x :: xs) = true then some (.val (maxD x xs)) else none
  | _ => none
theorem depth_all {k : Nat} : ∀ {ds : List D}, (∀ d ∈ ds, d.depth ≤ k) → PyData.depthAll ds ≤ k
  | [], _ => by simp [PyData.depthAll]
  | d :: ds, h => by
    have a := h d (List.mem_cons_self ..)
    have b := depth_all fun e he => h e (List.mem_cons_of_mem d he)
    simp [PyData.depthAll]
    omega
theorem mmOk_parts {ds : List D} (h : mmOk ds = true) : AlikeAll ds ∧ PyData.depthAll ds ≤ 32 ∧ ∀ d ∈ ds, PyData.canLay0 d = true := by
  unfold mmOk at h
  simp only [Bool.and_eq_true, List.all_eq_true, decide_eq_true_eq, Bool.not_eq_true'] at h
  obtain ⟨h1, h2, h3⟩ := h
  refine ⟨⟨fun x hx y hy => h1 x hx y hy, fun x hx z => ?_⟩, depth_all fun d hd => (h3 d hd).2, fun d hd => (h3 d hd).1⟩
  have := h2 x hx
  rw [z] at this
  cases this
theorem reads_all {pins : List (Addr × Obj)} {s : Shared} {σ : L2.St} {H : Hp} {F : Addr → Prop} (I : Inv X pins σ H s) : ∀ {xs : List V} {us : List Value} {ds : List D}, (∀ d ∈ ds, PyData.canLay0 d = true) → Vals xs us → ShA X.K F H xs ds → ∃ as, ReadsAll s.heap us ds as
  | _, _, _, _, .nil, .nil => ⟨[], .nil⟩
  | _, _, d :: ds, h, .cons r rs, .cons sh t => by
    obtain ⟨as, r1⟩ := Dp.reads I d _ _ (sh.noD _ _ (h d (List.mem_cons_self ..))) r
    obtain ⟨bs, r2⟩ := reads_all I (fun e he => h e (List.mem_cons_of_mem _ he)) rs t
    exact ⟨as ++ bs, .cons r1 r2⟩
theorem min_mem (x : D) (xs : List D) : minD x xs ∈ x :: xs := by
  unfold minD
  suffices h : ∀ (l : List D) (a : D), l.foldl (fun a y => if dataLt y a then y else a) a ∈ a :: l by exact h xs x
  intro l
  induction l with
  | nil => intro a; exact List.mem_cons_self ..
  | cons y l ih =>
    intro a
    rw [List.foldl_cons]
    have := ih (if dataLt y a then y else a)
    split at this <;> simp at this ⊢ <;> rcases this with h | h <;> simp_all
theorem max_mem (x : D) (xs : List D) : maxD x xs ∈ x :: xs := by
  unfold maxD
  suffices h : ∀ (l : List D) (a : D), l.foldl (fun a y => if dataLt a y then y else a) a ∈ a :: l by exact h xs x
  intro l
  induction l with
  | nil => intro a; exact List.mem_cons_self ..
  | cons y l ih =>
    intro a
    rw [List.foldl_cons]
    have := ih (if dataLt a y then y else a)
    split at this <;> simp at this ⊢ <;> rcases this with h | h <;> simp_all
theorem pick_sh {pins : List (Addr × Obj)} {s : Shared} {σ : L2.St} {H : Hp} {F : Addr → Prop} {ys : List V} {its : List Value} {ds : List D} {m : D} {v : Value} {i : Nat} {h' : Heap} {bs : List Addr} (I : Inv X pins σ H s) (rv : Vals ys its) (sa : ShA X.K F H ys ds) (hal : ∀ x ∈ ds, ∀ y ∈ ds, alike x y = true) (hc : ∀ d ∈ ds, PyData.canLay0 d = true) (hm : m ∈ ds)
    (hv : its[i]? = some v) (hr : Reads h' v m bs) (hk : ∀ b o, s.heap.get? b = some o → h'.get? b = some o) : ∃ y, RelV y v ∧ Sh X.K F H y m := by
  have hi : i < ys.length := by rw [rv.length]; exact (List.getElem?_eq_some_iff.mp hv).1
  obtain ⟨u, eu, ru⟩ := rv.get (List.getElem?_eq_getElem hi)
  rw [hv] at eu
  cases eu
  obtain ⟨d, ed, sd⟩ := sa.get' (List.getElem?_eq_getElem hi)
  have hd := List.mem_of_getElem? ed
  obtain ⟨as, r1⟩ := Dp.reads I d _ _ (sd.noD _ _ (hc d hd)) ru
  have e := alike_unique d m _ as bs (hal d hd m hm) (PyProof.Rows.Reads.keeps hk r1) hr
  subst e
  exact ⟨_, ru, sd⟩
theorem cr_minX (hc : X.calm = true) (hu : X.A.units + 64 < cLine) : CallR X (.builtin "min") (rP1 X.K fMinX) := by
  intro pins s σ H xs us Q I r h
  obtain ⟨x, F, d, rr, rfl, tr, sx, er, q⟩ := h
  unfold fMinX at er
  split at er
  · split at er
    · rename_i y ds hok
      cases er
      obtain ⟨a, ys, rfl, ra, sa⟩ := sx
      obtain ⟨its, rv, hl, hz⟩ := I.list ra
      rw [Vals.ref1 r]
      obtain ⟨p1, p2, p3⟩ := mmOk_parts hok
      obtain ⟨as, hr⟩ := reads_all I p3 rv sa
      refine min_list_data (I.ok.hd hc) hl.isList (by simpa using hr) p1 (by omega) fun i v h' tk bs hv hrd hk => ?_
      obtain ⟨w, rw', sw⟩ := pick_sh I rv sa p1.1 p3 (min_mem y ds) (by simpa using hv) hrd hk
      exact ⟨w, H, I.kept hk, rw', q _ _ (.refl H) sw⟩
    · cases er
  · cases er
theorem cr_maxX (hc : X.calm = true) (hu : X.A.units + 64 < cLine) : CallR X (.builtin "max") (rP1 X.K fMaxX) := by
  intro pins s σ H xs us Q I r h
  obtain ⟨x, F, d, rr, rfl, tr, sx, er, q⟩ := h
  unfold fMaxX at er
  split at er
  · split at er
    · rename_i y ds hok
      cases er
      obtain ⟨a, ys, rfl, ra, sa⟩ := sx
      obtain ⟨its, rv, hl, hz⟩ := I.list ra
      rw [Vals.ref1 r]
      obtain ⟨p1, p2, p3⟩ := mmOk_parts hok
      obtain ⟨as, hr⟩ := reads_all I p3 rv sa
      refine max_list_data (I.ok.hd hc) hl.isList (by simpa using hr) p1 (by omega) fun i v h' tk bs hv hrd hk => ?_
      obtain ⟨w, rw', sw⟩ := pick_sh I rv sa p1.1 p3 (max_mem y ds) (by simpa using hv) hrd hk
      exact ⟨w, H, I.kept hk, rw', q _ _ (.refl H) sw⟩
    · cases er
  · cases er

/-! ### x is True, x is False -/
def fIsB : D → D → Option R
  | .bool a, .bool b => some (.val (.bool (decide (a = b))))
  | _, _ => none
def fIsNotB : D → D → Option R
  | .bool a, .bool b => some (.val (.bool (!decide (a = b))))
  | _, _ => none
theorem od_isB : OpR X (compareOp .Is) (rD2 X.K fIsB) := by
  intro pins s σ H x y v u Q I rx ry h
  obtain ⟨F, d, e, r, tr, sx, sy, er, q⟩ := h
  unfold fIsB at er
  split at er
  · cases er
    rw [sx.ofBool] at rx
    rw [sy.ofBool] at ry
    exact op_isBl pins s σ H _ _ v u Q I rx ry ⟨_, _, rfl, rfl, q _ _ (.refl H) (.bl _)⟩
  · cases er
theorem od_isnotB : OpR X (compareOp .IsNot) (rD2 X.K fIsNotB) := by
  intro pins s σ H x y v u Q I rx ry h
  obtain ⟨F, d, e, r, tr, sx, sy, er, q⟩ := h
  unfold fIsNotB at er
  split at er
  · cases er
    rw [sx.ofBool] at rx
    rw [sy.ofBool] at ry
    exact op_notBl pins s σ H _ _ v u Q I rx ry ⟨_, _, rfl, rfl, q _ _ (.refl H) (.bl _)⟩
  · cases er
end
end Dn
set_option Elab.async false
set_option linter.all false
set_option maxRecDepth 100000
set_option maxHeartbeats 1000000
/-! Dn16: `in` with a name on the right that is read at once -/
namespace Dn
open PySem L2
def rP2 (K : PySem.W.Frag) (f : D → D → Option R) : R2 := fun x y H Q => ∃ F d e r, (∀ a, F a → H a ≠ none) ∧ Sh K F H x d ∧ Pk K F H y e ∧ f d e = some r ∧ NewOk K F H Q r
section
variable {X : Cx} {C : Ctx} {W : WX} {σ : St} {H : Hp} {a b e : Expr} {ma mb : Env → Res D} {pos : Pos} {f : D → D → Option R}
end
section
variable {X : Cx}
theorem od_inP : OpR X (compareOp .In) (rP2 X.K fIn) := by
  intro pins s σ H x y v u Q I rx ry h
  obtain ⟨F, d, e, r, tr, sx, sy, er, q⟩ := h
  unfold fIn at er
  rw [Option.map_eq_some_iff] at er
  obtain ⟨b, eb, rfl⟩ := er
  unfold fInB at eb
  split at eb
  · cases eb
    rw [sx.ofStr] at rx
    rw [Sh.ofStr sy] at ry
    exact op_in_str pins s σ H _ _ v u Q I rx ry ⟨_, _, rfl, rfl, q _ _ (.refl H) (.bl _)⟩
  · split at eb
    · rename_i hf
      cases eb
      obtain ⟨a, xs, rfl, ra, sa⟩ := sy
      refine op_in_seq pins s σ H _ _ v u Q I rx ry ⟨a, xs, rfl, .inl ra, by rw [flat_sh sx]; exact hf.1, by rw [flat_shA sa]; exact hf.2, ?_⟩
      rw [if_neg Bool.false_ne_true, inV_sh sx hf.1 sa hf.2]
      exact q _ _ (.refl H) (.bl _)
    · cases eb
  · split at eb
    · rename_i hf
      cases eb
      obtain ⟨a, xs, rfl, ra, sa⟩ := Sh.T sy
      refine op_in_seq pins s σ H _ _ v u Q I rx ry ⟨a, xs, rfl, .inr ra, by rw [flat_sh sx]; exact hf.1, by rw [flat_shA sa]; exact hf.2, ?_⟩
      rw [if_neg Bool.false_ne_true, inV_sh sx hf.1 sa hf.2]
      exact q _ _ (.refl H) (.bl _)
    · cases eb
  · cases eb
theorem od_notinP : OpR X (compareOp .NotIn) (rP2 X.K fNotIn) := by
  intro pins s σ H x y v u Q I rx ry h
  obtain ⟨F, d, e, r, tr, sx, sy, er, q⟩ := h
  unfold fNotIn at er
  rw [Option.map_eq_some_iff] at er
  obtain ⟨b, eb, rfl⟩ := er
  unfold fInB at eb
  split at eb
  · cases eb
    rw [sx.ofStr] at rx
    rw [Sh.ofStr sy] at ry
    exact op_notin_str pins s σ H _ _ v u Q I rx ry ⟨_, _, rfl, rfl, q _ _ (.refl H) (.bl _)⟩
  · split at eb
    · rename_i hf
      cases eb
      obtain ⟨a, xs, rfl, ra, sa⟩ := sy
      refine op_notIn_seq pins s σ H _ _ v u Q I rx ry ⟨a, xs, rfl, .inl ra, by rw [flat_sh sx]; exact hf.1, by rw [flat_shA sa]; exact hf.2, ?_⟩
      rw [if_pos rfl, inV_sh sx hf.1 sa hf.2]
      exact q _ _ (.refl H) (.bl _)
    · cases eb
  · split at eb
    · rename_i hf
      cases eb
      obtain ⟨a, xs, rfl, ra, sa⟩ := Sh.T sy
      refine op_notIn_seq pins s σ H _ _ v u Q I rx ry ⟨a, xs, rfl, .inr ra, by rw [flat_sh sx]; exact hf.1, by rw [flat_shA sa]; exact hf.2, ?_⟩
      rw [if_pos rfl, inV_sh sx hf.1 sa hf.2]
      exact q _ _ (.refl H) (.bl _)
    · cases eb
  · cases eb
end
section
variable {X : Cx} {C : Ctx} {W : WX} {σ : St} {H : Hp} {a b e : Expr} {ma mb : Env → Res D} {pos : Pos} {f : D → D → Option R}
theorem op2P_imp {o : Nat → List Addr} (ρ : Env) {Q : VK} (S : SRo X.K C o ρ σ H) (h : PoG (OkE X C o σ H Q) (ExP X C W o σ H) (eOp2 f ma mb ρ)) :
    tOp (rP2 X.K f) (tV X C W (Sh X.K) ma) (tV X C W (Pk X.K) mb) σ H Q := by
  obtain ⟨ρ0, o0, S0, h0⟩ := stepE (Rl := Sh X.K) S h
  refine ⟨ρ0, o0, S0, h0.imp (fun d ρ1 z v H1 o1 S1 t1 s1 => ?_) fun _ _ z => z⟩
  obtain ⟨ρ1', o1', d', S1', T1, s1', q1⟩ := z v H1 o1 S1 t1 s1
  obtain ⟨ρ2, o2, S2, h2⟩ := stepE (Rl := Pk X.K) S1' q1
  refine ⟨ρ2, o2, S2, h2.imp (fun d2 ρ3 z2 v2 H2 o3 S3 t3 s3 => ?_) fun _ _ z => z⟩
  obtain ⟨ρ4, o4, d4, S4, T4, s4, q4⟩ := z2 v2 H2 o3 S3 t3 s3
  obtain ⟨r, er, q⟩ := optE q4
  exact ⟨FF C.B o4, d', d4, r, S4.tr, s1'.tx T4, s4, er, newOk S4 q⟩
theorem je_cmpP {op : CmpOp} (ho : OpR X (compareOp op) (rP2 X.K f)) (ha : JV X C W a ma) (hb : JP X C W b mb) (hm : behindInMarks op b = false) : JE X C W (.Compare a [op] [b] pos) (eOp2 f ma mb) :=
  PE.imp (pe_cmpR ho ha hb hm) fun σ H Q ⟨ρ, o, S, h⟩ => op2P_imp ρ S h
theorem jt_cmpP {op : CmpOp} (ho : OpR X (compareOp op) (rP2 X.K f)) (ha : JV X C W a ma) (hb : JP X C W b mb) (hm : behindInMarks op b = false) : JT X C W (.Compare a [op] [b] pos) (tBoolD (eOp2 f ma mb)) :=
  PT.imp (pt_cmpR ho ha hb hm) fun σ H Q ⟨ρ, o, S, h⟩ => by
    obtain ⟨ρ0, o0, S0, h0⟩ := tB_imp S h
    exact op2P_imp ρ0 S0 h0
end
end Dn
set_option Elab.async false
set_option linter.all false
set_option maxRecDepth 100000
set_option maxHeartbeats 1000000
/-! Dn17: d[k], d.get(k, x), sorted(d) of texts, list(range(n)), try .. except X: return a constant -/
namespace Dn
open PySem L2 PySem.Spec PyProof.Rows
section
variable {X : Cx} {C : Ctx} {W : WX} {e b kx f : Expr} {ma mb mk mx : Env → Res D} {pos p p1 p2 apos tpos : Pos}
/-! ### d[k], d.get(k, x), d a name -/
def eDix (i : Nat) (mk : Env → Res D) : Env → Res R := fun ρ => bindR (ePk i ρ) fun _ _ => bindR (mk ρ) fun k ρ1 => bindR (ePk i ρ1) fun d ρ2 => match d, keyD k with
  | .dict ds, some q => match lookD ds q with
    | some v => .ok (.val v) ρ2
    | none => .bad
  | _, _ => .bad
theorem je_dix {i : Nat} (hu : X.A.units + 1 < cLine) (ho : PE X e (tVar i)) (hk : JV X C W kx mk) (hs : NoSl kx) : JE X C W (.Subscript e kx pos) (eDix i mk) := PE.imp (pe_dget hu ho hk hs) fun σ H Q ⟨ρ, o, S, h⟩ => by
  unfold eDix at h
  obtain ⟨w, hv, h⟩ := val_at S h
  refine ⟨w, hv, ?_⟩
  obtain ⟨ρ0, o0, S0, h0⟩ := stepE (Rl := Sh X.K) S h
  refine ⟨ρ0, o0, S0, h0.imp (fun d ρ1 z v H1 o1 S1 t1 s1 => ?_) fun _ _ z => z⟩
  obtain ⟨ρ1', o1', d', S1', T1, s1', q1⟩ := z v H1 o1 S1 t1 s1
  obtain ⟨dx, pk, q2⟩ := pk_at S1' hv q1
  cases dx with
  | dict ds =>
    cases ek : keyD d' with
    | none => simp only [ek] at q2; exact q2.elim
    | some q =>
      simp only [ek] at q2
      obtain ⟨a, kvs, rfl, r, s⟩ := pk
      rcases look_sh q s with ⟨h1, h2⟩ | ⟨vv, dd, h1, h2, h3⟩
      · simp only [h2] at q2; exact q2.elim
      · simp only [h2] at q2
        refine ⟨a, vv, rfl, ?_, newOk (r := .val dd) S1' q2 vv _ (.refl _) h3⟩
        have := DGet.r (k := q) r
        rw [h1] at this
        rw [key_sh s1' ek]
        exact this
  | _ => exact q2.elim
def eDget (i : Nat) (mk mx : Env → Res D) : Env → Res R := fun ρ => bindR (ePk i ρ) fun d0 _ => match d0 with
  | .dict _ => bindR (mk ρ) fun k ρ1 => bindR (mx ρ1) fun x ρ2 => bindR (ePk i ρ2) fun d ρ3 => match d, keyD k with
    | .dict ds, some q => match lookD ds q with
      | some v => .ok (.val v) ρ3
      | none => .ok (.val x) ρ3
    | _, _ => .bad
  | _ => .bad
theorem je_dget {i : Nat} (hu : X.A.units + 1 < cLine) (ho : PE X e (tVar i)) (hk : JV X C W kx mk) (hx : JV X C W f mx) (m : M2 X e "get" apos kx f pos) : JE X C W (.Call (.Attribute e "get" apos) [kx, f] [] pos) (eDget i mk mx) := PE.imp (pe_dget2 hu ho hk hx m) fun σ H Q ⟨ρ, o, S, h⟩ => by
  unfold eDget at h
  have hv : ∃ w, σ[i]? = some (some w) := by
    have z := S.slot i
    unfold ePk at h
    cases g : gS ρ i with
    | emp => rw [g] at h; exact h.elim
    | val d => rw [g] at z; exact ⟨_, z.2.choose_spec.1⟩
    | own c => rw [g] at z; exact ⟨_, z.choose_spec.1⟩
    | bor c => rw [g] at z; exact ⟨_, z.1⟩
  obtain ⟨w, hv⟩ := hv
  obtain ⟨d0, pk0, h⟩ := pk_at S hv h
  refine ⟨w, hv, ?_⟩
  cases d0 with
  | dict ds0 =>
    obtain ⟨a, kvs0, rfl, r0, s0⟩ := pk0
    refine ⟨a, rfl, .inl ⟨kvs0, r0⟩, ?_⟩
    obtain ⟨ρ0, o0, S0, h0⟩ := stepE (Rl := Sh X.K) S h
    refine ⟨ρ0, o0, S0, h0.imp (fun d ρ1 z v H1 o1 S1 t1 s1 => ?_) fun _ _ z => z⟩
    obtain ⟨ρ1', o1', d', S1', T1, s1', q1⟩ := z v H1 o1 S1 t1 s1
    obtain ⟨ρ2, o2, S2, h2⟩ := stepE (Rl := Sh X.K) S1' q1
    refine ⟨ρ2, o2, S2, h2.imp (fun d2 ρ3 z2 v2 H2 o3 S3 t3 s3 => ?_) fun _ _ z => z⟩
    obtain ⟨ρ4, o4, d4, S4, T4, s4, q4⟩ := z2 v2 H2 o3 S3 t3 s3
    obtain ⟨dx, pk, q5⟩ := pk_at S4 hv q4
    cases dx with
    | dict ds =>
      cases ek : keyD d' with
      | none => simp only [ek] at q5; exact q5.elim
      | some q =>
        simp only [ek] at q5
        obtain ⟨a', kvs, ea, r, s⟩ := pk
        cases ea
        have hg := DGet.r (k := q) r
        rcases look_sh q s with ⟨h1, h2⟩ | ⟨vv, dd, h1, h2, h3⟩
        · simp only [h2] at q5
          refine ⟨valV kvs q, by rw [key_sh s1' ek]; exact hg, ?_⟩
          rw [h1]
          exact newOk (r := .val d4) S4 q5 v2 _ (.refl _) s4
        · simp only [h2] at q5
          refine ⟨valV kvs q, by rw [key_sh s1' ek]; exact hg, ?_⟩
          rw [h1]
          exact newOk (r := .val dd) S4 q5 vv _ (.refl _) h3
    | _ => exact q5.elim
  | _ => exact h.elim
end
/-! ### sorted(d), the keys texts -/
def leS (a b : Str) : Bool := decide (a.cps.toList ≤ b.cps.toList)
def strKeys : List (D × D) → Option (List Str)
  | [] => some []
  | (.str x, _) :: r => (strKeys r).map (x :: ·)
  | _ => none
def fSortedD : D → Option R
  | .dict ds => (strKeys ds).bind fun ks => if ks.length < 64 then some (.fresh (.lst ((ks.mergeSort leS).map .str))) else none
  | _ => none
theorem rising_pw : ∀ (l : List Str) (p : Str), risingS p l = true → (p :: l).Pairwise (fun a b => leS a b = true)
  | [], p, _ => by simp
  | x :: r, p, h => by
    unfold risingS at h
    rw [Bool.and_eq_true, Bool.not_eq_true', ltCps_eq, decide_eq_false_iff_not, List.not_lt] at h
    have ih := rising_pw r x h.2
    refine List.pairwise_cons.mpr ⟨fun y hy => ?_, ih⟩
    rcases List.mem_cons.mp hy with rfl | hy
    · exact decide_eq_true h.1
    · have := of_decide_eq_true ((List.pairwise_cons.mp ih).1 y hy)
      exact decide_eq_true (List.le_trans h.1 this)
theorem sortedS_pw {l : List Str} (h : sortedS l = true) : l.Pairwise (fun a b => leS a b = true) := by
  cases l with
  | nil => exact .nil
  | cons x r => exact rising_pw r x h
theorem str_of_cps' {v w : Str} (h : v.cps.toList = w.cps.toList) : v = w := PySem.W.str_of_cps h
theorem sorted_is {ys ks : List Str} (hp : ys.Perm ks) (hs : sortedS ys = true) : ys = ks.mergeSort leS := by
  refine List.Perm.eq_of_pairwise (le := fun a b => leS a b = true) (fun a b _ _ h1 h2 => str_of_cps' (List.le_antisymm (of_decide_eq_true h1) (of_decide_eq_true h2))) (sortedS_pw hs) ?_ (hp.trans (List.mergeSort_perm ks leS).symm)
  exact List.pairwise_mergeSort (le := leS) (fun a b c h1 h2 => (decide_eq_true (List.le_trans (of_decide_eq_true h1) (of_decide_eq_true h2)) : leS a c = true)) (fun a b => by
    rw [Bool.or_eq_true]
    rcases List.le_total a.cps.toList b.cps.toList with h | h
    · exact .inl (decide_eq_true h : leS a b = true)
    · exact .inr (decide_eq_true h : leS b a = true)) ks
theorem strKeys_sh {K : PySem.W.Frag} {F : Addr → Prop} {H : Hp} : ∀ {vs : List (Key × V)} {ds : List (D × D)} {ks : List Str}, ShK K F H vs ds → strKeys ds = some ks → vs.map (·.1) = ks.map Sum.inr
  | _, _, ks, .nil, h => by cases h; rfl
  | (k', v) :: vs, (_, d) :: ds, ks, .cons h s, e => by
    cases k' with
    | inl i => cases e
    | inr x =>
      have e : (strKeys ds).map (x :: ·) = some ks := e
      cases g : strKeys ds with
      | none => rw [g] at e; cases e
      | some r =>
        rw [g] at e
        cases e
        rw [List.map_cons, List.map_cons, strKeys_sh s g]
theorem sh_strL {K : PySem.W.Frag} {F : Addr → Prop} {H : Hp} : ∀ (ns : List Str), ShA K F H (ns.map V.str) (ns.map .str)
  | [] => .nil
  | x :: r => .cons (.str x) (sh_strL r)
theorem cr_sortedD {X : Cx} (hc : X.calm = true) : CallR X (.builtin "sorted") (rP1 X.K fSortedD) := by
  intro pins s σ H xs us Q I r h
  obtain ⟨x, F, d, rr, rfl, tr, sx, er, q⟩ := h
  unfold fSortedD at er
  split at er
  · rename_i ds
    obtain ⟨a, kvs, rfl, ra, sk⟩ := sx
    cases g : strKeys ds with
    | none => rw [g] at er; cases er
    | some ks =>
      rw [g] at er
      have er : (if ks.length < 64 then some (R.fresh (.lst ((ks.mergeSort leS).map .str))) else none) = some rr := er
      split at er
      · rename_i h64
        cases er
        refine call_sortedD hc pins s σ H _ us Q I r ⟨a, kvs, ks, rfl, ra, strKeys_sh sk g, h64, fun ys p hp hs hn => ?_⟩
        rw [sorted_is hp hs]
        exact new_lst tr (sh_strL _) q p hn
      · cases er
  · cases er
/-! ### list(range(n)) -/
section
variable {X : Cx} {C : Ctx} {W : WX} {e : Expr} {ma : Env → Res D} {pos p p2 p3 : Pos}
def fLstRg : D → Option R
  | .int n => if inB n = true ∧ n ≤ 16777216 then some (.fresh (.lst (rgD 0 n.toNat))) else none
  | _ => none
theorem sh_rg {K : PySem.W.Frag} {F : Addr → Prop} {H : Hp} (lo : Int) (n : Nat) : ShA K F H ((List.range n).map fun i => V.int (lo + (i : Nat))) (rgD lo n) := by
  unfold rgD
  induction (List.range n) with
  | nil => exact .nil
  | cons x r ih => exact .cons (.int _) ih
theorem je_listRg (hc : X.calm = true) (hm : X.mg "list" = none) (hm2 : X.mg "range" = none) (ha : JV X C W e ma) (hg : Gl X "list") (hg2 : Gl X "range") (na : starEach [.Call (.Name "range" p2) [e] [] p] X.env = (false, eval (.Call (.Name "range" p2) [e] [] p) X.env) :: starEach [] X.env := by rfl) (nb : starEach [e] X.env = (false, eval e X.env) :: starEach [] X.env := by rfl) :
    JE X C W (.Call (.Name "list" p3) [.Call (.Name "range" p2) [e] [] p] [] pos) (eOp1 fLstRg ma) :=
  PE.imp (pe_listRg hc hg hm (prg_1 hg2 hm2 ha nb) na) fun σ H Q ⟨ρ, o, S, h⟩ => by
    obtain ⟨ρ0, o0, S0, h0⟩ := stepE (Rl := Sh X.K) S h
    refine ⟨ρ0, o0, S0, h0.imp (fun d ρ1 z v H1 o1 S1 t1 s1 => ?_) fun _ _ z => z⟩
    obtain ⟨ρ1', o1', d', S1', T1, s1', q1⟩ := z v H1 o1 S1 t1 s1
    obtain ⟨r, er, q⟩ := optE q1
    unfold fLstRg at er
    split at er
    · split at er
      · rename_i n hb
        cases er
        have hb1 := of_decide_eq_true hb.1
        refine ⟨n, s1'.ofInt, ⟨by decide, by decide, by omega, by omega, by omega⟩, fun q0 hq => ?_⟩
        have := new_lst S1'.tr (sh_rg 0 n.toNat) (newOk S1' q) q0 hq
        unfold rgV
        rw [Int.sub_zero]
        exact this
      · cases er
    · cases er
end
/-- a comprehension in a comprehension, itself without free names -/
theorem blkOk_nof {N : List Str} {sc scope : Scope} {own : List (Str × Nat)} (h : blkC N { kind := .function, names := [], isGenerator := false, isCoroutine := false } scope own = true) : BlkOk N sc scope own := by
  have B := blkOk_by h
  exact ⟨B.kind, B.uniq, B.ix, (fun y hy e => by rcases B.free y hy e with z | z <;> cases z), B.own⟩
/-! ### try .. except X: return a constant -/
section
variable {X : Cx} {C : Ctx} {W : WX} {e : Expr} {body : List Stmt} {b : Env → SR} {x n : Str} {c : Value} {np rp pos pos' : Pos}
def sTryO (b : Env → SR) (h : Str → Option (Option D)) : Env → SR := fun ρ => match b ρ with
  | .exc c ρ1 => match h c with
    | some (some v) => if okV v = true then .ret (.val v) ρ1 else .bad
    | some none => .exc c ρ1
    | none => .bad
  | r => r
def tsO (X : Cx) (h : Str → Option (Option D)) (a : Addr) (cls : Value) (d : Option Addr) : TS := fun D σ H =>
  ∃ A nm v, cls = .ref A ∧ d = none ∧ X.mg nm = some (.ref A) ∧ h nm = some (some v) ∧ D.rt (vOf v) H
theorem js_tryO {h : Str → Option (Option D)} (hs : X.stack = X.env :: X.outer) (hf : X.env.frame = some X.env.locals) (hc : Names X x c) (tk : Takes X W)
    (hm : ∀ nm A r, X.mg nm = some (.ref A) → h nm = some r → PySem.W.exmOne X.K (.ref A) c = some r.isSome)
    (hb : ∀ (W' : WX) (pn : List (Addr × Obj)) (xe : Value → Shared → Prop), Takes (X.tr pn xe) W' → PassesOwn (model X.prog X.w) X.A X.env xe → JSs (X.tr pn xe) C W' body b)
    (hsu : ∀ (a : Addr) (oe : Obj) (nm : Str) (v : D) (pn : List (Addr × Obj)), h nm = some (some v) → PE (X.suite a ((a, oe) :: pn)) e (fun σ H Q => Q (vOf v) H)) :
    JS X C W (.Try body [.ExceptHandler (some (.Name x np)) none [.Return (some e) rp] pos'] [] [] pos) (sTryO b h) :=
  PS.imp (ps_try_only hs hf hc tk (tb := fun W' => tS X C W' b) (ts := tsO X h) (fun W' pn xe t p => hb W' pn xe t p) (fun a oe cls d pn hz hv => ⟨fun pins s σ H D I q => by
    obtain ⟨A, nm, v, rfl, rfl, q1, q2, q4⟩ := q
    exact (pss_one (ps_ret (hsu a oe nm v pn q2))).run pins s σ H D I q4⟩)) fun D σ H ⟨ρ, o, S, q⟩ => by
    refine ⟨ρ, o, S, ?_⟩
    have q : PoS X C W o H D (sTryO b h ρ) := q
    unfold sTryO at q
    cases eb : b ρ with
    | nx ρ1 => rw [eb] at q; exact q
    | ret r ρ1 => rw [eb] at q; exact q
    | brk ρ1 => rw [eb] at q; exact q
    | cnt ρ1 => rw [eb] at q; exact q
    | bad => rw [eb] at q; exact q
    | exc nm ρ1 =>
      rw [eb] at q
      dsimp only at q
      intro σ1 H1 o1 S1 t1 A hA
      cases eh : h nm with
      | none => rw [eh] at q; exact q.elim
      | some r =>
        rw [eh] at q
        refine ⟨r.isSome, hm nm A r hA eh, fun hr a ha => ?_, fun hr => ?_⟩
        · cases r with
          | none => cases hr
          | some v =>
            dsimp only at q
            split at q
            · rename_i hcond
              refine ⟨A, nm, v, rfl, rfl, hA, eh, ?_⟩
              have hsh : Sh X.K (FF C.B o1) H1 (vOf v) v := by
                cases v <;> first | exact .non | exact .bl _ | exact absurd hcond Bool.false_ne_true
              exact q σ1 (vOf v) H1 o1 S1 t1 hsh
            · exact q.elim
        · cases r with
          | some v => cases hr
          | none => exact q σ1 H1 o1 S1 t1 A hA
theorem js_tryO1 {nm0 : Str} {A0 c : Addr} {v : D} (hs : X.stack = X.env :: X.outer) (hf : X.env.frame = some X.env.locals) (gx : X.mg x = some (.ref c)) (hgx : Gl X x) (tk : Takes X W)
    (g0 : X.mg nm0 = some (.ref A0)) (hm : PySem.W.exmOne X.K (.ref A0) (.ref c) = some true)
    (hb : ∀ (W' : WX) (pn : List (Addr × Obj)) (xe : Value → Shared → Prop), Takes (X.tr pn xe) W' → PassesOwn (model X.prog X.w) X.A X.env xe → JSs (X.tr pn xe) C W' body b)
    (hsu : ∀ (a : Addr) (oe : Obj) (pn : List (Addr × Obj)), PE (X.suite a ((a, oe) :: pn)) e (fun σ H Q => Q (vOf v) H)) (hd : (x == ("__debug__" : Str)) = false := by decide) :
    JS X C W (.Try body [.ExceptHandler (some (.Name x np)) none [.Return (some e) rp] pos'] [] [] pos) (sTryO b (h1 nm0 v)) :=
  js_tryO hs hf ⟨hgx, hd, .inl gx⟩ tk (fun nm A r hA hr => by
      unfold h1 at hr
      split at hr
      · rename_i q
        subst q
        cases hr
        rw [g0] at hA
        cases hA
        exact hm
      · cases hr) hb fun a oe nm v' pn hr => by
    unfold h1 at hr
    split at hr
    · rename_i q
      subst q
      cases hr
      exact hsu a oe pn
    · cases hr
end
end Dn
set_option Elab.async false
set_option linter.all false
set_option maxRecDepth 100000
set_option maxHeartbeats 1000000
/-! Dn18: a call that lends a local list or dict to a def, as its first argument -/
namespace Dn
open PySem L2
def cellAt : Sl → Option Cell
  | .own c => some c
  | .bor c => some c
  | _ => none
def cellTo (s : Sl) (c : Cell) : Sl := match s with
  | .own _ => .own c
  | .bor _ => .bor c
  | s => s
section
variable {K : PySem.W.Frag} {C : Ctx} {o : Nat → List Addr} {ρ : Env} {σ : St} {H : Hp} {i : Nat} {c : Cell}
theorem SRo.cell (S : SRo K C o ρ σ H) (g : cellAt (gS ρ i) = some c) : ∃ v, σ[i]? = some (some v) ∧ CR K (FF C.B o) H (o i) v c ∧ i < ρ.length ∧ ∀ c' F' H' as, CR K F' H' as v c' → SlR K F' H' as (C.bv i) σ[i]? (cellTo (gS ρ i) c') := by
  have z := S.slot i
  have hl : i < ρ.length := by
    by_cases hl : i < ρ.length
    · exact hl
    · rw [gS_out (by omega)] at g; cases g
  cases e : gS ρ i with
  | emp => rw [e] at g; cases g
  | val d => rw [e] at g; cases g
  | own c1 =>
    rw [e] at g z
    cases g
    obtain ⟨v, ev, h⟩ := z
    exact ⟨v, ev, h, hl, fun c' F' H' as h' => ⟨v, ev, h'⟩⟩
  | bor c1 =>
    rw [e] at g z
    cases g
    obtain ⟨ev, h⟩ := z
    exact ⟨_, ev, h, hl, fun c' F' H' as h' => ⟨ev, h'⟩⟩
def less0 (H : Hp) (as : List Addr) : Hp := fun b => if b ∈ as then none else H b
def lendC (C : Ctx) (o : Nat → List Addr) (i : Nat) (H : Hp) (vs : List V) : Ctx := ⟨FF C.B (oset o i []), less0 H (o i), fun j => vs.getD j .non⟩
def lendO (as : List Addr) : Nat → List Addr := fun j => if j = 0 then as else []
theorem lend_le (a : Addr) : FF (FF C.B (oset o i [])) (lendO (o i)) a ↔ FF C.B o a := by
  constructor
  · rintro (z | ⟨j, q⟩)
    · exact FF.drop a z
    · unfold lendO at q
      split at q
      · exact .inr ⟨i, q⟩
      · cases q
  · rintro (z | ⟨j, q⟩)
    · exact .inl (.inl z)
    · by_cases e : j = i
      · subst e
        exact .inr ⟨0, by unfold lendO; rw [if_pos rfl]; exact q⟩
      · exact .inl (.inr ⟨j, by rw [oset_ne e]; exact q⟩)
theorem lend_notin (S : SRo K C o ρ σ H) {a : Addr} (h : a ∈ o i) : ¬ FF C.B (oset o i []) a := fun z => z.elim (S.nB i a h) fun ⟨j, q⟩ => (oset_nil_mem q).1 (S.inj j i a (oset_nil_mem q).2 h)
theorem SRo.lend (S : SRo K C o ρ σ H) {v : V} {vs : List V} {ds : List D} (h : CR K (FF C.B o) H (o i) v c) (s : ShA K (FF C.B o) H vs ds) :
    SRo K (lendC C o i H (v :: vs)) (lendO (o i)) (.bor c :: Dn.vals ds) ((v :: vs).map some) H where
  len := by
    unfold Dn.vals
    rw [List.length_cons, List.length_map, List.length_map, List.length_cons, s.length]
  same := fun a u e => by
    have e : less0 H (o i) a = some u := e
    unfold less0 at e
    split at e
    · cases e
    · exact e
  nod := fun j => by
    unfold lendO
    split
    · exact S.nod i
    · exact List.nodup_nil
  inj := fun j k a h1 h2 => by
    unfold lendO at h1 h2
    split at h1
    · split at h2
      · omega
      · cases h2
    · cases h1
  nB := fun j a h1 => by
    unfold lendO at h1
    split at h1
    · exact lend_notin S h1
    · cases h1
  fr := fun j a h1 => by
    unfold lendO at h1
    split at h1
    · show less0 H (o i) a = none
      unfold less0
      rw [if_pos h1]
    · cases h1
  tr := fun a z => S.tr a ((lend_le a).mp z)
  slot := fun j => by
    cases j with
    | zero => exact ⟨rfl, h.tx (.less fun a z => (lend_le a).mp z) fun _ _ => rfl⟩
    | succ j =>
      show SlR K _ H [] _ ((vs.map some)[j]?) (gS (Dn.vals ds) j)
      rw [gS_vals]
      cases e : ds[j]? with
      | none => rfl
      | some d =>
        obtain ⟨w, ev, sh⟩ := s.get e
        exact ⟨rfl, w, by rw [List.getElem?_map, ev]; rfl, sh.tx (.less fun a z => (lend_le a).mp z)⟩
theorem SRo.unlend (S : SRo K C o ρ σ H) {v : V} {vs : List V} {o' : Nat → List Addr} {c' : Cell} {r : Env} {σ' : St} {H' : Hp} (g : cellAt (gS ρ i) = some c) (ev : σ[i]? = some (some v))
    (hs : ∀ c' F' H' as, CR K F' H' as v c' → SlR K F' H' as (C.bv i) σ[i]? (cellTo (gS ρ i) c')) (hl : i < ρ.length)
    (S' : SRo K (lendC C o i H (v :: vs)) o' (.bor c' :: r) σ' H') :
    SRo K C (oset o i (o' 0)) (sS ρ i (cellTo (gS ρ i) c')) σ H' ∧ Tx (FF C.B o) H (FF C.B (oset o i (o' 0))) H' ∧ ∀ a, FF C.B (oset o i (o' 0)) a → FF (lendC C o i H (v :: vs)).B o' a := by
  have le : ∀ a, FF C.B (oset o i (o' 0)) a → FF (lendC C o i H (v :: vs)).B o' a := fun a z => by
    rcases z with z | ⟨j, q⟩
    · exact .inl (.inl z)
    · by_cases e : j = i
      · subst e; rw [oset_same] at q; exact .inr ⟨0, q⟩
      · rw [oset_ne e] at q; exact .inl (.inr ⟨j, by rw [oset_ne e]; exact q⟩)
  have keep : ∀ b u, b ∉ o i → H b = some u → H' b = some u := fun b u n e => S'.same b u (by show less0 H (o i) b = some u; unfold less0; rw [if_neg n]; exact e)
  have t : Tx (FF C.B o) H (FF C.B (oset o i (o' 0))) H' := fun b u n e => by
    have nb : b ∉ o i := fun z => n (.inr ⟨i, z⟩)
    refine ⟨keep b u nb e, fun z => ?_⟩
    rcases z with z | ⟨j, q⟩
    · exact n (.inl z)
    · by_cases ej : j = i
      · subst ej
        rw [oset_same] at q
        have := S'.fr 0 b q
        have : less0 H (o j) b = none := this
        unfold less0 at this
        rw [if_neg nb, e] at this
        cases this
      · rw [oset_ne ej] at q
        exact n (.inr ⟨j, q⟩)
  have nB0 : ∀ a ∈ o' 0, ¬ FF C.B (oset o i []) a := fun a h => S'.nB 0 a h
  have z0 := S'.slot 0
  obtain ⟨_, cr⟩ := z0
  have cr : CR K (FF (lendC C o i H (v :: vs)).B o') H' (o' 0) v c' := cr
  refine ⟨⟨by rw [sS_len]; exact S.len, fun a u e => ?_, fun j => ?_, fun j k a h1 h2 => ?_, fun j a h1 => ?_, fun j a h1 => ?_, fun a z => S'.tr a (le a z), fun j => ?_⟩, t, le⟩
  · refine keep a u (fun z => ?_) (S.same a u e)
    rw [S.fr i a z] at e
    cases e
  · by_cases e : j = i
    · subst e; rw [oset_same]; exact S'.nod 0
    · rw [oset_ne e]; exact S.nod j
  · by_cases e : j = i
    · by_cases e' : k = i
      · rw [e, e']
      · subst e; rw [oset_same] at h1; rw [oset_ne e'] at h2
        exact absurd (.inr ⟨k, by rw [oset_ne e']; exact h2⟩) (nB0 a h1)
    · by_cases e' : k = i
      · subst e'; rw [oset_same] at h2; rw [oset_ne e] at h1
        exact absurd (.inr ⟨j, by rw [oset_ne e]; exact h1⟩) (nB0 a h2)
      · rw [oset_ne e] at h1; rw [oset_ne e'] at h2; exact S.inj j k a h1 h2
  · by_cases e : j = i
    · subst e; rw [oset_same] at h1; exact fun z => nB0 a h1 (.inl z)
    · rw [oset_ne e] at h1; exact S.nB j a h1
  · by_cases e : j = i
    · subst e
      rw [oset_same] at h1
      have := S'.fr 0 a h1
      have : less0 H (o j) a = none := this
      unfold less0 at this
      split at this
      · rename_i q; exact S.fr j a q
      · cases e2 : C.H0 a with
        | none => rfl
        | some u => rw [S.same a u e2] at this; cases this
    · rw [oset_ne e] at h1; exact S.fr j a h1
  · by_cases e : j = i
    · subst e
      rw [oset_same, gS_same hl]
      exact hs c' _ H' (o' 0) (cr.tx (.less le) fun _ _ => rfl)
    · rw [oset_ne e, gS_ne (Ne.symm e)]
      refine (S.slot j).tx t fun a ha => ?_
      have n : a ∉ o i := fun z => e (S.inj j i a ha z)
      cases eH : H a with
      | none => exact absurd eH (S.tr a (.inr ⟨j, ha⟩))
      | some u => exact keep a u n eH
end
def backB (i : Nat) (ρ1 : Env) : Res R → Res R
  | .ok r (.bor c' :: _) => .ok (.val r.toD) (sS ρ1 i (cellTo (gS ρ1 i) c'))
  | .exc e (.bor c' :: _) => .exc e (sS ρ1 i (cellTo (gS ρ1 i) c'))
  | _ => .bad
def eCallB (i n : Nat) (f : Env → Res R) (m : Env → Res (List D)) : Env → Res R := fun ρ => match cellAt (gS ρ i) with
  | none => .bad
  | some _ => bindR (m ρ) fun ds ρ1 => match cellAt (gS ρ1 i) with
    | none => .bad
    | some c => if ds.length + 1 = n then backB i ρ1 (f (.bor c :: vals ds)) else .bad
section
variable {X : Cx} {C : Ctx} {W : WX} {e : Expr} {es : List Expr} {pos p : Pos} {x : Str}
theorem je_callB {i k n : Nat} {f : Addr} {fd : FuncData} {ps : List Str} {den : Env → Res R} {m : Env → Res (List D)} (F : FnOk X.prog X.w X.K X.mg X.base (L2.CX X.prog X.w) k f fd ps (spG X.K X.mg n den)) (hr : Room k X.A) (hm : X.mg x = some (.ref f)) (hk : PySem.W.keepIn X.K (.ref f) = true) (hb : Binds X.K fd ps []) (tk : Takes X W)
    (hv : PE X e (tVar i)) (ha : JA X C W es m) (hg : Gl X x) (hdb : (x == ("__debug__" : Str)) = false := by decide) (he : starEach (e :: es) X.env = (false, eval e X.env) :: starEach es X.env := by rfl) (hpl : (backTo pos (starEach es X.env)).any (·.1) = false := by rfl) :
    JE X C W (.Call (.Name x p) (e :: es) [] pos) (eCallB i n den m) := PE.imp (pe_callS F hr hg hm hk hb (fun σ => passAt tk σ) (pa_cons hv ha he) hdb he hpl) fun σ H Q ⟨ρ, o, S, h⟩ => by
  have h : PoG (OkE X C o σ H Q) (ExP X C W o σ H) (eCallB i n den m ρ) := h
  unfold eCallB at h
  cases g0 : cellAt (gS ρ i) with
  | none => rw [g0] at h; exact h.elim
  | some c0 =>
    rw [g0] at h
    obtain ⟨v, ev, _, _, _⟩ := S.cell g0
    refine ⟨v, ev, ?_⟩
    obtain ⟨ρ0, o0, S0, h0⟩ := stepE (Rl := ShA X.K) S h
    refine ⟨ρ0, o0, S0, h0.imp (fun d ρ1 z vs H1 o1 S1 t1 s1 => ?_) fun _ _ z => z⟩
    obtain ⟨ρ1', o1', d', S1', T1, s1', q1⟩ := z vs H1 o1 S1 t1 s1
    cases g1 : cellAt (gS ρ1' i) with
    | none => simp only [g1] at q1; exact q1.elim
    | some c =>
      simp only [g1] at q1
      obtain ⟨v', ev', cr, hl, hs⟩ := S1'.cell g1
      rw [ev] at ev'
      cases ev'
      split at q1
      · rename_i hn
        have SL := S1'.lend cr s1'
        refine ⟨by rw [List.length_cons, s1'.length]; exact hn, lendC C o1' i H1 (v :: vs), lendO (o1' i), .bor c :: vals d', fun j w e => by show (v :: vs).getD j .non = w; rw [List.getD_eq_getElem?_getD, e]; rfl, SL, ?_⟩
        cases ef : den (.bor c :: vals d') with
        | bad => rw [ef] at q1; exact q1.elim
        | exc cc ρ' =>
          rw [ef] at q1
          match ρ', q1 with
          | .bor c' :: r, q1 =>
            intro H' o' S' t A hA
            obtain ⟨S2, t2, le⟩ := S1'.unlend g1 ev hs hl S'
            exact q1 H' _ S2 t2 A hA
          | [], q1 => exact q1.elim
          | .emp :: r, q1 => exact q1.elim
          | .val d :: r, q1 => exact q1.elim
          | .own c' :: r, q1 => exact q1.elim
        | ok r0 ρ' =>
          rw [ef] at q1
          match ρ', q1 with
          | .bor c' :: r, q1 =>
            have q1 : OkP X C o1' σ H1 (Sh X.K) Q r0.toD (sS ρ1' i (cellTo (gS ρ1' i) c')) := q1
            cases r0 with
            | val d =>
              intro v2 H' o' S' t sh
              obtain ⟨S2, t2, le⟩ := S1'.unlend g1 ev hs hl S'
              exact q1 v2 H' _ S2 t2 (sh.tx (.less le))
            | fresh cc =>
              intro v2 H' o' as nd h0 nB S' t cr2
              obtain ⟨S2, t2, le⟩ := S1'.unlend g1 ev hs hl S'.less
              exact q1 v2 H' _ S2 t2 ((S'.fresh cr2 nB).tx (.less le))
          | [], q1 => exact q1.elim
          | .emp :: r, q1 => exact q1.elim
          | .val d :: r, q1 => exact q1.elim
          | .own c' :: r, q1 => exact q1.elim
      · exact q1.elim
end
end Dn
set_option Elab.async false
set_option linter.all false
set_option maxRecDepth 100000
set_option maxHeartbeats 2000000
/-! Dn19: sorted(d.items()) -/
namespace Dn
open PySem L2 PySem.Spec PyProof.Rows PySem.W PySem.Calls
mutual
theorem reads_there {h : Heap} : ∀ {v : Value} {d : PyData} {as : List Addr}, Reads h v d as → ∀ a ∈ as, a < h.objs.size
  | _, _, _, .none, a, ha => by cases ha
  | _, _, _, .bool _, a, ha => by cases ha
  | _, _, _, .int _ _, a, ha => by cases ha
  | _, _, _, .str _ _, a, ha => by cases ha
  | _, _, _, .list h1 h2 h3 h4, a, ha => by
    rcases List.mem_cons.mp ha with rfl | ha
    · exact Heap.lt_size h1
    · exact readsAll_there h4 a ha
  | _, _, _, .tuple h1 h2 h3 h4, a, ha => readsAll_there h4 a ha
  | _, _, _, .dict h1 h2 h3 h4 h5, a, ha => by
    rcases List.mem_append.mp ha with ha | ha
    · rcases List.mem_cons.mp ha with rfl | ha
      · exact Heap.lt_size h1
      · exact readsAll_there h4 a ha
    · exact readsAll_there h5 a ha
theorem readsAll_there {h : Heap} : ∀ {vs : List Value} {ds : List PyData} {as : List Addr}, ReadsAll h vs ds as → ∀ a ∈ as, a < h.objs.size
  | _, _, _, .nil, a, ha => by cases ha
  | _, _, _, .cons h1 h2, a, ha => by
    rcases List.mem_append.mp ha with ha | ha
    · exact reads_there h1 a ha
    · exact readsAll_there h2 a ha
end
theorem each_get {R : Value → D → Prop} : ∀ {us : List Value} {ds : List D}, us.length = ds.length → (∀ (j : Nat) (u : Value) (d : D), us[j]? = some u → ds[j]? = some d → R u d) → EachIs R us ds
  | [], [], _, _ => .nil
  | [], _ :: _, h, _ => by cases h
  | _ :: _, [], h, _ => by cases h
  | u :: us, d :: ds, h, q => .cons (q 0 u d rfl rfl) (each_get (Nat.succ.inj h) fun j u' d' h1 h2 => q (j + 1) u' d' (by simpa using h1) (by simpa using h2))
section
variable {prog : Program} {w : World} {K : Type} [DecidableEq K] {knd : KeyKind prog w K} {A : Around} {E : Value → Shared → Prop} {s : Shared}
theorem sortedK {Q : Value → Shared → Prop} {r d : Addr} {kvs : List (K × Value)} {ep : Nat} (hh : A.handled = none) (hv : s.heap.IsItemsView r d) (hm : s.heap.DictAt knd d kvs ep) (hn : kvs.length ≤ sizeLine)
    (h : ∀ (h' : Heap) (tk : Nat) (as : List Addr), (∀ b o, s.heap.get? b = some o → h'.get? b = some o) → as.length = kvs.length → KdxG knd kvs s.heap.objs.size h' as →
      wpAny (model prog w) A.in1 (call (.builtin "list.sort") [.ref h'.objs.size]) (fun _ s' => Q (.ref h'.objs.size) s') E { s with heap := h'.push { cls := .type "list", data := .seq (as.map Value.ref).toArray }, toks := tk }) :
    wpAny (model prog w) A (call (.builtin "sorted") [.ref r]) Q E s := by
  refine call_function_entry kind_sorted plain_sorted entry_sorted (args_sorted1 _) ?_
  unfold Builtin.«sorted»
  refine wpAny_bind (m := checkCount "sorted" 1 1 _) (wpAny_pure ?_)
  refine wpAny_bind (kdx_collect (A := A.in1) (knd := knd) (kvs := kvs) (ep := ep) hh hv hm hn fun h' tk as hk hl hG => ?_)
  refine wpAny_bind (wpAny_newList ?_ (by rw [List.length_map, hl]; exact hn))
  have hg := h h' tk as hk hl hG
  refine wpAny_bind (wpAny_holding (wpAny_mono hg (fun _ s' x => ?_) fun _ _ e => e))
  exact wpAny_pure ⟨_, rfl, x⟩
end
def itL (ds : List (D × D)) : List D := ds.map fun p => .tuple [p.1, p.2]
def fSortIt : D → Option R
  | .dict ds => if sortOk (itL ds) = true ∧ (itL ds).length ≤ 16777216 then some (.fresh (.lst (srt (itL ds)))) else none
  | _ => none
theorem NewOk.mono {K : PySem.W.Frag} {F : Addr → Prop} {H H1 : Hp} {Q : VK} {r : R} (h : NewOk K F H Q r) (s : Same H H1) : NewOk K F H1 Q r := by
  cases r with
  | val d => exact fun v H' s' sh => h v H' (s.trans s') sh
  | fresh c => exact fun v H' as s' nd h0 h1 cr => h v H' as (s.trans s') nd (fun a ha => by
      cases e : H a with
      | none => rfl
      | some u => have := s a u e; rw [h0 a ha] at this; cases this) h1 cr
theorem shK_get {K : PySem.W.Frag} {F : Addr → Prop} {H : Hp} : ∀ {vs : List (Key × V)} {ds : List (D × D)} {j : Nat} {p : Key × V}, ShK K F H vs ds → vs[j]? = some p → ∃ d, ds[j]? = some (kd p.1, d) ∧ Sh K F H p.2 d
  | _, _, _, _, .nil, e => by simp at e
  | _, _, 0, _, .cons h _, e => by simp at e; subst e; exact ⟨_, rfl, h⟩
  | _, _, j + 1, _, .cons _ s, e => by
    obtain ⟨d, e1, h⟩ := shK_get (j := j) s (by simpa using e)
    exact ⟨d, by simpa using e1, h⟩
theorem shK_len {K : PySem.W.Frag} {F : Addr → Prop} {H : Hp} : ∀ {vs : List (Key × V)} {ds : List (D × D)}, ShK K F H vs ds → vs.length = ds.length
  | _, _, .nil => rfl
  | _, _, .cons _ s => by rw [List.length_cons, List.length_cons, shK_len s]
theorem sh_key {K : PySem.W.Frag} {F : Addr → Prop} {H : Hp} (k : Key) : Sh K F H (kV k) (kd k) := by
  cases k with
  | inl i => exact .int i
  | inr x => exact .str x
section
variable {X : Cx}
def rItemsK (K : PySem.W.Frag) : V → List V → Hp → VK → Prop := fun x xs H Q => ∃ (a : Addr) (kvs : List (Key × V)), x = .ref a ∧ xs = [] ∧ H a = some (.dK kvs) ∧ ∀ p, H p = none → Q (.ref p) (upd H p (L2.DX.itemsO p a))
theorem mt_itemsK : MtR X "dict.items" (rItemsK X.K) := by
  intro pins s σ H x xs v us Q I rx rxs h
  obtain ⟨a, kvs, rfl, rfl, ha, q⟩ := h
  cases rx
  cases rxs
  obtain ⟨hz, hs0, vs, kv, hdo⟩ := I.hok a _ ha
  have hf : H s.heap.objs.size = none := I.hok.fresh (Nat.le_refl _)
  refine call_meetsIn PySem.F.slot_dict_items hdo.typeIs PySem.F.entry_dict_items (PySem.F.args_dict_items_1 _) (meets_dict_items (mixKind X.prog X.w) a hs0) ⟨⟨vs, hdo⟩, ?_⟩
  exact ⟨.ref s.heap.objs.size, upd H s.heap.objs.size (L2.DX.itemsO s.heap.objs.size a), I.laid (t' := s.toks) (fun b u e => Heap.get?_push_of_some _ e) (Nat.le_refl _) (L2.DX.itemsO_ok (Heap.get?_push_size _ rfl)), rfl, q _ hf⟩
def rSortK (K : PySem.W.Frag) : List V → Hp → VK → Prop := fun xs H Q => ∃ (p a : Addr) (kvs : List (Key × V)) (F : Addr → Prop) (ds : List (D × D)) (r : R), xs = [.ref p] ∧ H p = some (L2.DX.itemsO p a) ∧ H a = some (.dK kvs) ∧ (∀ b, F b → H b ≠ none) ∧ ShK K F H kvs ds ∧ fSortIt (.dict ds) = some r ∧ NewOk K F H Q r
theorem cr_sortedItK (hc : X.calm = true) (hu : X.A.units + 64 < cLine) : CallR X (.builtin "sorted") (rSortK X.K) := by
  intro pins s σ H xs us Q I r h
  obtain ⟨p, a, kvs, F, ds, rr, rfl, hp, ha, tr, sk, er, q⟩ := h
  obtain rfl := Vals.ref1 r
  have view : s.heap.IsItemsView p a := (show ObjOk X.prog X.w H s.heap p (L2.DX.itemsO p a) from I.hok p _ hp).1
  obtain ⟨hz, hs0, vs, kv, hdo⟩ := I.hok a _ ha
  obtain ⟨ep, hat⟩ := hdo.dictAt
  have lk : kvs.length = vs.length := Paired.length kv
  have ld := shK_len sk
  have er : (if sortOk (itL ds) = true ∧ (itL ds).length ≤ 16777216 then some (R.fresh (.lst (srt (itL ds)))) else none) = some rr := er
  split at er
  · rename_i hok
    cases er
    refine sortedK (knd := mixKind X.prog X.w) (kvs := vs) (ep := ep) (I.ok.hd hc) view hat (by omega) fun h' tk as hk hl hG => ?_
    have nd : as.Nodup := List.Pairwise.imp (fun {a b} (h : a < b) => Nat.ne_of_lt h) hG.rise
    have J0 : Inv X pins σ H { s with heap := h', toks := tk } := I.kept (t' := tk) hk
    obtain ⟨H2, J2, gr, qt⟩ := L2.DX.takeT (P := fun b ws => ∃ (j : Nat) (pk : Key × V), as[j]? = some b ∧ kvs[j]? = some pk ∧ ws = [kV pk.1, pk.2]) I as H J0 nd fun b hb => by
      obtain ⟨j, hj⟩ := List.mem_iff_getElem?.mp hb
      obtain ⟨key, k, x, f1, f2, f3⟩ := hG.pairs j b hj
      have hjk : j < kvs.length := by rw [lk]; exact (List.getElem?_eq_some_iff.mp f1).1
      obtain ⟨qv, g1, g2, g3⟩ := LiI.paired_get kv (List.getElem?_eq_getElem hjk)
      rw [f1] at g1
      cases g1
      have hbl : s.heap.objs.size ≤ b := Nat.le_of_lt (hG.above b hb)
      have rk : RelV (kV kvs[j].1) key := by
        rw [g2]
        exact relV_key (show keyIs k key = true from f2)
      exact ⟨hbl, I.hok.fresh hbl, [kV kvs[j].1, kvs[j].2], ⟨j, kvs[j], hj, List.getElem?_eq_getElem hjk, rfl⟩, fun H3 => ⟨by show 2 ≤ sizeLine; decide, [key, x], .cons rk (.cons g3 .nil), ⟨_, f3, rfl, _, rfl⟩⟩⟩
    have sm : Same H H2 := gr
    have tr2 : ∀ b, F b → H2 b ≠ none := fun b fb z => by
      cases e : H b with
      | none => exact tr b fb e
      | some u => rw [gr b u e] at z; cases z
    have eachR : EachIs (fun u d => ∃ x, RelV x u ∧ Sh X.K F H2 x d) (as.map Value.ref) (itL ds) := by
      refine each_get (by rw [List.length_map, itL, List.length_map]; omega) fun j u d e1 e2 => ?_
      rw [List.getElem?_map] at e1
      cases ej : as[j]? with
      | none => rw [ej] at e1; cases e1
      | some b =>
        rw [ej] at e1
        cases e1
        obtain ⟨ws, ⟨i, pk, i1, i2, i3⟩, hH⟩ := qt b (List.mem_of_getElem? ej)
        have eij : j = i := (List.getElem?_inj (List.getElem?_eq_some_iff.mp ej).1 nd).mp (ej.trans i1.symm)
        subst eij
        subst i3
        obtain ⟨dd, ed, shd⟩ := shK_get sk i2
        unfold itL at e2
        rw [List.getElem?_map, ed] at e2
        cases e2
        have nF : ¬ F b := fun fb => tr b fb (I.hok.fresh (Nat.le_of_lt (hG.above b (List.mem_of_getElem? ej))))
        exact ⟨.ref b, rfl, .tup (.inl ⟨nF, .inl hH⟩) (.cons (sh_key _) (.cons (shd.tx (.same sm)) .nil))⟩
    obtain ⟨p1, p2, p3⟩ := sortOk_parts hok.1
    have hob : (h'.push { cls := .type "list", data := .seq (as.map Value.ref).toArray }).get? h'.objs.size = some (seqObj "list" (as.map Value.ref).toArray 0) := Heap.get?_push_size _ rfl
    have kb : ∀ b o, h'.get? b = some o → (h'.push { cls := .type "list", data := .seq (as.map Value.ref).toArray }).get? b = some o := fun b o e => Heap.get?_push_of_some _ e
    have ne0 : ∀ b o, h'.get? b = some o → b ≠ h'.objs.size := fun b o e => Nat.ne_of_lt (Heap.lt_size e)
    generalize hh2 : h'.push { cls := .type "list", data := .seq (as.map Value.ref).toArray } = h2 at hob kb ⊢
    have ready : EachIs (fun v b => ∃ as', Reads h2 v (id b) as' ∧ h'.objs.size ∉ as') (as.map Value.ref) (itL ds) :=
      (each_mem eachR).mono fun u d ⟨⟨x, rx, sh⟩, hd⟩ => by
        obtain ⟨as', rd⟩ := Dp.reads J2 d x u (sh.noD _ _ (p3 d hd).1) rx
        exact ⟨as', PyProof.Rows.Reads.keeps kb rd, fun z => Nat.lt_irrefl _ (reads_there rd _ z)⟩
    refine list_sort_data (s := { s with heap := h2, toks := tk }) (enc := id) hob eachR ready p1 p2 (line_of hok.2) (fun d hd => by have := (p3 d hd).2; show X.A.units + 1 + 1 + d.depth < cLine; omega) fun out hlen eo => ?_
    obtain ⟨zs, z1, z2⟩ := of_each eo
    have kF : ∀ b o, b ≠ h'.objs.size → h2.get? b = some o → (sortedHeap h2 h'.objs.size (as.map Value.ref) out.toArray).get? b = some o := fun b o hb e => (PyProof.Rows.sortedHeap_old hb (Heap.lt_size e)).trans e
    obtain ⟨eF, heF⟩ := PyProof.Rows.sortedHeap_at (vs := as.map Value.ref) (out := out.toArray) hob
    have I1 : Inv X pins σ H2 { s with heap := sortedHeap h2 h'.objs.size (as.map Value.ref) out.toArray, toks := tk } := J2.kept (t' := tk) fun b o e => kF b o (ne0 _ _ e) (kb b o e)
    have hn0 : H2 h'.objs.size = none := J2.hok.fresh (Nat.le_refl _)
    have hzl : zs.length ≤ sizeLine := by rw [z1.length, hlen]; exact line_of hok.2
    have I2 : Inv X pins σ (upd H2 h'.objs.size (.lst zs)) { s with heap := sortedHeap h2 h'.objs.size (as.map Value.ref) out.toArray, toks := tk } :=
      I1.take (h' := sortedHeap h2 h'.objs.size (as.map Value.ref) out.toArray) (t' := tk) (fun b ob _ e => e) (J2.fpOk (Nat.le_refl _) hn0) ⟨hzl, out, eF, z1, heF⟩
    exact ⟨.ref h'.objs.size, upd H2 h'.objs.size (.lst zs), I2, rfl, new_lst tr2 z2 (q.mono sm) _ hn0⟩
  · cases er
def eSortIt (i : Nat) : Env → Res R := fun ρ => match dicAt (gS ρ i) with
  | some kvs => optR (fSortIt (.dict (kvs.map fun p => (kd p.1, p.2)))) ρ
  | none => .bad
variable {C : Ctx} {W : WX} {e : Expr} {pos p p1 apos cpos : Pos}
theorem je_sortIt {i : Nat} (hc : X.calm = true) (hu : X.A.units + 64 < cLine) (hm : X.mg "sorted" = none) (ho : PE X e (tVar i)) (hg : Gl X "sorted")
    (hbase : attributeBase e "items" X.env (eval e X.env) = eval e X.env := by rfl) (hline : (apos.endLine == cpos.line) = true := by rfl)
    (he : starEach [.Call (.Attribute e "items" apos) [] [] cpos] X.env = (false, eval (.Call (.Attribute e "items" apos) [] [] cpos) X.env) :: starEach [] X.env := by rfl) :
    JE X C W (.Call (.Name "sorted" p) [.Call (.Attribute e "items" apos) [] [] cpos] [] pos) (eSortIt i) :=
  PE.imp (pe_callB (cr_sortedItK hc hu) hg hm bt_sorted (pa_cons (pe_bm0 PySem.F.plainAttrs_dict PySem.F.slot_dict_items PySem.F.type_dict_items mt_itemsK ho hbase hline) pa_nil he) (by decide) (by decide) he) fun σ H Q ⟨ρ, o, S, h⟩ => by
    have h : PoG (OkE X C o σ H Q) (ExP X C W o σ H) (eSortIt i ρ) := h
    unfold eSortIt at h
    cases g : dicAt (gS ρ i) with
    | none => rw [g] at h; exact h.elim
    | some kvs =>
      rw [g] at h
      obtain ⟨r, er, q⟩ := optE h
      obtain ⟨a, vs, ea, eo, eH, sh, hl⟩ := dic_at S g
      refine ⟨.ref a, ea, ?_, a, vs, rfl, rfl, eH, fun p0 hp0 => ?_⟩
      · exact .inr (.inr (.inl ⟨rfl, .inl ⟨vs, eH⟩⟩))
      · have sm : Same H (upd H p0 (L2.DX.itemsO p0 a)) := same_new hp0
        have tr : ∀ b, FF C.B o b → upd H p0 (L2.DX.itemsO p0 a) b ≠ none := fun b fb z => by
          cases e2 : H b with
          | none => exact S.tr b fb e2
          | some u => rw [sm b u e2] at z; cases z
        have na : a ≠ p0 := fun z => by rw [← z, eH] at hp0; cases hp0
        exact ⟨p0, a, vs, FF C.B o, _, r, rfl, upd_same, by rw [upd_ne na]; exact eH, tr, (ShD.shK sh).tx (.same sm), er, (newOk S q).mono sm⟩
end
end Dn
set_option Elab.async false
set_option linter.all false
set_option maxRecDepth 100000
namespace Law
open PySem Dn
noncomputable section
def b_is_whole : Dn.Env → SR := sRet (eAndD (eOp1 (fP isInt) (ePk 0)) (eNotD (eOp1 (fP isBool) (ePk 0))))
def d_is_whole : Dn.Env → Res R := mkF 1 1 b_is_whole
def b_is_whole_in : Dn.Env → SR := sRet (eAndD (eCall 1 d_is_whole (aCons (toV (eVar 0)) (aNil))) (eChain fLe fLe (toV (eVar 1)) (toV (eVar 0)) (toV (eVar 2))))
def d_is_whole_in : Dn.Env → Res R := mkF 3 3 b_is_whole_in
def b_is_name : Dn.Env → SR := sSeq (sIf (tNotD (tTru (toV (eOp1 (fP isStr) (ePk 0))))) (sRet (eC (.bool false))) (sNil))
    (sSeq (sIf (tOrD (tBoolD (eOp2 fLt (toV (eOp1 fLen (ePk 0))) (toV (eC (.int 1))))) (tBoolD (eOp2 fGt (toV (eOp1 fLen (ePk 0))) (toV (eC (.int 8)))))) (sRet (eC (.bool false))) (sNil))
    (sSeq (sIf (tBoolD (eOp2 fNotIn (toV (eIxV 0 (toV (eC (.int 0))))) (toV (eC (.str "abcdefghijklmnopqrstuvwxyz"))))) (sRet (eC (.bool false))) (sNil))
    (sSeq (sFor (gNm 1) (eIt (toV (eVar 0))) (sIf (tAndD (tBoolD (eOp2 fNotIn (toV (eVar 1)) (toV (eC (.str "abcdefghijklmnopqrstuvwxyz"))))) (tBoolD (eOp2 fNotIn (toV (eVar 1)) (toV (eC (.str "0123456789")))))) (sRet (eC (.bool false))) (sNil)))
    (sRet (eC (.bool true))))))
def d_is_name : Dn.Env → Res R := mkF 1 2 b_is_name
def b_is_tuple_of : Dn.Env → SR := sRet (eAndD (eOp1 (fP isTup) (ePk 0)) (eChain fLe fLe (toV (eVar 1)) (toV (eOp1 fLen (ePk 0))) (toV (eVar 2))))
def d_is_tuple_of : Dn.Env → Res R := mkF 3 3 b_is_tuple_of
def b_is_ratio : Dn.Env → SR := sSeq (sIf (tNotD (tTru (toV (eCall 3 d_is_tuple_of (aCons (toV (eVar 0)) (aCons (toV (eC (.int 2))) (aCons (toV (eC (.int 2))) (aNil)))))))) (sRet (eC (.bool false))) (sNil))
    (sSeq (sIf (tOrD (tNotD (tTru (toV (eCall 1 d_is_whole (aCons (toV (eIxV 0 (toV (eC (.int 0))))) (aNil)))))) (tOrD (tNotD (tTru (toV (eCall 1 d_is_whole (aCons (toV (eIxV 0 (toV (eC (.int 1))))) (aNil)))))) (tBoolD (eOp2 fLt (toV (eIxV 0 (toV (eC (.int 1))))) (toV (eC (.int 1))))))) (sRet (eC (.bool false))) (sNil))
    (sRet (eOp2 fEq (toV (eOpN fGcd (aCons (toV (eIxV 0 (toV (eC (.int 0))))) (aCons (toV (eIxV 0 (toV (eC (.int 1))))) (aNil))))) (toV (eC (.int 1))))))
def d_is_ratio : Dn.Env → Res R := mkF 1 1 b_is_ratio
def b_is_small_ratio : Dn.Env → SR := sSeq (sIf (tNotD (tTru (toV (eCall 1 d_is_ratio (aCons (toV (eVar 0)) (aNil)))))) (sRet (eC (.bool false))) (sNil))
    (sRet (eAndD (eChain fLe fLe (toV (eOp1 fNeg (toV (eC (.int (1000000)))))) (toV (eIxV 0 (toV (eC (.int 0))))) (toV (eC (.int (1000000))))) (eOp2 fLe (toV (eIxV 0 (toV (eC (.int 1))))) (toV (eC (.int (1000)))))))
def d_is_small_ratio : Dn.Env → Res R := mkF 1 1 b_is_small_ratio
def b_check_ratio : Dn.Env → SR := sIf (tNotD (tTru (toV (eCall 1 d_is_ratio (aCons (toV (eVar 0)) (aNil)))))) (sRaise "BadRatio") (sNil)
def d_check_ratio : Dn.Env → Res R := mkF 1 1 b_check_ratio
def b_ratio : Dn.Env → SR := sSeq (sIf (tOrD (tNotD (tTru (toV (eCall 1 d_is_whole (aCons (toV (eVar 0)) (aNil)))))) (tNotD (tTru (toV (eCall 1 d_is_whole (aCons (toV (eVar 1)) (aNil))))))) (sRaise "BadRatio") (sNil))
    (sSeq (sIf (tBoolD (eOp2 fEq (toV (eVar 1)) (toV (eC (.int 0))))) (sRaise "BadRatio") (sNil))
    (sSeq (sAsg 2 (eOpN fGcd (aCons (toV (eVar 0)) (aCons (toV (eVar 1)) (aNil)))))
    (sSeq (sIf (tBoolD (eOp2 fLt (toV (eVar 1)) (toV (eC (.int 0))))) (sAsg 2 (eOp1 fNeg (toV (eVar 2)))) (sNil))
    (sRet (eOpN fTup (aCons (toV (eOp2 fFdiv (toV (eVar 0)) (toV (eVar 2)))) (aCons (toV (eOp2 fFdiv (toV (eVar 1)) (toV (eVar 2)))) (aNil))))))))
def d_ratio : Dn.Env → Res R := mkF 2 3 b_ratio
def b_plus : Dn.Env → SR := sSeq (sDrop (eCall 1 d_check_ratio (aCons (toV (eVar 0)) (aNil))))
    (sSeq (sDrop (eCall 1 d_check_ratio (aCons (toV (eVar 1)) (aNil))))
    (sRet (eCall 2 d_ratio (aCons (toV (eOp2 fAdd (toV (eOp2 fMul (toV (eIxV 0 (toV (eC (.int 0))))) (toV (eIxV 1 (toV (eC (.int 1))))))) (toV (eOp2 fMul (toV (eIxV 1 (toV (eC (.int 0))))) (toV (eIxV 0 (toV (eC (.int 1))))))))) (aCons (toV (eOp2 fMul (toV (eIxV 0 (toV (eC (.int 1))))) (toV (eIxV 1 (toV (eC (.int 1))))))) (aNil))))))
def d_plus : Dn.Env → Res R := mkF 2 2 b_plus
def b_times : Dn.Env → SR := sSeq (sDrop (eCall 1 d_check_ratio (aCons (toV (eVar 0)) (aNil))))
    (sSeq (sDrop (eCall 1 d_check_ratio (aCons (toV (eVar 1)) (aNil))))
    (sRet (eCall 2 d_ratio (aCons (toV (eOp2 fMul (toV (eIxV 0 (toV (eC (.int 0))))) (toV (eIxV 1 (toV (eC (.int 0))))))) (aCons (toV (eOp2 fMul (toV (eIxV 0 (toV (eC (.int 1))))) (toV (eIxV 1 (toV (eC (.int 1))))))) (aNil))))))
def d_times : Dn.Env → Res R := mkF 2 2 b_times
def b_ceil_of : Dn.Env → SR := sSeq (sDrop (eCall 1 d_check_ratio (aCons (toV (eVar 0)) (aNil))))
    (sRet (eOp1 fNeg (toV (eOp2 fFdiv (toV (eOp1 fNeg (toV (eIxV 0 (toV (eC (.int 0))))))) (toV (eIxV 0 (toV (eC (.int 1)))))))))
def d_ceil_of : Dn.Env → Res R := mkF 1 1 b_ceil_of
def b_is_count : Dn.Env → SR := sSeq (sIf (tNotD (tTru (toV (eOp1 (fP isTup) (ePk 0))))) (sRet (eC (.bool false))) (sNil))
    (sSeq (sAsg 1 (eDic0))
    (sSeq (sFor (gNm 2) (eIt (toV (eVar 0))) (sSeq (sIf (tOrD (tNotD (tTru (toV (eCall 3 d_is_tuple_of (aCons (toV (eVar 2)) (aCons (toV (eC (.int 2))) (aCons (toV (eC (.int 2))) (aNil)))))))) (tOrD (tNotD (tTru (toV (eCall 1 d_is_name (aCons (toV (eIxV 2 (toV (eC (.int 0))))) (aNil)))))) (tNotD (tTru (toV (eCall 3 d_is_whole_in (aCons (toV (eIxV 2 (toV (eC (.int 1))))) (aCons (toV (eC (.int 0))) (aCons (toV (eC (.int (100000)))) (aNil)))))))))) (sRet (eC (.bool false))) (sNil))
    (sSeq (sIf (tBoolD (eDin false 1 (toV (eIxV 2 (toV (eC (.int 0))))))) (sRet (eC (.bool false))) (sNil))
    (sSetD 1 (toV (eC (.bool true))) (toV (eIxV 2 (toV (eC (.int 0)))))))))
    (sRet (eC (.bool true)))))
def d_is_count : Dn.Env → Res R := mkF 1 3 b_is_count
def b_letter_counts : Dn.Env → SR := sSeq (sIf (tNotD (tTru (toV (eOp1 (fP isTup) (ePk 0))))) (sRaise "BadBill") (sNil))
    (sSeq (sAsg 1 (eDic0))
    (sSeq (sFor (gNm 2) (eIt (toV (eVar 0))) (sSeq (sIf (tNotD (tTru (toV (eOp1 (fP isTup) (ePk 2))))) (sRaise "BadBill") (sNil))
    (sFor (gNm 3) (eIt (toV (eVar 2))) (sSeq (sIf (tNotD (tTru (toV (eCall 1 d_is_name (aCons (toV (eVar 3)) (aNil)))))) (sRaise "BadBill") (sNil))
    (sSetD 1 (toV (eOp2 fAdd (toV (eDget 1 (toV (eVar 3)) (toV (eC (.int 0))))) (toV (eC (.int 1))))) (toV (eVar 3)))))))
    (sRet (eOp1 fTuple (toV (eSortIt 1))))))
def d_letter_counts : Dn.Env → Res R := mkF 1 4 b_letter_counts
def b_with_reserve : Dn.Env → SR := sSeq (sIf (tNotD (tTru (toV (eCall 1 d_is_count (aCons (toV (eVar 0)) (aNil)))))) (sRaise "BadBill") (sNil))
    (sSeq (sIf (tOrD (tNotD (tTru (toV (eCall 1 d_is_small_ratio (aCons (toV (eVar 1)) (aNil)))))) (tBoolD (eOp2 fLt (toV (eIxV 1 (toV (eC (.int 0))))) (toV (eC (.int 0)))))) (sRaise "BadBill") (sNil))
    (sSeq (sAsg 2 (eCall 2 d_plus (aCons (toV (eOpN fTup (aCons (toV (eC (.int 1))) (aCons (toV (eC (.int 1))) (aNil))))) (aCons (toV (eVar 1)) (aNil)))))
    (sRet (eOp1 fTuple (toV (eLc [3, 4] (eIt (toV (eVar 0))) (gTp 2 (gsCons (gNm 3) (gsCons (gNm 4) (gsNil)))) (tTrue) (eOpN fTup (aCons (toV (eVar 3)) (aCons (toV (eCall 1 d_ceil_of (aCons (toV (eCall 2 d_times (aCons (toV (eOpN fTup (aCons (toV (eVar 4)) (aCons (toV (eC (.int 1))) (aNil))))) (aCons (toV (eVar 2)) (aNil))))) (aNil)))) (aNil))))))))))
def d_with_reserve : Dn.Env → Res R := mkF 2 5 b_with_reserve
def b__law_jar : Dn.Env → SR := sSeq (sAsg 2 (eC (.int 0)))
    (sSeq (sIf (tBoolD (eOp2 fLt (toV (eVar 1)) (toV (eOp1 fLen (ePk 0))))) (sAsg 2 (eOp1 fAbs (toV (eOp1 fInt (toV (eIxV 0 (toV (eVar 1)))))))) (sNil))
    (sRet (eOpN fLst (aCons (toV (eVar 2)) (aCons (toV (eOp2 fAdd (toV (eOp2 fMod (toV (eOp1 fInt (ePk 2))) (toV (eC (.int 2147483647))))) (toV (eOp2 fMul (toV (eC (.int 7919))) (toV (eOp2 fAdd (toV (eVar 1)) (toV (eC (.int 1))))))))) (aCons (toV (eC (.int 0))) (aCons (toV (eOp1 fInt (toV (eOp2 fGe (toV (eVar 2)) (toV (eOp2 fPow (toV (eC (.int 10))) (toV (eC (.int 18))))))))) (aNil))))))))
def d__law_jar : Dn.Env → Res R := mkF 2 3 b__law_jar
def b__law_draw : Dn.Env → SR := sSeq (sIf (tAndD (tBoolD (eOp2 fEq (toV (eIxV 0 (toV (eC (.int 3))))) (toV (eC (.int 1))))) (tBoolD (eOp2 fGt (toV (eIxV 0 (toV (eC (.int 0))))) (toV (eC (.int 0)))))) (sSeq (sAsg 3 (eOp2 fMod (toV (eOp1 fInt (toV (eIxV 0 (toV (eC (.int 0))))))) (toV (eVar 1))))
    (sSeq (sSetL 0 (toV (eOp2 fFdiv (toV (eIxV 0 (toV (eC (.int 0))))) (toV (eVar 1)))) (toV (eC (.int 0))))
    (sRet (eVar 3)))) (sNil))
    (sSeq (sSetL 0 (toV (eOp2 fAdd (toV (eIxV 0 (toV (eC (.int 2))))) (toV (eC (.int 1))))) (toV (eC (.int 2))))
    (sSeq (sAsg 2 (eOp2 fMod (toV (eOp1 fInt (toV (eOp2 fAdd (toV (eIxV 0 (toV (eC (.int 1))))) (toV (eOp2 fMul (toV (eC (.int 40503))) (toV (eIxV 0 (toV (eC (.int 2))))))))))) (toV (eC (.int 2147483647)))))
    (sSeq (sAsg 2 (eOp2 fMod (toV (eOp1 fInt (toV (eOp2 fAdd (toV (eOp2 fMul (toV (eVar 2)) (toV (eVar 2)))) (toV (eOp2 fMul (toV (eC (.int 48271))) (toV (eIxV 0 (toV (eC (.int 2))))))))))) (toV (eC (.int 2147483629)))))
    (sSeq (sAsg 2 (eOp2 fMod (toV (eOp1 fInt (toV (eOp2 fAdd (toV (eOp2 fFdiv (toV (eOp2 fMul (toV (eVar 2)) (toV (eVar 2)))) (toV (eC (.int 1024))))) (toV (eVar 2)))))) (toV (eC (.int 2147483629)))))
    (sRet (eOp2 fMod (toV (eOp1 fInt (toV (eOp2 fFdiv (toV (eVar 2)) (toV (eC (.int 64))))))) (toV (eVar 1))))))))
def d__law_draw : Dn.Env → Res R := mkF 2 4 b__law_draw
def b__law_same_one : Dn.Env → SR := sSeq (sIf (tOrD (tBoolD (eOp2 fIs (toV (eVar 0)) (toV (eC .none)))) (tBoolD (eOp2 fIs (toV (eVar 1)) (toV (eC .none))))) (sRet (eAndD (eOp2 fIs (toV (eVar 0)) (toV (eC .none))) (eOp2 fIs (toV (eVar 1)) (toV (eC .none))))) (sNil))
    (sSeq (sIf (tOrD (tTru (toV (eOp1 (fP isBool) (ePk 0)))) (tTru (toV (eOp1 (fP isBool) (ePk 1))))) (sRet (eAndD (eOp1 (fP isBool) (ePk 0)) (eAndD (eOp1 (fP isBool) (ePk 1)) (eOp2 fEq (toV (eVar 0)) (toV (eVar 1)))))) (sNil))
    (sSeq (sIf (tAndD (tTru (toV (eOp1 (fP isInt) (ePk 0)))) (tTru (toV (eOp1 (fP isInt) (ePk 1))))) (sRet (eOp2 fEq (toV (eVar 0)) (toV (eVar 1)))) (sNil))
    (sRet (eAndD (eOp1 (fP isStr) (ePk 0)) (eAndD (eOp1 (fP isStr) (ePk 1)) (eOp2 fEq (toV (eVar 0)) (toV (eVar 1))))))))
def d__law_same_one : Dn.Env → Res R := mkF 2 2 b__law_same_one
def b__law_same : Dn.Env → SR := sSeq (sAsg 2 (eOpN fLst (aCons (toV (eOpN fLst (aCons (toV (eVar 0)) (aCons (toV (eVar 1)) (aNil))))) (aNil))))
    (sSeq (sFor (gNm 3) (eRg1 (toV (eC (.int 30000)))) (sSeq (sIf (tBoolD (eOp2 fEq (toV (eOp1 fLen (ePk 2))) (toV (eC (.int 0))))) (sRet (eC (.bool true))) (sNil))
    (sSeq (sAsg 4 (ePop 2))
    (sSeq (sAsg 5 (eIxV 4 (toV (eC (.int 0)))))
    (sSeq (sAsg 6 (eIxV 4 (toV (eC (.int 1)))))
    (sIf (tAndD (tTru (toV (eOp1 (fP isTup) (ePk 5)))) (tTru (toV (eOp1 (fP isTup) (ePk 6))))) (sSeq (sIf (tBoolD (eOp2 fNe (toV (eOp1 fLen (ePk 5))) (toV (eOp1 fLen (ePk 6))))) (sRet (eC (.bool false))) (sNil))
    (sExt 2 (eLc [7] (eRg1 (toV (eOp1 fLen (ePk 5)))) (gNm 7) (tTrue) (eOpN fLst (aCons (toV (eIxV 5 (toV (eVar 7)))) (aCons (toV (eIxV 6 (toV (eVar 7)))) (aNil))))))) (sIf (tOrD (tTru (toV (eOp1 (fP isTup) (ePk 5)))) (tOrD (tTru (toV (eOp1 (fP isTup) (ePk 6)))) (tNotD (tTru (toV (eCall 2 d__law_same_one (aCons (toV (eVar 5)) (aCons (toV (eVar 6)) (aNil))))))))) (sRet (eC (.bool false))) (sNil))))))))
    (sRet (eC (.bool false))))
def d__law_same : Dn.Env → Res R := mkF 2 8 b__law_same
def b__law_names : Dn.Env → SR := sSeq (sAsg 2 (eC (.str "abcdefghijklmnopqrstuvwxyz")))
    (sSeq (sAsg 3 (eOp2 fAdd (toV (eVar 2)) (toV (eC (.str "0123456789")))))
    (sSeq (sAsg 4 (eCallB 0 2 d__law_draw (aCons (toV (eC (.int 26))) (aNil))))
    (sSeq (sAsg 5 (eOp2 fIx (toV (eOpN fLst (aCons (toV (eC (.int 1))) (aCons (toV (eC (.int 3))) (aCons (toV (eC (.int 5))) (aCons (toV (eC (.int 7))) (aCons (toV (eC (.int 9))) (aCons (toV (eC (.int 11))) (aCons (toV (eC (.int 15))) (aCons (toV (eC (.int 17))) (aNil))))))))))) (toV (eCallB 0 2 d__law_draw (aCons (toV (eC (.int 8))) (aNil))))))
    (sSeq (sAsg 6 (eCallB 0 2 d__law_draw (aCons (toV (eC (.int 3))) (aNil))))
    (sSeq (sAsg 7 (eIxV 2 (toV (eCallB 0 2 d__law_draw (aCons (toV (eC (.int 26))) (aNil))))))
    (sSeq (sFor (gNm 8) (eRg1 (toV (eCallB 0 2 d__law_draw (aCons (toV (eC (.int 7))) (aNil))))) (sAsg 7 (eOp2 fAdd (toV (eVar 7)) (toV (eIxV 3 (toV (eCallB 0 2 d__law_draw (aCons (toV (eC (.int 36))) (aNil)))))))))
    (sSeq (sAsg 9 (eCallB 0 2 d__law_draw (aCons (toV (eOp2 fAdd (toV (eOp1 fLen (ePk 7))) (toV (eC (.int 1))))) (aNil))))
    (sSeq (sIf (tAndD (tBoolD (eOp2 fEq (toV (eVar 6)) (toV (eC (.int 2))))) (tBoolD (eOp2 fEq (toV (eOp2 fMod (toV (eOp1 fInt (ePk 4))) (toV (eC (.int 3))))) (toV (eC (.int 0)))))) (sSeq (sAsg 7 (eSl (toV (eOp2 fAdd (toV (eVar 7)) (toV (eC (.str "abcdefg"))))) (oNone) (oSome (toV (eC (.int 7))))))
    (sAsg 9 (eC (.int 7)))) (sNil))
    (sSeq (sAsg 10 (eOpN fLst (aNil)))
    (sSeq (sFor (gNm 8) (eRg1 (toV (eVar 1))) (sSeq (sAsg 11 (eIxV 2 (toV (eOp2 fMod (toV (eOp1 fInt (toV (eOp2 fAdd (toV (eVar 4)) (toV (eOp2 fMul (toV (eVar 8)) (toV (eVar 5)))))))) (toV (eC (.int 26)))))))
    (sIf (tBoolD (eOp2 fEq (toV (eVar 6)) (toV (eC (.int 0))))) (sApp 10 (eVar 11)) (sIf (tBoolD (eOp2 fEq (toV (eVar 6)) (toV (eC (.int 1))))) (sApp 10 (eOp2 fAdd (toV (eVar 11)) (toV (eSlV 7 (oNone) (oSome (toV (eOp2 fMod (toV (eOp1 fInt (toV (eOp2 fAdd (toV (eOp2 fMul (toV (eVar 8)) (toV (eC (.int 5))))) (toV (eVar 4)))))) (toV (eC (.int 8)))))))))) (sApp 10 (eOp2 fAdd (toV (eOp2 fAdd (toV (eSlV 7 (oNone) (oSome (toV (eVar 9))))) (toV (eVar 11)))) (toV (eSlV 7 (oSome (toV (eVar 9))) (oNone)))))))))
    (sRet (eVar 10))))))))))))
def d__law_names : Dn.Env → Res R := mkF 2 12 b__law_names
def b__law_q : Dn.Env → SR := sSeq (sAsg 2 (eOp1 fAbs (ePk 0)))
    (sSeq (sAsg 3 (eVar 1))
    (sSeq (sFor (gNm 4) (eRg1 (toV (eC (.int 3000)))) (sSeq (sIf (tBoolD (eOp2 fEq (toV (eVar 2)) (toV (eC (.int 0))))) (sRet (eOpN fTup (aCons (toV (eOp2 fFdiv (toV (eVar 0)) (toV (eVar 3)))) (aCons (toV (eOp2 fFdiv (toV (eVar 1)) (toV (eVar 3)))) (aNil))))) (sNil))
    (sSeq (sAsg 5 (eOp2 fMod (toV (eOp1 fInt (ePk 3))) (toV (eVar 2))))
    (sSeq (sAsg 3 (eVar 2))
    (sAsg 2 (eVar 5))))))
    (sRet (eOpN fTup (aCons (toV (eVar 0)) (aCons (toV (eVar 1)) (aNil)))))))
def d__law_q : Dn.Env → Res R := mkF 2 6 b__law_q
def b__law_words : Dn.Env → SR := sSeq (sAsg 2 (eCall 2 d__law_jar (aCons (toV (eVar 0)) (aCons (toV (eC (.int 1))) (aNil)))))
    (sSeq (sAsg 3 (eOpN fLst (aNil)))
    (sSeq (sFor (gNm 4) (eRg1 (toV (eOp2 fIx (toV (eOpN fLst (aCons (toV (eCallB 2 2 d__law_draw (aCons (toV (eC (.int 5))) (aNil)))) (aCons (toV (eOp2 fAdd (toV (eC (.int 13))) (toV (eCallB 2 2 d__law_draw (aCons (toV (eC (.int 48))) (aNil)))))) (aCons (toV (eC (.int 60))) (aNil)))))) (toV (eCallB 2 2 d__law_draw (aCons (toV (eC (.int 3))) (aNil))))))) (sSeq (sAsg 5 (eCall 2 d__law_jar (aCons (toV (eVar 0)) (aCons (toV (eOp2 fAdd (toV (eC (.int 2))) (toV (eOp2 fMod (toV (eOp1 fInt (ePk 4))) (toV (eC (.int 40))))))) (aNil)))))
    (sSeq (sAsg 6 (eLc [8] (eRg1 (toV (eOp2 fFdiv (toV (eVar 4)) (toV (eC (.int 40)))))) (gNm 8) (tTrue) (eCallB 5 2 d__law_draw (aCons (toV (eC (.int 20))) (aNil)))))
    (sSeq (sAsg 7 (eLc [8] (eRg1 (toV (eCallB 5 2 d__law_draw (aCons (toV (eC (.int 13))) (aNil))))) (gNm 8) (tTrue) (eIxV 1 (toV (eOp2 fMod (toV (eOp1 fInt (toV (eOp2 fAdd (toV (eCallB 5 2 d__law_draw (aCons (toV (eC (.int 400))) (aNil)))) (toV (eOp2 fMul (toV (eOp1 fLen (ePk 6))) (toV (eC (.int 7))))))))) (toV (eC (.int 20))))))))
    (sSeq (sIf (tAndD (tBoolD (eOp2 fGt (toV (eVar 4)) (toV (eC (.int 0))))) (tBoolD (eOp2 fEq (toV (eCallB 5 2 d__law_draw (aCons (toV (eC (.int 4))) (aNil)))) (toV (eC (.int 0)))))) (sAsg 7 (eOp1 fList (toV (eIxV 3 (toV (eOp2 fSub (toV (eVar 4)) (toV (eC (.int 1))))))))) (sNil))
    (sApp 3 (eOp1 fTuple (ePk 7))))))))
    (sRet (eVar 3))))
def d__law_words : Dn.Env → Res R := mkF 2 9 b__law_words
def b__law_counted : Dn.Env → SR := sSeq (sAsg 1 (eDic0))
    (sSeq (sFor (gNm 2) (eIt (toV (eVar 0))) (sFor (gNm 3) (eIt (toV (eVar 2))) (sSetD 1 (toV (eOp2 fAdd (toV (eDget 1 (toV (eVar 3)) (toV (eC (.int 0))))) (toV (eC (.int 1))))) (toV (eVar 3)))))
    (sRet (eOp1 fTuple (toV (eLc [3] (eIt (toV (eOp1 fSortedD (ePk 1)))) (gNm 3) (tTrue) (eOpN fTup (aCons (toV (eVar 3)) (aCons (toV (eDix 1 (toV (eVar 3)))) (aNil)))))))))
def d__law_counted : Dn.Env → Res R := mkF 1 4 b__law_counted
def b__law_counts_told : Dn.Env → SR := sSeq (sAsg 2 (eCallB 0 2 d__law_draw (aCons (toV (eOp2 fAdd (toV (eC (.int 1))) (toV (eOp1 fLen (ePk 1))))) (aNil))))
    (sSeq (sAsg 3 (eOp1 fRev (toV (eOp2 fAdd (toV (eSlV 1 (oSome (toV (eVar 2))) (oNone))) (toV (eSlV 1 (oNone) (oSome (toV (eVar 2)))))))))
    (sSeq (sAsg 4 (eOpN fLst (aNil)))
    (sSeq (sFor (gNm 5) (eIt (toV (eVar 1))) (sExt 4 (eOp1 fList (ePk 5))))
    (sSeq (sAsg 6 (eCall 1 d__law_counted (aCons (toV (eVar 1)) (aNil))))
    (sSeq (sFor (gTp 2 (gsCons (gNm 7) (gsCons (gNm 8) (gsNil)))) (eIt (toV (eOpN fLst (aCons (toV (eOpN fTup (aCons (toV (eVar 1)) (aCons (toV (eVar 6)) (aNil))))) (aCons (toV (eOpN fTup (aCons (toV (eVar 3)) (aCons (toV (eVar 6)) (aNil))))) (aCons (toV (eOpN fTup (aCons (toV (eOpN fLst (aCons (toV (eOp1 fTuple (ePk 4))) (aNil)))) (aCons (toV (eVar 6)) (aNil))))) (aCons (toV (eOpN fTup (aCons (toV (eSlV 1 (oNone) (oSome (toV (eVar 2))))) (aCons (toV (eC .none)) (aNil))))) (aCons (toV (eOpN fTup (aCons (toV (eSlV 1 (oSome (toV (eVar 2))) (oNone))) (aCons (toV (eC .none)) (aNil))))) (aNil))))))))) (sSeq (sIf (tBoolD (eOp2 fIs (toV (eVar 8)) (toV (eC .none)))) (sAsg 8 (eCall 1 d__law_counted (aCons (toV (eVar 7)) (aNil)))) (sNil))
    (sIf (tNotD (tTru (toV (eCall 2 d__law_same (aCons (toV (eCall 1 d_letter_counts (aCons (toV (eOp1 fTuple (ePk 7))) (aNil)))) (aCons (toV (eVar 8)) (aNil))))))) (sRet (eC (.bool false))) (sNil))))
    (sRet (eC (.bool true))))))))
def d__law_counts_told : Dn.Env → Res R := mkF 2 9 b__law_counts_told
def b__law_reserve : Dn.Env → SR := sSeq (sAsg 1 (eCallB 0 2 d__law_draw (aCons (toV (eC (.int 4))) (aNil))))
    (sSeq (sIf (tBoolD (eOp2 fEq (toV (eVar 1)) (toV (eC (.int 0))))) (sRet (eOpN fTup (aCons (toV (eC (.int 0))) (aCons (toV (eC (.int 1))) (aNil))))) (sNil))
    (sSeq (sIf (tBoolD (eOp2 fEq (toV (eVar 1)) (toV (eC (.int 1))))) (sRet (eCall 2 d__law_q (aCons (toV (eCallB 0 2 d__law_draw (aCons (toV (eC (.int 10))) (aNil)))) (aCons (toV (eOp2 fAdd (toV (eC (.int 1))) (toV (eCallB 0 2 d__law_draw (aCons (toV (eC (.int 9))) (aNil)))))) (aNil))))) (sNil))
    (sSeq (sIf (tBoolD (eOp2 fEq (toV (eVar 1)) (toV (eC (.int 2))))) (sRet (eCall 2 d__law_q (aCons (toV (eCallB 0 2 d__law_draw (aCons (toV (eC (.int 1000001))) (aNil)))) (aCons (toV (eC (.int 1000))) (aNil))))) (sNil))
    (sRet (eCall 2 d__law_q (aCons (toV (eCallB 0 2 d__law_draw (aCons (toV (eC (.int 2000))) (aNil)))) (aCons (toV (eOp2 fAdd (toV (eC (.int 1))) (toV (eCallB 0 2 d__law_draw (aCons (toV (eC (.int 1000))) (aNil)))))) (aNil))))))))
def d__law_reserve : Dn.Env → Res R := mkF 1 2 b__law_reserve
def b__law_count : Dn.Env → SR := sSeq (sAsg 2 (eCall 2 d__law_jar (aCons (toV (eVar 0)) (aCons (toV (eC (.int 42))) (aNil)))))
    (sSeq (sAsg 3 (eOp2 fIx (toV (eOpN fLst (aCons (toV (eC (.int 4))) (aCons (toV (eC (.int 60))) (aCons (toV (eC (.int 100001))) (aNil)))))) (toV (eCallB 2 2 d__law_draw (aCons (toV (eC (.int 3))) (aNil))))))
    (sSeq (sAsg 4 (eOpN fLst (aNil)))
    (sSeq (sFor (gNm 5) (eIt (toV (eSlV 1 (oNone) (oSome (toV (eOp2 fIx (toV (eOpN fLst (aCons (toV (eC (.int 3))) (aCons (toV (eCallB 2 2 d__law_draw (aCons (toV (eC (.int 21))) (aNil)))) (aCons (toV (eC (.int 20))) (aNil)))))) (toV (eCallB 2 2 d__law_draw (aCons (toV (eC (.int 3))) (aNil)))))))))) (sApp 4 (eOpN fTup (aCons (toV (eVar 5)) (aCons (toV (eOp2 fIx (toV (eOpN fLst (aCons (toV (eCallB 2 2 d__law_draw (aCons (toV (eVar 3)) (aNil)))) (aCons (toV (eC (.int 100000))) (aCons (toV (eC (.int 0))) (aCons (toV (eC (.int 1))) (aNil))))))) (toV (eCallB 2 2 d__law_draw (aCons (toV (eC (.int 4))) (aNil)))))) (aNil))))))
    (sRet (eOp1 fTuple (ePk 4))))))
def d__law_count : Dn.Env → Res R := mkF 2 6 b__law_count
def b__law_fits : Dn.Env → SR := sSeq (sIf (tOrD (tNotD (tTru (toV (eOp1 (fP isTup) (ePk 0))))) (tBoolD (eOp2 fNe (toV (eOp1 fLen (ePk 0))) (toV (eOp1 fLen (ePk 1)))))) (sRet (eC (.bool false))) (sNil))
    (sSeq (sAsg 3 (eOp2 fAdd (toV (eIxV 2 (toV (eC (.int 0))))) (toV (eIxV 2 (toV (eC (.int 1)))))))
    (sSeq (sFor (gNm 4) (eRg1 (toV (eOp1 fLen (ePk 1)))) (sSeq (sAsg 5 (eIxV 0 (toV (eVar 4))))
    (sSeq (sIf (tOrD (tNotD (tTru (toV (eOp1 (fP isTup) (ePk 5))))) (tOrD (tBoolD (eOp2 fNe (toV (eOp1 fLen (ePk 5))) (toV (eC (.int 2))))) (tBoolD (eOp2 fNe (toV (eIxV 5 (toV (eC (.int 0))))) (toV (eOp2 fIx (toV (eIxV 1 (toV (eVar 4)))) (toV (eC (.int 0))))))))) (sRet (eC (.bool false))) (sNil))
    (sSeq (sIf (tOrD (tNotD (tTru (toV (eOp1 (fP isInt) (toV (eIxV 5 (toV (eC (.int 1))))))))) (tTru (toV (eOp1 (fP isBool) (toV (eIxV 5 (toV (eC (.int 1))))))))) (sRet (eC (.bool false))) (sNil))
    (sIf (tOrD (tBoolD (eOp2 fLt (toV (eOp2 fMul (toV (eIxV 5 (toV (eC (.int 1))))) (toV (eIxV 2 (toV (eC (.int 1))))))) (toV (eOp2 fMul (toV (eOp2 fIx (toV (eIxV 1 (toV (eVar 4)))) (toV (eC (.int 1))))) (toV (eVar 3)))))) (tBoolD (eOp2 fGe (toV (eOp2 fMul (toV (eOp2 fSub (toV (eIxV 5 (toV (eC (.int 1))))) (toV (eC (.int 1))))) (toV (eIxV 2 (toV (eC (.int 1))))))) (toV (eOp2 fMul (toV (eOp2 fIx (toV (eIxV 1 (toV (eVar 4)))) (toV (eC (.int 1))))) (toV (eVar 3))))))) (sRet (eC (.bool false))) (sNil))))))
    (sRet (eC (.bool true)))))
def d__law_fits : Dn.Env → Res R := mkF 3 6 b__law_fits
def b__law_reserve_refuses : Dn.Env → SR := sSeq (sTryR 2 (sDrop (eCall 2 d_with_reserve (aCons (toV (eVar 0)) (aCons (toV (eVar 1)) (aNil))))) (h1 "BadBill" (.bool true)))
    (sRet (eC (.bool false)))
def d__law_reserve_refuses : Dn.Env → Res R := mkF 2 3 b__law_reserve_refuses
def b__law_reserves_told : Dn.Env → SR := sSeq (sAsg 2 (eCallB 0 1 d__law_reserve (aNil)))
    (sSeq (sAsg 3 (eCallB 0 1 d__law_reserve (aNil)))
    (sSeq (sAsg 4 (eCall 2 d__law_q (aCons (toV (eOp2 fAdd (toV (eOp2 fMul (toV (eIxV 2 (toV (eC (.int 0))))) (toV (eIxV 3 (toV (eC (.int 1))))))) (toV (eOp2 fMul (toV (eIxV 3 (toV (eC (.int 0))))) (toV (eIxV 2 (toV (eC (.int 1))))))))) (aCons (toV (eOp2 fMul (toV (eIxV 2 (toV (eC (.int 1))))) (toV (eIxV 3 (toV (eC (.int 1))))))) (aNil)))))
    (sSeq (sAsg 5 (eCall 2 d_with_reserve (aCons (toV (eVar 1)) (aCons (toV (eVar 2)) (aNil)))))
    (sSeq (sIf (tOrD (tNotD (tTru (toV (eCall 3 d__law_fits (aCons (toV (eVar 5)) (aCons (toV (eVar 1)) (aCons (toV (eVar 2)) (aNil)))))))) (tNotD (tTru (toV (eCall 3 d__law_fits (aCons (toV (eCall 2 d_with_reserve (aCons (toV (eVar 1)) (aCons (toV (eVar 3)) (aNil))))) (aCons (toV (eVar 1)) (aCons (toV (eVar 3)) (aNil))))))))) (sRet (eC (.bool false))) (sNil))
    (sSeq (sIf (tBoolD (eOp2 fGt (toV (eOp1 fMax1 (toV (eOp2 fAdd (toV (eOpN fLst (aCons (toV (eC (.int 0))) (aNil)))) (toV (eLc [9] (eIt (toV (eVar 5))) (gNm 9) (tTrue) (eIxV 9 (toV (eC (.int 1)))))))))) (toV (eC (.int 100000))))) (sRet (eCall 2 d__law_reserve_refuses (aCons (toV (eVar 5)) (aCons (toV (eVar 3)) (aNil))))) (sNil))
    (sSeq (sAsg 6 (eCall 2 d_with_reserve (aCons (toV (eVar 5)) (aCons (toV (eVar 3)) (aNil)))))
    (sSeq (sIf (tNotD (tTru (toV (eCall 3 d__law_fits (aCons (toV (eVar 6)) (aCons (toV (eVar 5)) (aCons (toV (eVar 3)) (aNil)))))))) (sRet (eC (.bool false))) (sNil))
    (sSeq (sIf (tOrD (tBoolD (eOp2 fGt (toV (eIxV 4 (toV (eC (.int 0))))) (toV (eC (.int 1000000))))) (tBoolD (eOp2 fGt (toV (eIxV 4 (toV (eC (.int 1))))) (toV (eC (.int 1000)))))) (sRet (eC (.bool true))) (sNil))
    (sSeq (sAsg 7 (eCall 2 d_with_reserve (aCons (toV (eVar 1)) (aCons (toV (eVar 4)) (aNil)))))
    (sSeq (sIf (tNotD (tTru (toV (eCall 3 d__law_fits (aCons (toV (eVar 7)) (aCons (toV (eVar 1)) (aCons (toV (eVar 4)) (aNil)))))))) (sRet (eC (.bool false))) (sNil))
    (sRet (eOp2 fEq (toV (eOp1 fLen (toV (eLc [8] (eRg1 (toV (eOp1 fLen (ePk 7)))) (gNm 8) (tBoolD (eOp2 fGt (toV (eOp2 fIx (toV (eIxV 7 (toV (eVar 8)))) (toV (eC (.int 1))))) (toV (eOp2 fIx (toV (eIxV 6 (toV (eVar 8)))) (toV (eC (.int 1))))))) (eVar 8))))) (toV (eC (.int 0)))))))))))))))
def d__law_reserves_told : Dn.Env → Res R := mkF 2 10 b__law_reserves_told
def b_law : Dn.Env → SR := sSeq (sAsg 1 (eCall 2 d__law_jar (aCons (toV (eVar 0)) (aCons (toV (eC (.int 0))) (aNil)))))
    (sSeq (sAsg 2 (eCallB 1 2 d__law_names (aCons (toV (eC (.int 20))) (aNil))))
    (sSeq (sAsg 3 (eCall 2 d__law_words (aCons (toV (eVar 0)) (aCons (toV (eVar 2)) (aNil)))))
    (sSeq (sIf (tNotD (tTru (toV (eCallB 1 2 d__law_counts_told (aCons (toV (eVar 3)) (aNil)))))) (sRet (eC (.bool false))) (sNil))
    (sSeq (sAsg 4 (eCall 2 d__law_count (aCons (toV (eVar 0)) (aCons (toV (eVar 2)) (aNil)))))
    (sSeq (sFor (gNm 5) (eRg1 (toV (eC (.int 3)))) (sIf (tNotD (tTru (toV (eCallB 1 2 d__law_reserves_told (aCons (toV (eVar 4)) (aNil)))))) (sRet (eC (.bool false))) (sNil)))
    (sSeq (sAsg 6 (eOp2 fIx (toV (eCallB 1 2 d__law_names (aCons (toV (eC (.int 26))) (aNil)))) (toV (eC (.int 25)))))
    (sSeq (sAsg 7 (eLc [9] (eIt (toV (eVar 4))) (gNm 9) (tBoolD (eOp2 fNe (toV (eIxV 9 (toV (eC (.int 0))))) (toV (eVar 6)))) (eVar 9)))
    (sSeq (sIf (tNotD (tTru (toV (eCall 2 d__law_reserve_refuses (aCons (toV (eOp1 fTuple (toV (eOp2 fAdd (toV (eVar 7)) (toV (eOpN fLst (aCons (toV (eOpN fTup (aCons (toV (eVar 6)) (aCons (toV (eC (.int 100001))) (aNil))))) (aNil)))))))) (aCons (toV (eOpN fTup (aCons (toV (eC (.int 0))) (aCons (toV (eC (.int 1))) (aNil))))) (aNil))))))) (sRet (eC (.bool false))) (sNil))
    (sSeq (sAsg 8 (eOp1 fTuple (toV (eOp2 fAdd (toV (eVar 7)) (toV (eOpN fLst (aCons (toV (eOpN fTup (aCons (toV (eVar 6)) (aCons (toV (eC (.int 100000))) (aNil))))) (aNil))))))))
    (sRet (eAndD (eCall 2 d__law_same (aCons (toV (eCall 2 d_with_reserve (aCons (toV (eVar 8)) (aCons (toV (eOpN fTup (aCons (toV (eC (.int 0))) (aCons (toV (eC (.int 1))) (aNil))))) (aNil))))) (aCons (toV (eVar 8)) (aNil)))) (eCall 3 d__law_fits (aCons (toV (eCall 2 d_with_reserve (aCons (toV (eCall 1 d__law_counted (aCons (toV (eVar 3)) (aNil)))) (aCons (toV (eOpN fTup (aCons (toV (eC (.int 1))) (aCons (toV (eC (.int 4))) (aNil))))) (aNil))))) (aCons (toV (eCall 1 d__law_counted (aCons (toV (eVar 3)) (aNil)))) (aCons (toV (eOpN fTup (aCons (toV (eC (.int 1))) (aCons (toV (eC (.int 4))) (aNil))))) (aNil))))))))))))))))
def d_law : Dn.Env → Res R := mkF 1 10 b_law
end
end Law
set_option Elab.async false
set_option linter.all false
set_option maxRecDepth 100000
set_option maxHeartbeats 1000000
/-! Dm1: plain Lean about dens: evaluation by simp, loops by rules -/
namespace Dn
open PySem L2

/-! ### evaluation -/
section
variable {α β : Type} {ρ : Dn.Env} {s t : Dn.Env → SR} {i j : Nat} {a b : Dn.Env → Res D} {m : Dn.Env → Res R} {tb tc : Dn.Env → Res Bool} {f : D → D → Option R}
@[simp] theorem gS_zero {s : Sl} {r : Dn.Env} : gS (s :: r) 0 = s := id rfl
@[simp] theorem gS_succ {s : Sl} {r : Dn.Env} {i : Nat} : gS (s :: r) (i + 1) = gS r i := id rfl
@[simp] theorem sS_zero {s t : Sl} {r : Dn.Env} : sS (s :: r) 0 t = t :: r := id rfl
@[simp] theorem sS_succ {s t : Sl} {r : Dn.Env} {i : Nat} : sS (s :: r) (i + 1) t = s :: sS r i t := id rfl
@[simp] theorem toD_val {d : D} : (R.val d).toD = d := id rfl
@[simp] theorem toD_fresh {c : Cell} : (R.fresh c).toD = c.toD := id rfl
@[simp] theorem toD_lst {xs : List D} : (Cell.lst xs).toD = .list xs := id rfl
@[simp] theorem sl_val {d : D} : (R.val d).sl = .val d := id rfl
@[simp] theorem sl_fresh {c : Cell} : (R.fresh c).sl = .own c := id rfl
theorem ite_b {γ : Sort _} {c : Bool} {x y : γ} : (match c with | true => x | false => y) = if c = true then x else y := by cases c <;> rfl
def toVk (r : Res R) : Res D := bindR r fun r ρ1 => .ok r.toD ρ1
@[simp] theorem toVk_ok {r : R} : toVk (.ok r ρ) = .ok r.toD ρ := id rfl
@[simp] theorem toVk_exc {c : Str} : toVk (.exc c ρ) = .exc c ρ := id rfl
@[simp] theorem toV_ap : toV m ρ = toVk (m ρ) := id rfl
def o2b (f : D → D → Option R) (x : D) (r : Res D) : Res R := bindR r fun y ρ2 => optR (f x y) ρ2
@[simp] theorem o2b_ok {x y : D} : o2b f x (.ok y ρ) = optR (f x y) ρ := id rfl
@[simp] theorem o2b_exc {x : D} {c : Str} : o2b f x (.exc c ρ) = .exc c ρ := id rfl
def o2a (f : D → D → Option R) (b : Dn.Env → Res D) (r : Res D) : Res R := bindR r fun x ρ1 => o2b f x (b ρ1)
@[simp] theorem o2a_ok {x : D} : o2a f b (.ok x ρ) = o2b f x (b ρ) := id rfl
@[simp] theorem o2a_exc {c : Str} : o2a f b (.exc c ρ) = .exc c ρ := id rfl
@[simp] theorem eOp2_ap : eOp2 f a b ρ = o2a f b (a ρ) := id rfl
def o1 (f : D → Option R) (r : Res D) : Res R := bindR r fun x ρ1 => optR (f x) ρ1
@[simp] theorem o1_ok {f : D → Option R} {x : D} : o1 f (.ok x ρ) = optR (f x) ρ := id rfl
@[simp] theorem o1_exc {f : D → Option R} {c : Str} : o1 f (.exc c ρ) = .exc c ρ := id rfl
@[simp] theorem eOp1_ap {f : D → Option R} : eOp1 f a ρ = o1 f (a ρ) := id rfl
def oN (f : List D → Option R) (r : Res (List D)) : Res R := bindR r fun x ρ1 => optR (f x) ρ1
@[simp] theorem oN_ok {f : List D → Option R} {x : List D} : oN f (.ok x ρ) = optR (f x) ρ := id rfl
@[simp] theorem oN_exc {f : List D → Option R} {c : Str} : oN f (.exc c ρ) = .exc c ρ := id rfl
@[simp] theorem eOpN_ap {f : List D → Option R} {a : Dn.Env → Res (List D)} : eOpN f a ρ = oN f (a ρ) := id rfl
@[simp] theorem eVar_ap : eVar i ρ = match gS ρ i with
  | .val d => .ok (.val d) ρ
  | .own c => .ok (.val c.toD) (sS ρ i (.val c.toD))
  | _ => .bad := id rfl
@[simp] theorem ePk_ap : ePk i ρ = match gS ρ i with
  | .val d => .ok d ρ
  | .own c => .ok c.toD ρ
  | .bor c => .ok c.toD ρ
  | .emp => .bad := id rfl
@[simp] theorem eC_ap {d : D} : eC d ρ = .ok (.val d) ρ := id rfl
@[simp] theorem aNil_ap : aNil ρ = .ok [] ρ := id rfl
def ac2 (x : D) (r : Res (List D)) : Res (List D) := bindR r fun xs ρ2 => .ok (x :: xs) ρ2
@[simp] theorem ac2_ok {x : D} {xs : List D} : ac2 x (.ok xs ρ) = .ok (x :: xs) ρ := id rfl
@[simp] theorem ac2_exc {x : D} {c : Str} : ac2 x (.exc c ρ) = .exc c ρ := id rfl
def ac1 (m : Dn.Env → Res (List D)) (r : Res D) : Res (List D) := bindR r fun x ρ1 => ac2 x (m ρ1)
@[simp] theorem ac1_ok {m : Dn.Env → Res (List D)} {x : D} : ac1 m (.ok x ρ) = ac2 x (m ρ) := id rfl
@[simp] theorem ac1_exc {m : Dn.Env → Res (List D)} {c : Str} : ac1 m (.exc c ρ) = .exc c ρ := id rfl
@[simp] theorem aCons_ap {r : Dn.Env → Res (List D)} : aCons a r ρ = ac1 r (a ρ) := id rfl
@[simp] theorem asB_b {c : Bool} : asB (.val (.bool c)) = some c := id rfl
def tBk (r : Res R) : Res Bool := bindR r fun r ρ1 => optR (asB r) ρ1
@[simp] theorem tBk_ok {r : R} : tBk (.ok r ρ) = optR (asB r) ρ := id rfl
@[simp] theorem tBk_exc {c : Str} : tBk (.exc c ρ) = .exc c ρ := id rfl
@[simp] theorem tBoolD_ap : tBoolD m ρ = tBk (m ρ) := id rfl
def tAk (t : Dn.Env → Res Bool) (r : Res Bool) : Res Bool := bindR r fun c ρ1 => if c = true then t ρ1 else .ok false ρ1
@[simp] theorem tAk_ok {c : Bool} : tAk tc (.ok c ρ) = if c = true then tc ρ else .ok false ρ := id rfl
@[simp] theorem tAk_exc {c : Str} : tAk tc (.exc c ρ) = .exc c ρ := id rfl
@[simp] theorem tAndD_ap : tAndD tb tc ρ = tAk tc (tb ρ) := by
  unfold tAndD tAk; congr; funext c ρ1; cases c <;> rfl
def tOk (t : Dn.Env → Res Bool) (r : Res Bool) : Res Bool := bindR r fun c ρ1 => if c = true then .ok true ρ1 else t ρ1
@[simp] theorem tOk_ok {c : Bool} : tOk tc (.ok c ρ) = if c = true then .ok true ρ else tc ρ := id rfl
@[simp] theorem tOk_exc {c : Str} : tOk tc (.exc c ρ) = .exc c ρ := id rfl
@[simp] theorem tOrD_ap : tOrD tb tc ρ = tOk tc (tb ρ) := by
  unfold tOrD tOk; congr; funext c ρ1; cases c <;> rfl
def tNk (r : Res Bool) : Res Bool := bindR r fun c ρ1 => .ok (!c) ρ1
@[simp] theorem tNk_ok {c : Bool} : tNk (.ok c ρ) = .ok (!c) ρ := id rfl
@[simp] theorem tNk_exc {c : Str} : tNk (.exc c ρ) = .exc c ρ := id rfl
@[simp] theorem tNotD_ap : tNotD tb ρ = tNk (tb ρ) := id rfl
def andR (r : R) (k : Dn.Env → Res R) (ρ : Dn.Env) : Res R := match r with | .val (.bool c) => if c = true then k ρ else .ok (.val (.bool false)) ρ | _ => .bad
def orR (r : R) (k : Dn.Env → Res R) (ρ : Dn.Env) : Res R := match r with | .val (.bool c) => if c = true then .ok (.val (.bool true)) ρ else k ρ | _ => .bad
@[simp] theorem andR_b {c : Bool} {k : Dn.Env → Res R} : andR (.val (.bool c)) k ρ = if c = true then k ρ else .ok (.val (.bool false)) ρ := id rfl
@[simp] theorem orR_b {c : Bool} {k : Dn.Env → Res R} : orR (.val (.bool c)) k ρ = if c = true then .ok (.val (.bool true)) ρ else k ρ := id rfl
variable {x y : Dn.Env → Res R}
def eAk (y : Dn.Env → Res R) (r : Res R) : Res R := bindR r fun r ρ1 => andR r y ρ1
@[simp] theorem eAk_ok {r : R} : eAk y (.ok r ρ) = andR r y ρ := id rfl
@[simp] theorem eAk_exc {c : Str} : eAk y (.exc c ρ) = .exc c ρ := id rfl
@[simp] theorem eAndD_ap : eAndD x y ρ = eAk y (x ρ) := by
  unfold eAndD eAk; congr; funext r ρ1
  unfold andR
  cases r with
  | fresh c => rfl
  | val d => cases d with
    | bool b => cases b <;> rfl
    | _ => rfl
def eOk (y : Dn.Env → Res R) (r : Res R) : Res R := bindR r fun r ρ1 => orR r y ρ1
@[simp] theorem eOk_ok {r : R} : eOk y (.ok r ρ) = orR r y ρ := id rfl
@[simp] theorem eOk_exc {c : Str} : eOk y (.exc c ρ) = .exc c ρ := id rfl
@[simp] theorem eOrD_ap : eOrD x y ρ = eOk y (x ρ) := by
  unfold eOrD eOk; congr; funext r ρ1
  unfold orR
  cases r with
  | fresh c => rfl
  | val d => cases d with
    | bool b => cases b <;> rfl
    | _ => rfl
def notR (r : R) (ρ : Dn.Env) : Res R := match r with | .val (.bool c) => .ok (.val (.bool (!c))) ρ | _ => .bad
@[simp] theorem notR_b {c : Bool} : notR (.val (.bool c)) ρ = .ok (.val (.bool (!c))) ρ := id rfl
def eNk (r : Res R) : Res R := bindR r fun r ρ1 => notR r ρ1
@[simp] theorem eNk_ok {r : R} : eNk (.ok r ρ) = notR r ρ := id rfl
@[simp] theorem eNk_exc {c : Str} : eNk (.exc c ρ) = .exc c ρ := id rfl
@[simp] theorem eNotD_ap : eNotD x ρ = eNk (x ρ) := by
  rfl
def eIk (x y : Dn.Env → Res R) (r : Res Bool) : Res R := bindR r fun c ρ1 => if c = true then x ρ1 else y ρ1
@[simp] theorem eIk_ok {c : Bool} : eIk x y (.ok c ρ) = if c = true then x ρ else y ρ := id rfl
@[simp] theorem eIk_exc {c : Str} : eIk x y (.exc c ρ) = .exc c ρ := id rfl
@[simp] theorem eIfD_ap : eIfD tb x y ρ = eIk x y (tb ρ) := by
  unfold eIfD eIk; congr; funext c ρ1; cases c <;> rfl
def ch4 (g : D → D → Option R) (y : D) (c : Dn.Env → Res D) : Dn.Env → Res R := fun ρ => o2b g y (c ρ)
@[simp] theorem ch4_ap {g : D → D → Option R} {y : D} {c : Dn.Env → Res D} : ch4 g y c ρ = o2b g y (c ρ) := id rfl
def ch3 (g : D → D → Option R) (y : D) (c : Dn.Env → Res D) (r : Res R) : Res R := bindR r fun r ρ3 => andR r (ch4 g y c) ρ3
@[simp] theorem ch3_ok {g : D → D → Option R} {y : D} {c : Dn.Env → Res D} {r : R} : ch3 g y c (.ok r ρ) = andR r (ch4 g y c) ρ := id rfl
def ch2 (f g : D → D → Option R) (x : D) (c : Dn.Env → Res D) (r : Res D) : Res R := bindR r fun y ρ2 => ch3 g y c (optR (f x y) ρ2)
@[simp] theorem ch2_ok {f g : D → D → Option R} {x y : D} {c : Dn.Env → Res D} : ch2 f g x c (.ok y ρ) = ch3 g y c (optR (f x y) ρ) := id rfl
@[simp] theorem ch2_exc {f g : D → D → Option R} {x : D} {c : Dn.Env → Res D} {z : Str} : ch2 f g x c (.exc z ρ) = .exc z ρ := id rfl
def ch1 (f g : D → D → Option R) (b c : Dn.Env → Res D) (r : Res D) : Res R := bindR r fun x ρ1 => ch2 f g x c (b ρ1)
@[simp] theorem ch1_ok {f g : D → D → Option R} {x : D} {b c : Dn.Env → Res D} : ch1 f g b c (.ok x ρ) = ch2 f g x c (b ρ) := id rfl
@[simp] theorem ch1_exc {f g : D → D → Option R} {b c : Dn.Env → Res D} {z : Str} : ch1 f g b c (.exc z ρ) = .exc z ρ := id rfl
@[simp] theorem eChain_ap {f g : D → D → Option R} {a b c : Dn.Env → Res D} : eChain f g a b c ρ = ch1 f g b c (a ρ) := by
  unfold eChain ch1 ch2 ch3 ch4; congr; funext x ρ1; congr; funext y ρ2; congr; funext r ρ3
  unfold andR o2b
  cases r with
  | fresh c => rfl
  | val d => cases d with
    | bool b => cases b <;> rfl
    | _ => rfl
def tTk (r : Res D) : Res Bool := bindR r fun d ρ1 => optR (truD d) ρ1
@[simp] theorem tTk_ok {d : D} : tTk (.ok d ρ) = optR (truD d) ρ := id rfl
@[simp] theorem tTk_exc {c : Str} : tTk (.exc c ρ) = .exc c ρ := id rfl
@[simp] theorem tTru_ap : tTru a ρ = tTk (a ρ) := id rfl
@[simp] theorem truD_bool {c : Bool} : truD (.bool c) = some c := id rfl
@[simp] theorem truD_int {i : Int} : truD (.int i) = some (i != 0) := id rfl
@[simp] theorem truD_non : truD .none = some false := id rfl
@[simp] theorem truD_list {ds : List D} : truD (.list ds) = some (!ds.isEmpty) := id rfl
@[simp] theorem truD_tuple {ds : List D} : truD (.tuple ds) = some (!ds.isEmpty) := id rfl
@[simp] theorem sSeq_ap : sSeq s t ρ = bindS (s ρ) t := id rfl
@[simp] theorem sNil_ap : sNil ρ = .nx ρ := id rfl
def sIk (s t : Dn.Env → SR) (r : Res Bool) : SR := bindRS r fun c ρ1 => if c = true then s ρ1 else t ρ1
@[simp] theorem sIk_ok {c : Bool} : sIk s t (.ok c ρ) = if c = true then s ρ else t ρ := id rfl
@[simp] theorem sIk_exc {c : Str} : sIk s t (.exc c ρ) = .exc c ρ := id rfl
@[simp] theorem sIf_ap : sIf tb s t ρ = sIk s t (tb ρ) := by
  unfold sIf sIk; congr; funext c ρ1; cases c <;> rfl
def sRk (r : Res R) : SR := bindRS r fun r ρ1 => .ret r ρ1
@[simp] theorem sRk_ok {r : R} : sRk (.ok r ρ) = .ret r ρ := id rfl
@[simp] theorem sRk_exc {c : Str} : sRk (.exc c ρ) = .exc c ρ := id rfl
@[simp] theorem sRet_ap : sRet m ρ = sRk (m ρ) := id rfl
@[simp] theorem sRetN_ap : sRetN ρ = .ret (.val .none) ρ := id rfl
def sDk (r : Res R) : SR := bindRS r fun _ ρ1 => .nx ρ1
@[simp] theorem sDk_ok {r : R} : sDk (.ok r ρ) = .nx ρ := id rfl
@[simp] theorem sDk_exc {c : Str} : sDk (.exc c ρ) = .exc c ρ := id rfl
@[simp] theorem sDrop_ap : sDrop m ρ = sDk (m ρ) := id rfl
def sAk (i : Nat) (r : Res R) : SR := bindRS r fun r ρ1 => putR i r ρ1
@[simp] theorem sAk_ok {r : R} : sAk i (.ok r ρ) = putR i r ρ := id rfl
@[simp] theorem sAk_exc {c : Str} : sAk i (.exc c ρ) = .exc c ρ := id rfl
@[simp] theorem sAsg_ap : sAsg i m ρ = sAk i (m ρ) := id rfl
theorem putR_ap {r : R} : putR i r ρ = match gS ρ i with
  | .bor _ => .bad
  | _ => .nx (sS ρ i r.sl) := id rfl
def ofO (o : Option Dn.Env) : SR := match o with
  | some ρ2 => .nx ρ2
  | none => .bad
@[simp] theorem ofO_some : ofO (some ρ) = .nx ρ := id rfl
def sGk (g : D → Dn.Env → Option Dn.Env) (r : Res D) : SR := bindRS r fun d ρ1 => ofO (g d ρ1)
@[simp] theorem sGk_ok {g : D → Dn.Env → Option Dn.Env} {d : D} : sGk g (.ok d ρ) = ofO (g d ρ) := id rfl
@[simp] theorem sGk_exc {g : D → Dn.Env → Option Dn.Env} {c : Str} : sGk g (.exc c ρ) = .exc c ρ := id rfl
@[simp] theorem sAsgG_ap {g : D → Dn.Env → Option Dn.Env} : sAsgG g a ρ = sGk g (a ρ) := id rfl
def sP2 (i j : Nat) (ds : List D) (ρ : Dn.Env) : SR := match ds with
  | [x, y] => bindS (putR i (.val x) ρ) (putR j (.val y))
  | _ => .bad
@[simp] theorem sP2_2 {x y : D} : sP2 i j [x, y] ρ = bindS (putR i (.val x) ρ) (putR j (.val y)) := id rfl
def sPk (i j : Nat) (r : Res (List D)) : SR := bindRS r fun ds ρ1 => sP2 i j ds ρ1
@[simp] theorem sPk_ok {ds : List D} : sPk i j (.ok ds ρ) = sP2 i j ds ρ := id rfl
@[simp] theorem sPk_exc {c : Str} : sPk i j (.exc c ρ) = .exc c ρ := id rfl
@[simp] theorem sPar_ap {m : Dn.Env → Res (List D)} : sPar i j m ρ = sPk i j (m ρ) := by
  rfl
theorem gNm_ap {d : D} : gNm i d ρ = match gS ρ i with
  | .bor _ => none
  | _ => some (sS ρ i (.val d)) := id rfl
@[simp] theorem gTp_ap {n : Nat} {g : List D → Dn.Env → Option Dn.Env} {ds : List D} : gTp n g (.tuple ds) ρ = if ds.length = n then g ds ρ else none := id rfl
@[simp] theorem gsNil_ap : gsNil [] ρ = some ρ := id rfl
def gcK (h : List D → Dn.Env → Option Dn.Env) (ds : List D) (o : Option Dn.Env) : Option Dn.Env := o.bind fun ρ1 => h ds ρ1
@[simp] theorem gcK_some {h : List D → Dn.Env → Option Dn.Env} {ds : List D} : gcK h ds (some ρ) = h ds ρ := id rfl
@[simp] theorem gsCons_ap {g : D → Dn.Env → Option Dn.Env} {h : List D → Dn.Env → Option Dn.Env} {d : D} {ds : List D} : gsCons g h (d :: ds) ρ = gcK h ds (g d ρ) := by
  show (match g d ρ with | some ρ1 => h ds ρ1 | none => none) = _
  cases g d ρ <;> rfl
def sFk (g : D → Dn.Env → Option Dn.Env) (s : Dn.Env → SR) (r : Res (List D)) : SR := bindRS r fun ds ρ1 => forL g s ds ρ1
@[simp] theorem sFk_ok {g : D → Dn.Env → Option Dn.Env} {ds : List D} : sFk g s (.ok ds ρ) = forL g s ds ρ := id rfl
@[simp] theorem sFk_exc {g : D → Dn.Env → Option Dn.Env} {c : Str} : sFk g s (.exc c ρ) = .exc c ρ := id rfl
@[simp] theorem sFor_ap {g : D → Dn.Env → Option Dn.Env} {m : Dn.Env → Res (List D)} : sFor g m s ρ = sFk g s (m ρ) := id rfl
theorem sWhile_ap : sWhile tb s ρ = whileL tb s fuel ρ := rfl
def itk (r : Res D) : Res (List D) := bindR r fun d ρ1 => optR (iterD d) ρ1
@[simp] theorem itk_ok {d : D} : itk (.ok d ρ) = optR (iterD d) ρ := id rfl
@[simp] theorem itk_exc {c : Str} : itk (.exc c ρ) = .exc c ρ := id rfl
@[simp] theorem eIt_ap : eIt a ρ = itk (a ρ) := id rfl
@[simp] theorem iterD_list {ds : List D} : iterD (.list ds) = some ds := id rfl
@[simp] theorem iterD_tuple {ds : List D} : iterD (.tuple ds) = some ds := id rfl
@[simp] theorem iterD_str {z : Str} : iterD (.str z) = some (z.cps.toList.map fun c => .str ⟨#[c]⟩) := id rfl
def rg1k (r : Res D) : Res (List D) := bindR r fun d ρ1 => optR (rg1 d) ρ1
@[simp] theorem rg1k_ok {d : D} : rg1k (.ok d ρ) = optR (rg1 d) ρ := id rfl
@[simp] theorem rg1k_exc {c : Str} : rg1k (.exc c ρ) = .exc c ρ := id rfl
@[simp] theorem eRg1_ap : eRg1 a ρ = rg1k (a ρ) := id rfl
def rgA : List D → Option (List D)
  | [a, b] => rg2 a b
  | _ => none
@[simp] theorem rgA_2 {a b : D} : rgA [a, b] = rg2 a b := id rfl
def rg2k (r : Res (List D)) : Res (List D) := bindR r fun d ρ1 => optR (rgA d) ρ1
@[simp] theorem rg2k_ok {d : List D} : rg2k (.ok d ρ) = optR (rgA d) ρ := id rfl
@[simp] theorem rg2k_exc {c : Str} : rg2k (.exc c ρ) = .exc c ρ := id rfl
@[simp] theorem eRg2_ap {m : Dn.Env → Res (List D)} : eRg2 m ρ = rg2k (m ρ) := by
  unfold eRg2 rg2k; congr; funext ds ρ1
  match ds with
  | [] => rfl
  | [_] => rfl
  | [_, _] => rfl
  | _ :: _ :: _ :: _ => rfl
theorem rg1_ok {n : Int} (h1 : -4611686018427387904 ≤ n) (h2 : n < 4611686018427387904) : rg1 (.int n) = some (rgD 0 n.toNat) := by
  show (if inB n = true then _ else _) = _
  rw [if_pos]
  unfold inB
  exact decide_eq_true ⟨h1, h2⟩
theorem rg2_ok {a b : Int} (h1 : -4611686018427387904 ≤ a) (h2 : a < 4611686018427387904) (h3 : -4611686018427387904 ≤ b) (h4 : b < 4611686018427387904) : rg2 (.int a) (.int b) = some (rgD a (b - a).toNat) := by
  show (if inB a = true ∧ inB b = true then _ else _) = _
  rw [if_pos]
  unfold inB
  exact ⟨decide_eq_true ⟨h1, h2⟩, decide_eq_true ⟨h3, h4⟩⟩
@[simp] theorem oNone_ap : oNone ρ = .ok none ρ := id rfl
@[simp] theorem asI_int {i : Int} : asI (.int i) = some (some i) := id rfl
def osk (r : Res D) : Res (Option Int) := bindR r fun d ρ1 => optR (asI d) ρ1
@[simp] theorem osk_ok {d : D} : osk (.ok d ρ) = optR (asI d) ρ := id rfl
@[simp] theorem oSome_ap : oSome a ρ = osk (a ρ) := id rfl
def sl4 (lo hi : Option Int) (r : Res D) : Res R := bindR r fun x ρ3 => optR (fSl x lo hi) ρ3
@[simp] theorem sl4_ok {lo hi : Option Int} {x : D} : sl4 lo hi (.ok x ρ) = optR (fSl x lo hi) ρ := id rfl
def sl3 (i : Nat) (lo : Option Int) (r : Res (Option Int)) : Res R := bindR r fun hi ρ2 => sl4 lo hi (ePk i ρ2)
@[simp] theorem sl3_ok {lo hi : Option Int} : sl3 i lo (.ok hi ρ) = sl4 lo hi (ePk i ρ) := id rfl
def sl2 (i : Nat) (mh : Dn.Env → Res (Option Int)) (r : Res (Option Int)) : Res R := bindR r fun lo ρ1 => sl3 i lo (mh ρ1)
@[simp] theorem sl2_ok {lo : Option Int} {mh : Dn.Env → Res (Option Int)} : sl2 i mh (.ok lo ρ) = sl3 i lo (mh ρ) := id rfl
def sl1 (i : Nat) (ml mh : Dn.Env → Res (Option Int)) (ρ : Dn.Env) (r : Res D) : Res R := bindR r fun _ _ => sl2 i mh (ml ρ)
@[simp] theorem sl1_ok {ml mh : Dn.Env → Res (Option Int)} {x : D} {ρ' : Dn.Env} : sl1 i ml mh ρ (.ok x ρ') = sl2 i mh (ml ρ) := id rfl
@[simp] theorem eSlV_ap {ml mh : Dn.Env → Res (Option Int)} : eSlV i ml mh ρ = sl1 i ml mh ρ (ePk i ρ) := id rfl
def sm3 (x : D) (lo : Option Int) (r : Res (Option Int)) : Res R := bindR r fun hi ρ2 => optR (fSl x lo hi) ρ2
@[simp] theorem sm3_ok {x : D} {lo hi : Option Int} : sm3 x lo (.ok hi ρ) = optR (fSl x lo hi) ρ := id rfl
def sm2 (x : D) (mh : Dn.Env → Res (Option Int)) (r : Res (Option Int)) : Res R := bindR r fun lo ρ1 => sm3 x lo (mh ρ1)
@[simp] theorem sm2_ok {x : D} {lo : Option Int} {mh : Dn.Env → Res (Option Int)} : sm2 x mh (.ok lo ρ) = sm3 x lo (mh ρ) := id rfl
def sm1 (ml mh : Dn.Env → Res (Option Int)) (r : Res D) : Res R := bindR r fun x ρ0 => sm2 x mh (ml ρ0)
@[simp] theorem sm1_ok {ml mh : Dn.Env → Res (Option Int)} {x : D} : sm1 ml mh (.ok x ρ) = sm2 x mh (ml ρ) := id rfl
@[simp] theorem eSl_ap {ml mh : Dn.Env → Res (Option Int)} : eSl a ml mh ρ = sm1 ml mh (a ρ) := id rfl
def ix3 (y : D) (r : Res D) : Res R := bindR r fun x ρ2 => optR (fIx x y) ρ2
@[simp] theorem ix3_ok {x y : D} : ix3 y (.ok x ρ) = optR (fIx x y) ρ := id rfl
def ix2 (i : Nat) (r : Res D) : Res R := bindR r fun y ρ1 => ix3 y (ePk i ρ1)
@[simp] theorem ix2_ok {y : D} : ix2 i (.ok y ρ) = ix3 y (ePk i ρ) := id rfl
@[simp] theorem ix2_exc {c : Str} : ix2 i (.exc c ρ) = .exc c ρ := id rfl
def ix1 (i : Nat) (a : Dn.Env → Res D) (ρ : Dn.Env) (r : Res D) : Res R := bindR r fun _ _ => ix2 i (a ρ)
@[simp] theorem ix1_ok {x : D} {ρ' : Dn.Env} : ix1 i a ρ (.ok x ρ') = ix2 i (a ρ) := id rfl
@[simp] theorem eIxV_ap : eIxV i a ρ = ix1 i a ρ (ePk i ρ) := id rfl
def ofCall (r : Res R) (ρ : Dn.Env) : Res R := match r with
  | .ok r _ => .ok r ρ
  | .exc c _ => .exc c ρ
  | .bad => .bad
@[simp] theorem ofCall_ok {r : R} {ρ' : Dn.Env} : ofCall (.ok r ρ') ρ = .ok r ρ := id rfl
@[simp] theorem ofCall_exc {c : Str} {ρ' : Dn.Env} : ofCall (.exc c ρ') ρ = .exc c ρ := id rfl
def clk (n : Nat) (f : Dn.Env → Res R) (r : Res (List D)) : Res R := bindR r fun ds ρ1 => if ds.length = n then ofCall (f (vals ds)) ρ1 else .bad
@[simp] theorem clk_ok {n : Nat} {f : Dn.Env → Res R} {ds : List D} : clk n f (.ok ds ρ) = if ds.length = n then ofCall (f (vals ds)) ρ else .bad := id rfl
@[simp] theorem clk_exc {n : Nat} {f : Dn.Env → Res R} {c : Str} : clk n f (.exc c ρ) = .exc c ρ := id rfl
@[simp] theorem eCall_ap {n : Nat} {f : Dn.Env → Res R} {m : Dn.Env → Res (List D)} : eCall n f m ρ = clk n f (m ρ) := id rfl
@[simp] theorem vals_nil : vals [] = [] := id rfl
@[simp] theorem vals_cons {d : D} {ds : List D} : vals (d :: ds) = .val d :: vals ds := id rfl
@[simp] theorem lstAt_own {xs : List D} : lstAt (.own (.lst xs)) = some xs := id rfl
@[simp] theorem lstAt_bor {xs : List D} : lstAt (.bor (.lst xs)) = some xs := id rfl
@[simp] theorem lstTo_own {c : Cell} {xs : List D} : lstTo (.own c) xs = .own (.lst xs) := id rfl
@[simp] theorem lstTo_bor {c : Cell} {xs : List D} : lstTo (.bor c) xs = .bor (.lst xs) := id rfl
@[simp] theorem dicAt_own {xs : List (Key × D)} : dicAt (.own (.dic xs)) = some xs := id rfl
@[simp] theorem dicTo_own {c : Cell} {xs : List (Key × D)} : dicTo (.own c) xs = .own (.dic xs) := id rfl
def ap2 (i : Nat) (r : R) (s : Sl) (ρ : Dn.Env) : SR := match lstAt s with
  | some xs => if xs.length < 16777216 then .nx (sS ρ i (lstTo s (xs ++ [r.toD]))) else .bad
  | none => .bad
@[simp] theorem ap2_own {r : R} {xs : List D} : ap2 i r (.own (.lst xs)) ρ = if xs.length < 16777216 then .nx (sS ρ i (.own (.lst (xs ++ [r.toD])))) else .bad := id rfl
@[simp] theorem ap2_bor {r : R} {xs : List D} : ap2 i r (.bor (.lst xs)) ρ = if xs.length < 16777216 then .nx (sS ρ i (.bor (.lst (xs ++ [r.toD])))) else .bad := id rfl
def ap1 (i : Nat) (r : Res R) : SR := bindRS r fun r ρ1 => ap2 i r (gS ρ1 i) ρ1
@[simp] theorem ap1_ok {r : R} : ap1 i (.ok r ρ) = ap2 i r (gS ρ i) ρ := id rfl
@[simp] theorem ap1_exc {c : Str} : ap1 i (.exc c ρ) = .exc c ρ := id rfl
def apG (i : Nat) (k : Dn.Env → SR) (s : Sl) (ρ : Dn.Env) : SR := match lstAt s with
  | none => .bad
  | some _ => k ρ
@[simp] theorem apG_own {k : Dn.Env → SR} {xs : List D} : apG i k (.own (.lst xs)) ρ = k ρ := id rfl
@[simp] theorem apG_bor {k : Dn.Env → SR} {xs : List D} : apG i k (.bor (.lst xs)) ρ = k ρ := id rfl
def apK (i : Nat) (m : Dn.Env → Res R) : Dn.Env → SR := fun ρ => ap1 i (m ρ)
@[simp] theorem apK_ap : apK i m ρ = ap1 i (m ρ) := id rfl
@[simp] theorem sApp_ap : sApp i m ρ = apG i (apK i m) (gS ρ i) ρ := id rfl
def popS (i : Nat) (s : Sl) (ρ : Dn.Env) : Res R := match lstAt s with
  | some xs => match xs.getLast? with
    | some d => .ok (.val d) (sS ρ i (lstTo s xs.dropLast))
    | none => .bad
  | none => .bad
@[simp] theorem popS_own {xs : List D} {d : D} : popS i (.own (.lst (xs ++ [d]))) ρ = .ok (.val d) (sS ρ i (.own (.lst xs))) := by
  unfold popS
  simp
@[simp] theorem popS_bor {xs : List D} {d : D} : popS i (.bor (.lst (xs ++ [d]))) ρ = .ok (.val d) (sS ρ i (.bor (.lst xs))) := by
  unfold popS
  simp
@[simp] theorem ePop_ap : ePop i ρ = popS i (gS ρ i) ρ := id rfl
def ex2 (i : Nat) (r : R) (s : Sl) (ρ : Dn.Env) : SR := match lstAt s, r with
  | some xs, .fresh (.lst ys) => if xs.length + ys.length ≤ 16777216 then .nx (sS ρ i (lstTo s (xs ++ ys))) else .bad
  | _, _ => .bad
@[simp] theorem ex2_own {xs ys : List D} : ex2 i (.fresh (.lst ys)) (.own (.lst xs)) ρ = if xs.length + ys.length ≤ 16777216 then .nx (sS ρ i (.own (.lst (xs ++ ys)))) else .bad := id rfl
@[simp] theorem ex2_bor {xs ys : List D} : ex2 i (.fresh (.lst ys)) (.bor (.lst xs)) ρ = if xs.length + ys.length ≤ 16777216 then .nx (sS ρ i (.bor (.lst (xs ++ ys)))) else .bad := id rfl
def ex1 (i : Nat) (r : Res R) : SR := bindRS r fun r ρ1 => ex2 i r (gS ρ1 i) ρ1
@[simp] theorem ex1_ok {r : R} : ex1 i (.ok r ρ) = ex2 i r (gS ρ i) ρ := id rfl
def exK (i : Nat) (m : Dn.Env → Res R) : Dn.Env → SR := fun ρ => ex1 i (m ρ)
@[simp] theorem exK_ap : exK i m ρ = ex1 i (m ρ) := id rfl
@[simp] theorem sExt_ap : sExt i m ρ = apG i (exK i m) (gS ρ i) ρ := id rfl
def st3 (i : Nat) (x k : D) (s : Sl) (ρ : Dn.Env) : SR := match lstAt s, k with
  | some xs, .int n => match ixN xs.length n with
    | some j => .nx (sS ρ i (lstTo s (xs.set j x)))
    | none => .bad
  | _, _ => .bad
theorem ixN_get {n : Nat} {p : Int} (h0 : 0 ≤ p) (h1 : p < n) : ixN n p = some p.toNat := by
  unfold ixN
  rw [if_pos h0, if_pos h1]
@[simp] theorem st3_own {xs : List D} {x : D} {p : Int} (h0 : 0 ≤ p) (h1 : p < xs.length) : st3 i x (.int p) (.own (.lst xs)) ρ = .nx (sS ρ i (.own (.lst (xs.set p.toNat x)))) := by
  show (match ixN xs.length p with | some j => SR.nx (sS ρ i (.own (.lst (xs.set j x)))) | none => .bad) = _
  rw [ixN_get h0 h1]
@[simp] theorem st3_bor {xs : List D} {x : D} {p : Int} (h0 : 0 ≤ p) (h1 : p < xs.length) : st3 i x (.int p) (.bor (.lst xs)) ρ = .nx (sS ρ i (.bor (.lst (xs.set p.toNat x)))) := by
  show (match ixN xs.length p with | some j => SR.nx (sS ρ i (.bor (.lst (xs.set j x)))) | none => .bad) = _
  rw [ixN_get h0 h1]
def st2 (i : Nat) (x : D) (r : Res D) : SR := bindRS r fun k ρ2 => st3 i x k (gS ρ2 i) ρ2
@[simp] theorem st2_ok {x k : D} : st2 i x (.ok k ρ) = st3 i x k (gS ρ i) ρ := id rfl
def stK (i : Nat) (x : D) (b : Dn.Env → Res D) : Dn.Env → SR := fun ρ => st2 i x (b ρ)
@[simp] theorem stK_ap {x : D} : stK i x b ρ = st2 i x (b ρ) := id rfl
def st1 (i : Nat) (b : Dn.Env → Res D) (r : Res D) : SR := bindRS r fun x ρ1 => apG i (stK i x b) (gS ρ1 i) ρ1
@[simp] theorem st1_ok {x : D} : st1 i b (.ok x ρ) = apG i (stK i x b) (gS ρ i) ρ := id rfl
@[simp] theorem st1_exc {c : Str} : st1 i b (.exc c ρ) = .exc c ρ := id rfl
@[simp] theorem sSetL_ap : sSetL i a b ρ = st1 i b (a ρ) := id rfl
def dt3 (i : Nat) (x k : D) (s : Sl) (ρ : Dn.Env) : SR := match dicAt s, keyD k with
  | some kvs, some q => if kvs.length < 16777216 then .nx (sS ρ i (dicTo s (putD kvs q x))) else .bad
  | _, _ => .bad
def dpt (i : Nat) (x : D) (o : Option Key) (kvs : List (Key × D)) (ρ : Dn.Env) : SR := match o with
  | some q => if kvs.length < 16777216 then .nx (sS ρ i (.own (.dic (putD kvs q x)))) else .bad
  | none => .bad
@[simp] theorem dpt_some {x : D} {q : Key} {kvs : List (Key × D)} : dpt i x (some q) kvs ρ = if kvs.length < 16777216 then .nx (sS ρ i (.own (.dic (putD kvs q x)))) else .bad := id rfl
@[simp] theorem dt3_own {kvs : List (Key × D)} {x k : D} : dt3 i x k (.own (.dic kvs)) ρ = dpt i x (keyD k) kvs ρ := by
  show (match some kvs, keyD k with | some kvs, some q => if kvs.length < 16777216 then SR.nx (sS ρ i (.own (.dic (putD kvs q x)))) else .bad | _, _ => .bad) = _
  cases keyD k <;> rfl
def dt2 (i : Nat) (x : D) (r : Res D) : SR := bindRS r fun k ρ2 => dt3 i x k (gS ρ2 i) ρ2
@[simp] theorem dt2_ok {x k : D} : dt2 i x (.ok k ρ) = dt3 i x k (gS ρ i) ρ := id rfl
def dtK (i : Nat) (x : D) (b : Dn.Env → Res D) : Dn.Env → SR := fun ρ => dt2 i x (b ρ)
@[simp] theorem dtK_ap {x : D} : dtK i x b ρ = dt2 i x (b ρ) := id rfl
def dtG (i : Nat) (k : Dn.Env → SR) (s : Sl) (ρ : Dn.Env) : SR := match dicAt s with
  | none => .bad
  | some _ => k ρ
@[simp] theorem dtG_own {k : Dn.Env → SR} {kvs : List (Key × D)} : dtG i k (.own (.dic kvs)) ρ = k ρ := id rfl
def dt1 (i : Nat) (b : Dn.Env → Res D) (r : Res D) : SR := bindRS r fun x ρ1 => dtG i (dtK i x b) (gS ρ1 i) ρ1
@[simp] theorem dt1_ok {x : D} : dt1 i b (.ok x ρ) = dtG i (dtK i x b) (gS ρ i) ρ := id rfl
@[simp] theorem dt1_exc {c : Str} : dt1 i b (.exc c ρ) = .exc c ρ := id rfl
@[simp] theorem sSetD_ap : sSetD i a b ρ = dt1 i b (a ρ) := id rfl
@[simp] theorem eDic0_ap : eDic0 ρ = .ok (.fresh (.dic [])) ρ := id rfl
def di3 (neg : Bool) (ds : List (D × D)) (o : Option Key) (ρ : Dn.Env) : Res R := match o with
  | some q => .ok (.val (.bool (if neg then !(lookD ds q).isSome else (lookD ds q).isSome))) ρ
  | none => .bad
@[simp] theorem di3_pos {ds : List (D × D)} {q : Key} : di3 false ds (some q) ρ = .ok (.val (.bool (lookD ds q).isSome)) ρ := id rfl
@[simp] theorem di3_neg {ds : List (D × D)} {q : Key} : di3 true ds (some q) ρ = .ok (.val (.bool (!(lookD ds q).isSome))) ρ := id rfl
def di2 (neg : Bool) (k : D) (r : Res D) : Res R := bindR r fun d ρ2 => match d, keyD k with
  | .dict ds, some q => .ok (.val (.bool (if neg then !(lookD ds q).isSome else (lookD ds q).isSome))) ρ2
  | _, _ => .bad
@[simp] theorem di2_ok {neg : Bool} {k : D} {ds : List (D × D)} : di2 neg k (.ok (.dict ds) ρ) = di3 neg ds (keyD k) ρ := by
  show (match PyData.dict ds, keyD k with | .dict ds, some q => Res.ok (R.val (.bool (if neg then !(lookD ds q).isSome else (lookD ds q).isSome))) ρ | _, _ => .bad) = _
  cases keyD k <;> rfl
def di1 (neg : Bool) (i : Nat) (r : Res D) : Res R := bindR r fun k ρ1 => di2 neg k (ePk i ρ1)
@[simp] theorem di1_ok {neg : Bool} {k : D} : di1 neg i (.ok k ρ) = di2 neg k (ePk i ρ) := id rfl
@[simp] theorem eDin_ap {neg : Bool} : eDin neg i a ρ = di1 neg i (a ρ) := id rfl
@[simp] theorem sRaise_ap {c : Str} : sRaise c ρ = .exc c ρ := id rfl
@[simp] theorem bindS_ite {c : Prop} [Decidable c] {x y : SR} {k : Dn.Env → SR} : bindS (if c then x else y) k = if c then bindS x k else bindS y k := by split <;> rfl
@[simp] theorem bindRS_ite {c : Prop} [Decidable c] {x y : Res α} {k : α → Dn.Env → SR} : bindRS (if c then x else y) k = if c then bindRS x k else bindRS y k := by split <;> rfl
@[simp] theorem bindR_ite {c : Prop} [Decidable c] {x y : Res α} {k : α → Dn.Env → Res β} : bindR (if c then x else y) k = if c then bindR x k else bindR y k := by split <;> rfl
def isBor : Sl → Bool
  | .bor _ => true
  | _ => false
@[simp] theorem isBor_emp : isBor .emp = false := id rfl
@[simp] theorem isBor_val {d : D} : isBor (.val d) = false := id rfl
@[simp] theorem isBor_own {c : Cell} : isBor (.own c) = false := id rfl
def putS (s : Sl) (i : Nat) (r : Sl) (ρ : Dn.Env) : SR := match s with
  | .bor _ => .bad
  | _ => .nx (sS ρ i r)
@[simp] theorem putS_emp {r : Sl} {ρ : Dn.Env} : putS .emp i r ρ = .nx (sS ρ i r) := id rfl
@[simp] theorem putS_val {d : D} {r : Sl} {ρ : Dn.Env} : putS (.val d) i r ρ = .nx (sS ρ i r) := id rfl
@[simp] theorem putS_own {c : Cell} {r : Sl} {ρ : Dn.Env} : putS (.own c) i r ρ = .nx (sS ρ i r) := id rfl
theorem putS_nb {s : Sl} {r : Sl} {ρ : Dn.Env} (h : isBor s = false) : putS s i r ρ = .nx (sS ρ i r) := by cases s <;> first | rfl | cases h
@[simp] theorem putR_val {r : R} {ρ : Dn.Env} : putR i r ρ = putS (gS ρ i) i r.sl ρ := by
  rw [putR_ap]
  cases e : gS ρ i <;> rfl
def gNmS (s : Sl) (i : Nat) (r : Sl) (ρ : Dn.Env) : Option Dn.Env := match s with
  | .bor _ => none
  | _ => some (sS ρ i r)
@[simp] theorem gNmS_emp {r : Sl} {ρ : Dn.Env} : gNmS .emp i r ρ = some (sS ρ i r) := id rfl
@[simp] theorem gNmS_val {d : D} {r : Sl} {ρ : Dn.Env} : gNmS (.val d) i r ρ = some (sS ρ i r) := id rfl
@[simp] theorem gNmS_own {c : Cell} {r : Sl} {ρ : Dn.Env} : gNmS (.own c) i r ρ = some (sS ρ i r) := id rfl
theorem gNmS_nb {s : Sl} {r : Sl} {ρ : Dn.Env} (h : isBor s = false) : gNmS s i r ρ = some (sS ρ i r) := by cases s <;> first | rfl | cases h
@[simp] theorem gNm_val {d : D} {ρ : Dn.Env} : gNm i d ρ = gNmS (gS ρ i) i (.val d) ρ := by
  rw [gNm_ap]
  cases e : gS ρ i <;> rfl
@[simp] theorem toVk_ite {c : Prop} [Decidable c] {x y : Res R} : toVk (if c then x else y) = if c then toVk x else toVk y := by split <;> rfl
@[simp] theorem tBk_ite {c : Prop} [Decidable c] {x y : Res R} : tBk (if c then x else y) = if c then tBk x else tBk y := by split <;> rfl
@[simp] theorem sRk_ite {c : Prop} [Decidable c] {x y : Res R} : sRk (if c then x else y) = if c then sRk x else sRk y := by split <;> rfl
@[simp] theorem sAk_ite {c : Prop} [Decidable c] {x y : Res R} : sAk i (if c then x else y) = if c then sAk i x else sAk i y := by split <;> rfl
@[simp] theorem ap1_ite {c : Prop} [Decidable c] {x y : Res R} : ap1 i (if c then x else y) = if c then ap1 i x else ap1 i y := by split <;> rfl
@[simp] theorem sIk_ite {c : Prop} [Decidable c] {x y : Res Bool} : sIk s t (if c then x else y) = if c then sIk s t x else sIk s t y := by split <;> rfl
@[simp] theorem o1_ite {c : Prop} [Decidable c] {x y : Res D} {f : D → Option R} : o1 f (if c then x else y) = if c then o1 f x else o1 f y := by split <;> rfl
@[simp] theorem o2a_ite {c : Prop} [Decidable c] {x y : Res D} : o2a f b (if c then x else y) = if c then o2a f b x else o2a f b y := by split <;> rfl
@[simp] theorem ite_and {c : Prop} [Decidable c] {b : Bool} : (if c then Res.ok (R.val (.bool b)) ρ else .ok (.val (.bool false)) ρ) = .ok (.val (.bool (decide c && b))) ρ := by by_cases h : c <;> simp [h]
@[simp] theorem ite_or {c : Prop} [Decidable c] {b : Bool} : (if c then Res.ok (R.val (.bool true)) ρ else .ok (.val (.bool b)) ρ) = .ok (.val (.bool (decide c || b))) ρ := by by_cases h : c <;> simp [h]
@[simp] theorem ite_andT {c : Prop} [Decidable c] {b : Bool} : (if c then Res.ok b ρ else .ok false ρ) = .ok (decide c && b) ρ := by by_cases h : c <;> simp [h]
@[simp] theorem ite_orT {c : Prop} [Decidable c] {b : Bool} : (if c then Res.ok true ρ else .ok b ρ) = .ok (decide c || b) ρ := by by_cases h : c <;> simp [h]
@[simp] theorem toD_dic {kvs : List (Key × D)} : (Cell.dic kvs).toD = .dict (kvs.map fun p => (kd p.1, p.2)) := id rfl
@[simp] theorem keyD_int {i : Int} : keyD (.int i) = some (.inl i) := id rfl
@[simp] theorem keyD_str {z : Str} : keyD (.str z) = some (.inr z) := id rfl
@[simp] theorem kd_inl {i : Int} : kd (.inl i) = .int i := id rfl
@[simp] theorem kd_inr {z : Str} : kd (.inr z) = .str z := id rfl
/-! ### primitive operations -/
variable {p q : Int} {xs ys : List D} {ns : List Int} {v w : Str}
@[simp] theorem fAdd_int : fAdd (.int p) (.int q) = some (.val (.int (p + q))) := id rfl
@[simp] theorem fSub_int : fSub (.int p) (.int q) = some (.val (.int (p - q))) := id rfl
@[simp] theorem fNeg_int : fNeg (.int p) = some (.val (.int (-p))) := id rfl
@[simp] theorem fMul_r (h1 : -18446744073709551616 < q) (h2 : q < 18446744073709551616) : fMul (.int p) (.int q) = some (.val (.int (p * q))) := by
  show (if mulOk p q = true then _ else _) = _
  rw [if_pos]
  unfold mulOk
  rw [Bool.or_eq_true, Bool.or_eq_true]
  exact .inr (decide_eq_true ⟨h1, h2⟩)
@[simp] theorem fMul_l (h1 : -18446744073709551616 < p) (h2 : p < 18446744073709551616) : fMul (.int p) (.int q) = some (.val (.int (p * q))) := by
  show (if mulOk p q = true then _ else _) = _
  rw [if_pos]
  unfold mulOk
  rw [Bool.or_eq_true, Bool.or_eq_true]
  exact .inl (.inr (decide_eq_true ⟨h1, h2⟩))
@[simp] theorem fFdiv_pos (h1 : 0 < q) (h2 : q < 1073741824) : fFdiv (.int p) (.int q) = some (.val (.int (p / q))) := by
  show (if divOk q = true then _ else _) = _
  rw [if_pos, zdiv_pos h1]
  unfold divOk
  rw [Bool.or_eq_true]
  exact .inl (decide_eq_true ⟨by omega, by omega⟩)
@[simp] theorem fMod_pos (h1 : 0 < q) : fMod (.int p) (.int q) = some (.val (.int (p % q))) := by
  show (if q ≠ 0 then _ else _) = _
  rw [if_pos (by omega), zmod_pos h1]
@[simp] theorem fPow_ok (h1 : 0 ≤ q) (h2 : q ≤ 1000000) (h3 : -18446744073709551616 < p) (h4 : p < 18446744073709551616) : fPow (.int p) (.int q) = some (.val (.int (p ^ q.toNat))) := by
  show (if 0 ≤ q ∧ q ≤ 1000000 ∧ p.natAbs < 2 ^ 64 then _ else _) = _
  rw [if_pos ⟨h1, h2, by omega⟩]
@[simp] theorem fLt_int : fLt (.int p) (.int q) = some (.val (.bool (decide (p < q)))) := id rfl
@[simp] theorem fLe_int : fLe (.int p) (.int q) = some (.val (.bool (decide (p ≤ q)))) := id rfl
@[simp] theorem fGt_int : fGt (.int p) (.int q) = some (.val (.bool (decide (q < p)))) := id rfl
@[simp] theorem fGe_int : fGe (.int p) (.int q) = some (.val (.bool (decide (q ≤ p)))) := id rfl
@[simp] theorem fEq_int : fEq (.int p) (.int q) = some (.val (.bool (decide (p = q)))) := by
  show (if eqOk _ _ = true then _ else _) = _
  rw [if_pos (show eqOk (.int p) (.int q) = true from rfl)]
  rfl
@[simp] theorem fNe_int : fNe (.int p) (.int q) = some (.val (.bool (!decide (p = q)))) := by
  show (if eqOk _ _ = true then _ else _) = _
  rw [if_pos (show eqOk (.int p) (.int q) = true from rfl)]
  rfl
@[simp] theorem fEq_bool {p q : Bool} : fEq (.bool p) (.bool q) = some (.val (.bool (p == q))) := id rfl
@[simp] theorem fNe_bool {p q : Bool} : fNe (.bool p) (.bool q) = some (.val (.bool (!(p == q)))) := id rfl
@[simp] theorem fEq_str : fEq (.str v) (.str w) = some (.val (.bool (decide (v = w)))) := by
  show (if eqOk _ _ = true then _ else _) = _
  rw [if_pos (show eqOk (.str v) (.str w) = true from rfl)]
  rfl
@[simp] theorem fNe_str : fNe (.str v) (.str w) = some (.val (.bool (!decide (v = w)))) := by
  show (if eqOk _ _ = true then _ else _) = _
  rw [if_pos (show eqOk (.str v) (.str w) = true from rfl)]
  rfl
@[simp] theorem fIs_non {d : D} : fIs d .none = some (.val (.bool (isNon d))) := id rfl
@[simp] theorem fIsNot_non {d : D} : fIsNot d .none = some (.val (.bool (!isNon d))) := id rfl
@[simp] theorem fP_ap {k : D → Bool} {d : D} : fP k d = some (.val (.bool (k d))) := id rfl
@[simp] theorem fLen_list : fLen (.list xs) = some (.val (.int xs.length)) := id rfl
@[simp] theorem fLen_tuple : fLen (.tuple xs) = some (.val (.int xs.length)) := id rfl
@[simp] theorem fInt_int : fInt (.int p) = some (.val (.int p)) := id rfl
@[simp] theorem fAbs_int : fAbs (.int p) = some (.val (.int (if p < 0 then -p else p))) := id rfl
@[simp] theorem fTuple_list : fTuple (.list xs) = some (.val (.tuple xs)) := id rfl
@[simp] theorem fTuple_tuple : fTuple (.tuple xs) = some (.val (.tuple xs)) := id rfl
@[simp] theorem fList_list : fList (.list xs) = some (.fresh (.lst xs)) := id rfl
@[simp] theorem fList_tuple : fList (.tuple xs) = some (.fresh (.lst xs)) := id rfl
@[simp] theorem fTup_ok (h : xs.length ≤ 16777216) : fTup xs = some (.val (.tuple xs)) := if_pos h
@[simp] theorem fLst_ok (h : xs.length ≤ 16777216) : fLst xs = some (.fresh (.lst xs)) := if_pos h
@[simp] theorem fAdd_list (h : xs.length + ys.length ≤ 16777216) : fAdd (.list xs) (.list ys) = some (.fresh (.lst (xs ++ ys))) := if_pos h
@[simp] theorem fAdd_tuple (h : xs.length + ys.length ≤ 16777216) : fAdd (.tuple xs) (.tuple ys) = some (.val (.tuple (xs ++ ys))) := if_pos h
@[simp] theorem fAdd_str (h : v.length + w.length ≤ 16777216) : fAdd (.str v) (.str w) = some (.val (.str (v ++ w))) := if_pos h
def nth {α : Type} (xs : List α) (i : Nat) (d : α) : α := xs.getD i d
theorem nth_lt {α : Type} {xs : List α} {i : Nat} {d : α} (h : i < xs.length) : nth xs i d = xs[i] := by
  unfold nth
  rw [List.getD_eq_getElem?_getD, List.getElem?_eq_getElem h]
  rfl
theorem nth_mem {α : Type} {xs : List α} {i : Nat} {d : α} (h : i < xs.length) : nth xs i d ∈ xs := by rw [nth_lt h]; exact List.getElem_mem h
@[simp] theorem nth_zero {α : Type} {x : α} {xs : List α} {d : α} : nth (x :: xs) 0 d = x := id rfl
@[simp] theorem nth_succ {α : Type} {x : α} {xs : List α} {i : Nat} {d : α} : nth (x :: xs) (i + 1) d = nth xs i d := id rfl
theorem atI_get {α : Type} {xs : List α} {d : α} (h0 : 0 ≤ p) (h1 : p < xs.length) : atI xs p = some (nth xs p.toNat d) := by
  unfold atI ixN
  rw [if_pos h0, if_pos h1, Option.bind_some, List.getElem?_eq_getElem (by omega), nth_lt (by omega)]
@[simp] theorem fIx_list (h0 : 0 ≤ p) (h1 : p < xs.length) : fIx (.list xs) (.int p) = some (.val (nth xs p.toNat .none)) := by
  show (atI xs p).map R.val = _
  rw [atI_get (d := .none) h0 h1]
  rfl
@[simp] theorem fIx_tuple (h0 : 0 ≤ p) (h1 : p < xs.length) : fIx (.tuple xs) (.int p) = some (.val (nth xs p.toNat .none)) := by
  show (atI xs p).map R.val = _
  rw [atI_get (d := .none) h0 h1]
  rfl
theorem nth_map {α : Type} {f : α → D} {xs : List α} {n : Nat} {d : α} (h : n < xs.length) : nth (xs.map f) n .none = f (nth xs n d) := by
  rw [nth_lt h, nth_lt (by rw [List.length_map]; exact h), List.getElem_map]
@[simp high] theorem fIx_ints (h0 : 0 ≤ p) (h1 : p < ns.length) : fIx (.list (ns.map .int)) (.int p) = some (.val (.int (nth ns p.toNat 0))) := by
  rw [fIx_list h0 (by rw [List.length_map]; exact h1), nth_map (d := 0) (by omega)]
@[simp high] theorem fIx_tints (h0 : 0 ≤ p) (h1 : p < ns.length) : fIx (.tuple (ns.map .int)) (.int p) = some (.val (.int (nth ns p.toNat 0))) := by
  rw [fIx_tuple h0 (by rw [List.length_map]; exact h1), nth_map (d := 0) (by omega)]
theorem fIx_str (h0 : 0 ≤ p) (h1 : p < v.length) (h2 : v.length ≤ 16777216) : fIx (.str v) (.int p) = some (.val (.str ⟨#[nth v.cps.toList p.toNat 0]⟩)) := by
  show (if v.length ≤ 16777216 then _ else _) = _
  rw [if_pos h2, atI_get (d := 0) h0 (by rw [Array.length_toList]; exact h1)]
  rfl
theorem atI_last {α : Type} {xs : List α} {d : α} (h1 : xs ≠ []) : atI xs (-1) = some (xs.getLastD d) := by
  have h : 0 < xs.length := List.length_pos_iff.mpr h1
  unfold atI ixN
  rw [if_neg (by omega), if_pos (by omega), Option.bind_some, List.getLastD_eq_getLast?, List.getLast?_eq_getElem?, List.getElem?_eq_getElem (by omega), List.getElem?_eq_getElem (by omega)]
  show some _ = some (xs[xs.length - 1])
  congr 1
  congr 1
  omega
theorem fIx_tlast (h : ns ≠ []) : fIx (.tuple (ns.map .int)) (.int (-1)) = some (.val (.int (nth ns (ns.length - 1) 0))) := by
  have h0 := List.length_pos_iff.mpr h
  show (atI (ns.map PyData.int) (-1)).map R.val = _
  rw [atI_last (d := .none) (by simpa using h), List.getLastD_eq_getLast?, List.getLast?_eq_getElem?, List.length_map, List.getElem?_map, List.getElem?_eq_getElem (by omega), nth_lt (by omega)]
  rfl
@[simp] theorem sIx_none {n d : Nat} : HT.sIx n d none = d := id rfl
theorem sIx_nn {n d : Nat} {v : Int} (h : 0 ≤ v) : HT.sIx n d (some v) = min v.toNat n := by
  show (if v < 0 then _ else _) = _
  rw [if_neg (by omega)]
@[simp] theorem cut_lo (h : 0 ≤ p) : cutD xs (some p) none = xs.drop p.toNat := by
  unfold cutD
  rw [sIx_nn h, sIx_none]
  by_cases c : p.toNat ≤ xs.length
  · rw [Nat.min_eq_left c, List.take_of_length_le (by rw [List.length_drop]; omega)]
  · rw [Nat.min_eq_right (by omega), List.drop_of_length_le (Nat.le_refl _), List.drop_of_length_le (by omega), List.take_nil]
@[simp] theorem cut_hi (h : 0 ≤ p) : cutD xs none (some p) = xs.take p.toNat := by
  unfold cutD
  rw [sIx_nn h, sIx_none, List.drop_zero, Nat.sub_zero]
  by_cases c : p.toNat ≤ xs.length
  · rw [Nat.min_eq_left c]
  · rw [Nat.min_eq_right (by omega), List.take_of_length_le (Nat.le_refl _), List.take_of_length_le (by omega)]
@[simp] theorem cut_both (h0 : 0 ≤ p) (h1 : 0 ≤ q) : cutD xs (some p) (some q) = (xs.take q.toNat).drop p.toNat := by
  unfold cutD
  rw [sIx_nn h0, sIx_nn h1]
  apply List.ext_getElem?
  intro k
  rw [List.getElem?_drop, List.getElem?_take, List.getElem?_take, List.getElem?_drop]
  by_cases a : p.toNat ≤ xs.length
  · rw [Nat.min_eq_left a]
    by_cases b : q.toNat ≤ xs.length
    · rw [Nat.min_eq_left b]
      by_cases c : k < q.toNat - p.toNat
      · rw [if_pos c, if_pos (by omega)]
      · rw [if_neg c, if_neg (by omega)]
    · rw [Nat.min_eq_right (by omega)]
      by_cases c : k < xs.length - p.toNat
      · rw [if_pos c, if_pos (by omega)]
      · rw [if_neg c]
        split
        · rw [List.getElem?_eq_none (by omega)]
        · rfl
  · rw [Nat.min_eq_right (a := p.toNat) (b := xs.length) (by omega), List.getElem?_eq_none (i := xs.length + k) (by omega), List.getElem?_eq_none (i := p.toNat + k) (by omega)]
    simp
@[simp] theorem fSl_list {lo hi : Option Int} : fSl (.list xs) lo hi = some (.fresh (.lst (cutD xs lo hi))) := id rfl
@[simp] theorem fSl_tuple {lo hi : Option Int} : fSl (.tuple xs) lo hi = some (.val (.tuple (cutD xs lo hi))) := id rfl
@[simp] theorem fSl_str {lo hi : Option Int} (h : v.length ≤ 16777216) : fSl (.str v) lo hi = some (.val (.str (cutS v lo hi))) := if_pos h
end

theorem seq_nx {P : SR → Prop} {s t : Dn.Env → SR} {ρ ρ1 : Dn.Env} (h : s ρ = .nx ρ1) (h2 : P (t ρ1)) : P (sSeq s t ρ) := by
  rw [sSeq_ap, h]
  exact h2
theorem if_yes {P : SR → Prop} {c : Dn.Env → Res Bool} {s t : Dn.Env → SR} {ρ ρ1 : Dn.Env} (h : c ρ = .ok true ρ1) (h2 : P (s ρ1)) : P (sIf c s t ρ) := by
  rw [sIf_ap, h]
  exact h2
theorem if_no {P : SR → Prop} {c : Dn.Env → Res Bool} {s t : Dn.Env → SR} {ρ ρ1 : Dn.Env} (h : c ρ = .ok false ρ1) (h2 : P (t ρ1)) : P (sIf c s t ρ) := by
  rw [sIf_ap, h]
  exact h2
theorem if_yes' {P : SR → Prop} {c : Dn.Env → Res Bool} {s t : Dn.Env → SR} {ρ : Dn.Env} (h : c ρ = .ok true ρ) (h2 : P (s ρ)) : P (sIf c s t ρ) := if_yes h h2
theorem if_no' {P : SR → Prop} {c : Dn.Env → Res Bool} {s t : Dn.Env → SR} {ρ : Dn.Env} (h : c ρ = .ok false ρ) (h2 : P (t ρ)) : P (sIf c s t ρ) := if_no h h2
theorem if_by {P : SR → Prop} {c : Dn.Env → Res Bool} {s t : Dn.Env → SR} {ρ ρ1 : Dn.Env} {b : Bool} (h : c ρ = .ok b ρ1) (h1 : b = true → P (s ρ1)) (h2 : b = false → P (t ρ1)) : P (sIf c s t ρ) := by
  cases b
  · exact if_no h (h2 rfl)
  · exact if_yes h (h1 rfl)
theorem for_of {P : SR → Prop} {g : D → Dn.Env → Option Dn.Env} {m : Dn.Env → Res (List D)} {s : Dn.Env → SR} {ρ ρ1 : Dn.Env} {ds : List D} (h : m ρ = .ok ds ρ1) (h2 : P (forL g s ds ρ1)) : P (sFor g m s ρ) := by
  rw [sFor_ap, h]
  exact h2

/-! ### a def's result -/
def Ret (n : Nat) (r : R) (s : SR) : Prop := ∃ ρ, s = .ret r ρ ∧ n ≤ ρ.length
def Exc (n : Nat) (c : Str) (s : SR) : Prop := ∃ ρ, s = .exc c ρ ∧ n ≤ ρ.length
@[simp] theorem Ret_ret {n : Nat} {r r' : R} {ρ : Dn.Env} : Ret n r (.ret r' ρ) ↔ r' = r ∧ n ≤ ρ.length := by
  constructor
  · rintro ⟨ρ', h, l⟩
    cases h
    exact ⟨rfl, l⟩
  · rintro ⟨rfl, l⟩
    exact ⟨_, rfl, l⟩
@[simp] theorem Exc_exc {n : Nat} {c c' : Str} {ρ : Dn.Env} : Exc n c (.exc c' ρ) ↔ c' = c ∧ n ≤ ρ.length := by
  constructor
  · rintro ⟨ρ', h, l⟩
    cases h
    exact ⟨rfl, l⟩
  · rintro ⟨rfl, l⟩
    exact ⟨_, rfl, l⟩
def ExRet {α : Type} (n : Nat) (φ : α → Prop) (f : α → R) (s : SR) : Prop := ∃ x, φ x ∧ Ret n (f x) s
theorem ExRet_of {α : Type} {n : Nat} {φ : α → Prop} {f : α → R} {ρ : Dn.Env} (x : α) (h : φ x) (l : n ≤ ρ.length) : ExRet n φ f (.ret (f x) ρ) := ⟨x, h, Ret_ret.mpr ⟨rfl, l⟩⟩
theorem ExRet_ret {α : Type} {n : Nat} {φ : α → Prop} {f : α → R} {r : R} {s : SR} {ρ : Dn.Env} (e : s = .ret r ρ) (x : α) (h : φ x) (er : r = f x) (l : n ≤ ρ.length) : ExRet n φ f s := by
  rw [e, er]
  exact ExRet_of x h l
theorem backA_vals : ∀ (ds : List D) (ρ : Dn.Env), ds.length ≤ ρ.length → backA (vals ds) ρ = some (vals ds)
  | [], _, _ => rfl
  | d :: ds, [], h => by simp at h
  | d :: ds, s :: ρ, h => by
    show (backA (vals ds) ρ).map _ = _
    rw [backA_vals ds ρ (by simpa using h)]
    rfl
theorem vals_len (ds : List D) : (vals ds).length = ds.length := List.length_map _
theorem mkF_ret {n m : Nat} {b : Dn.Env → SR} {ds : List D} {r : R} (hl : ds.length = n) (h : Ret n r (b (vals ds ++ List.replicate (m - n) .emp))) : mkF n m b (vals ds) = .ok r (vals ds) := by
  obtain ⟨ρ, e, l⟩ := h
  unfold mkF
  rw [if_pos (by rw [vals_len, hl]), e]
  show (match backA (vals ds) ρ with | some a => Res.ok r a | none => .bad) = _
  rw [backA_vals ds ρ (by omega)]
theorem mkF_exc {n m : Nat} {b : Dn.Env → SR} {ds : List D} {c : Str} (hl : ds.length = n) (h : Exc n c (b (vals ds ++ List.replicate (m - n) .emp))) : mkF n m b (vals ds) = .exc c (vals ds) := by
  obtain ⟨ρ, e, l⟩ := h
  unfold mkF
  rw [if_pos (by rw [vals_len, hl]), e]
  show (match backA (vals ds) ρ with | some a => Res.exc c a | none => .bad) = _
  rw [backA_vals ds ρ (by omega)]

theorem mkF_ex {α : Type} {n m : Nat} {b : Dn.Env → SR} {ds : List D} {φ : α → Prop} {f : α → R} (hl : ds.length = n) (h : ExRet n φ f (b (vals ds ++ List.replicate (m - n) .emp))) : ∃ x, φ x ∧ mkF n m b (vals ds) = .ok (f x) (vals ds) := by
  obtain ⟨x, hx, q⟩ := h
  exact ⟨x, hx, mkF_ret hl q⟩
/-! ### loops -/
/-- behind a turn: J holds of what goes on, P of what ends the loop -/
def FL (P : SR → Prop) (k : Dn.Env → SR) (J : Dn.Env → Prop) : SR → Prop
  | .nx ρ => J ρ
  | .cnt ρ => J ρ
  | .brk ρ => P (k ρ)
  | .ret r ρ => P (.ret r ρ)
  | .exc c ρ => P (.exc c ρ)
  | .bad => P .bad
section
variable {P : SR → Prop} {k : Dn.Env → SR} {J : Dn.Env → Prop} {ρ : Dn.Env} {g : D → Dn.Env → Option Dn.Env} {b : Dn.Env → SR}
@[simp] theorem FL_nx : FL P k J (.nx ρ) ↔ J ρ := .rfl
@[simp] theorem FL_cnt : FL P k J (.cnt ρ) ↔ J ρ := .rfl
@[simp] theorem FL_brk : FL P k J (.brk ρ) ↔ P (k ρ) := .rfl
@[simp] theorem FL_ret {r : R} : FL P k J (.ret r ρ) ↔ P (.ret r ρ) := .rfl
@[simp] theorem FL_exc {c : Str} : FL P k J (.exc c ρ) ↔ P (.exc c ρ) := .rfl
theorem FL_of {s : SR} (h : s = .nx ρ) (j : J ρ) : FL P k J s := by rw [h]; exact j
theorem for_rule (I : List D → Dn.Env → Prop) : ∀ {ds : List D} {ρ : Dn.Env}, I ds ρ → (∀ d r ρ, I (d :: r) ρ → ∃ ρ1, g d ρ = some ρ1 ∧ FL P k (I r) (b ρ1)) → (∀ ρ, I [] ρ → P (k ρ)) → P (bindS (forL g b ds ρ) k)
  | [], ρ, h, _, he => he ρ h
  | d :: r, ρ, h, hs, he => by
    obtain ⟨ρ1, e, q⟩ := hs d r ρ h
    unfold forL
    rw [e]
    dsimp only
    cases eb : b ρ1 with
    | nx ρ2 => rw [eb] at q; exact for_rule I q hs he
    | cnt ρ2 => rw [eb] at q; exact for_rule I q hs he
    | brk ρ2 => rw [eb] at q; exact q
    | ret r ρ2 => rw [eb] at q; exact q
    | exc c ρ2 => rw [eb] at q; exact q
    | bad => rw [eb] at q; exact q
theorem bindS_id (s : SR) : bindS s .nx = s := by cases s <;> rfl
/-- the loop as a def's last statement -/
theorem for_last (I : List D → Dn.Env → Prop) {ds : List D} {ρ : Dn.Env} (h : I ds ρ) (hs : ∀ d r ρ, I (d :: r) ρ → ∃ ρ1, g d ρ = some ρ1 ∧ FL P .nx (I r) (b ρ1)) (he : ∀ ρ, I [] ρ → P (.nx ρ)) : P (forL g b ds ρ) := by
  rw [← bindS_id (forL g b ds ρ)]
  exact for_rule I h hs he
/-- by the place -/
theorem for_ix (I : Nat → Dn.Env → Prop) {ds : List D} {ρ : Dn.Env} (h : I 0 ρ) (hs : ∀ i (hi : i < ds.length) ρ, I i ρ → ∃ ρ1, g ds[i] ρ = some ρ1 ∧ FL P k (I (i + 1)) (b ρ1)) (he : ∀ ρ, I ds.length ρ → P (k ρ)) : P (bindS (forL g b ds ρ) k) := by
  refine for_rule (fun r ρ => ∃ i, i ≤ ds.length ∧ r = ds.drop i ∧ I i ρ) ⟨0, Nat.zero_le _, rfl, h⟩ (fun d r ρ ⟨i, hi, e, z⟩ => ?_) (fun ρ ⟨i, hi, e, z⟩ => ?_)
  · have hi2 : i < ds.length := by
      have := congrArg List.length e
      rw [List.length_cons, List.length_drop] at this
      omega
    rw [List.drop_eq_getElem_cons hi2] at e
    cases e
    obtain ⟨ρ1, e1, q⟩ := hs i hi2 ρ z
    refine ⟨ρ1, e1, ?_⟩
    cases eb : b ρ1 <;> rw [eb] at q
    case nx ρ2 => exact ⟨i + 1, hi2, rfl, q⟩
    case cnt ρ2 => exact ⟨i + 1, hi2, rfl, q⟩
    all_goals exact q
  · have : i = ds.length := by
      have := congrArg List.length e
      rw [List.length_nil, List.length_drop] at this
      omega
    subst this
    exact he ρ z
theorem rgD_len {lo : Int} {n : Nat} : (rgD lo n).length = n := by simp [rgD]
theorem rgD_get {lo : Int} {n i : Nat} (h : i < (rgD lo n).length) : (rgD lo n)[i] = .int (lo + i) := by simp [rgD]
theorem for_rg (I : Nat → Dn.Env → Prop) {lo : Int} {n : Nat} {ρ : Dn.Env} (h : I 0 ρ) (hs : ∀ i, i < n → ∀ ρ, I i ρ → ∃ ρ1, g (.int (lo + i)) ρ = some ρ1 ∧ FL P k (I (i + 1)) (b ρ1)) (he : ∀ ρ, I n ρ → P (k ρ)) : P (bindS (forL g b (rgD lo n) ρ) k) :=
  for_ix I h (fun i hi ρ z => by rw [rgD_get hi]; exact hs i (by rw [rgD_len] at hi; exact hi) ρ z) (fun ρ z => he ρ (by rw [rgD_len] at z; exact z))
theorem for_lrg (I : Nat → Dn.Env → Prop) {lo : Int} {n : Nat} {ρ : Dn.Env} (h : I 0 ρ) (hs : ∀ i, i < n → ∀ ρ, I i ρ → ∃ ρ1, g (.int (lo + i)) ρ = some ρ1 ∧ FL P .nx (I (i + 1)) (b ρ1)) (he : ∀ ρ, I n ρ → P (.nx ρ)) : P (forL g b (rgD lo n) ρ) := by
  rw [← bindS_id (forL g b (rgD lo n) ρ)]
  exact for_rg I h hs he
theorem while_rule {t : Dn.Env → Res Bool} (I : Nat → Dn.Env → Prop) : ∀ {n m : Nat} {ρ : Dn.Env}, m < n → I m ρ → (∀ m ρ, I m ρ → ∃ c ρ1, t ρ = .ok c ρ1 ∧ (c = false → P (k ρ1)) ∧ (c = true → FL P k (fun ρ' => ∃ m', m' < m ∧ I m' ρ') (b ρ1))) → P (bindS (whileL t b n ρ) k)
  | 0, m, ρ, hm, _, _ => absurd hm (Nat.not_lt_zero _)
  | n + 1, m, ρ, hm, h, hs => by
    obtain ⟨c, ρ1, e, h0, h1⟩ := hs m ρ h
    unfold whileL
    rw [e]
    cases c with
    | false => exact h0 rfl
    | true =>
      have q := h1 rfl
      show P (bindS (match b ρ1 with
        | .nx ρ2 => whileL t b n ρ2
        | .cnt ρ2 => whileL t b n ρ2
        | .brk ρ2 => .nx ρ2
        | .ret r ρ2 => .ret r ρ2
        | .exc c ρ2 => .exc c ρ2
        | .bad => .bad) k)
      cases eb : b ρ1 with
      | nx ρ2 =>
        rw [eb] at q
        obtain ⟨m', hm', z⟩ := q
        exact while_rule I (by omega) z hs
      | cnt ρ2 =>
        rw [eb] at q
        obtain ⟨m', hm', z⟩ := q
        exact while_rule I (by omega) z hs
      | brk ρ2 => rw [eb] at q; exact q
      | ret r ρ2 => rw [eb] at q; exact q
      | exc c ρ2 => rw [eb] at q; exact q
      | bad => rw [eb] at q; exact q
theorem swhile_rule {t : Dn.Env → Res Bool} (I : Nat → Dn.Env → Prop) {m : Nat} {ρ : Dn.Env} (hm : m < 1000000000000000000) (h : I m ρ) (hs : ∀ m ρ, I m ρ → ∃ c ρ1, t ρ = .ok c ρ1 ∧ (c = false → P (k ρ1)) ∧ (c = true → FL P k (fun ρ' => ∃ m', m' < m ∧ I m' ρ') (b ρ1))) : P (bindS (sWhile t b ρ) k) := by
  rw [sWhile_ap]
  exact while_rule I (n := fuel) (by rw [fuel_eq]; exact hm) h hs
end
end Dn
set_option Elab.async false
set_option linter.all false
set_option maxRecDepth 100000
/-! Dm2: texts -/
namespace Dn
open PySem L2
open PySem.Builtin.Str (occurrences subAt)
theorem sub1 (w : Str) (c i : Nat) : subAt w ⟨#[c]⟩ i = true ↔ w.cps.toList[i]? = some c := by
  obtain ⟨⟨l⟩⟩ := w
  unfold subAt
  rw [beq_iff_eq]
  show (l.toArray).extract i (i + 1) = #[c] ↔ l[i]? = some c
  simp only [List.extract_toArray]
  rw [← Array.toList_inj]
  simp only [List.extract_eq_drop_take]
  show (l.drop i).take (i + 1 - i) = [c] ↔ _
  rw [show i + 1 - i = 1 by omega]
  by_cases h : i < l.length
  · rw [List.drop_eq_getElem_cons h, List.getElem?_eq_getElem h, List.take_succ_cons, List.take_zero]
    simp only [List.cons.injEq, and_true, Option.some.injEq]
  · rw [List.drop_of_length_le (by omega), List.getElem?_eq_none (by omega)]
    simp
theorem in1 (w : Str) (c : Nat) : (!(occurrences w ⟨#[c]⟩ 0 w.length 1).isEmpty) = decide (c ∈ w.cps.toList) := by
  rw [Bool.eq_iff_iff, StrLaws.found_iff, decide_eq_true_iff]
  constructor
  · rintro ⟨i, _, h⟩
    exact List.mem_of_getElem? ((sub1 w c i).mp h)
  · intro h
    obtain ⟨i, hi, e⟩ := List.getElem_of_mem h
    refine ⟨i, ?_, (sub1 w c i).mpr (by rw [List.getElem?_eq_getElem hi, e])⟩
    show i + 1 ≤ w.length
    have : w.cps.toList.length = w.length := rfl
    omega
theorem fIn1 (w : Str) (c : Nat) : fIn (.str ⟨#[c]⟩) (.str w) = some (.val (.bool (decide (c ∈ w.cps.toList)))) := by
  show some (R.val (.bool (!(occurrences w ⟨#[c]⟩ 0 w.length 1).isEmpty))) = _
  rw [in1]
theorem fNotIn1 (w : Str) (c : Nat) : fNotIn (.str ⟨#[c]⟩) (.str w) = some (.val (.bool (!decide (c ∈ w.cps.toList)))) := by
  show some (R.val (.bool (!(!(occurrences w ⟨#[c]⟩ 0 w.length 1).isEmpty)))) = _
  rw [in1]
theorem str_lit (s : String) : (Str.ofString s).cps.toList = s.toList.map Char.toNat := by rw [Str.ofString_eq_toList]
@[simp] theorem fLen_str {v : Str} (h : v.length ≤ 16777216) : fLen (.str v) = some (.val (.int v.length)) := if_pos h
@[simp] theorem truD_str {v : Str} (h : v.length ≤ 16777216) : truD (.str v) = some ((v.length : Int) != 0) := if_pos h
@[simp] theorem fStr_int {i : Int} (h : i.natAbs.log2 < 1920) : fStr (.int i) = some (.val (.str (toString i))) := if_pos h
@[simp] theorem len1 {c : Nat} : Str.length ⟨#[c]⟩ = 1 := id rfl
theorem ext_str {v w : Str} (h : v.cps.toList = w.cps.toList) : v = w := by
  obtain ⟨⟨a⟩⟩ := v; obtain ⟨⟨b⟩⟩ := w
  simp at h
  rw [h]
/-! ### dicts -/
theorem look_some {kvs : List (Key × D)} {q : Key} : (lookD (kvs.map fun p => (kd p.1, p.2)) q).isSome = kvs.any fun p => decide (p.1 = q) := by
  rw [lookD_map]
  unfold lookC
  induction kvs with
  | nil => rfl
  | cons p r ih =>
    rw [List.find?_cons, List.any_cons]
    cases h : decide (p.1 = q) with
    | true => rfl
    | false => exact ih
theorem put_new {kvs : List (Key × D)} {q : Key} {d : D} (h : (kvs.any fun p => decide (p.1 = q)) = false) : putD kvs q d = kvs ++ [(q, d)] := by
  unfold putD
  rw [if_neg (by rw [h]; decide)]
/-! ### str(n) -/
def digits (n : Nat) : List Nat := (Nat.toDigits 10 n).map Char.toNat
theorem str_nat (n : Nat) : (toString (n : Int) : Str).cps.toList = digits n := by
  rw [str_lit]
  show (Nat.repr n).toList.map _ = _
  rw [Nat.toList_repr]
  rfl
theorem str_int {i : Int} (h : 0 ≤ i) : (toString i : Str).cps.toList = digits i.toNat := by
  have := str_nat i.toNat
  rw [Int.toNat_of_nonneg h] at this
  exact this
theorem digits_mem {n c : Nat} (h : c ∈ digits n) : 48 ≤ c ∧ c ≤ 57 := by
  obtain ⟨d, hd, rfl⟩ := List.mem_map.mp h
  have := Nat.isDigit_of_mem_toDigits (by decide) (by decide) hd
  unfold Char.isDigit at this
  simp at this
  exact ⟨this.1, this.2⟩
theorem digits_le {n k : Nat} (h : 0 < k) : (digits n).length ≤ k ↔ n < 10 ^ k := by
  unfold digits
  rw [List.length_map]
  exact Nat.length_toDigits_le_iff (by decide) h
theorem log_small {i : Int} (h : i.natAbs < 2 ^ 1000) : i.natAbs.log2 < 1920 := by
  by_cases c : i.natAbs = 0
  · rw [c]; decide
  · have := (Nat.log2_lt c).mpr h
    omega
end Dn
set_option Elab.async false
set_option linter.all false
set_option maxRecDepth 100000
/-! Dm3: equality by value, weights, plain data; a def's end without return -/
namespace Dn
open PySem L2
def same1 : D → D → Bool
  | .none, .none => true
  | .bool a, .bool b => a == b
  | .int a, .int b => decide (a = b)
  | .str a, .str b => decide (a = b)
  | _, _ => false
mutual
def wt : D → Nat
  | .tuple xs => 1 + wtL xs
  | _ => 1
def wtL : List D → Nat
  | [] => 0
  | x :: r => wt x + wtL r
end
mutual
def sameD : D → D → Bool
  | .tuple xs, .tuple ys => sameL xs ys
  | .tuple _, _ => false
  | _, .tuple _ => false
  | .none, b => same1 .none b
  | .bool a, b => same1 (.bool a) b
  | .int a, b => same1 (.int a) b
  | .str a, b => same1 (.str a) b
  | .list _, _ => false
  | .dict _, _ => false
def sameL : List D → List D → Bool
  | [], [] => true
  | x :: xs, y :: ys => sameD x y && sameL xs ys
  | _, _ => false
end
theorem sameD_1 (a b : D) (ha : isTup a = false) (hb : isTup b = false) : sameD a b = same1 a b := by
  cases a <;> cases b <;> first | (cases ha; done) | (cases hb; done) | simp [sameD, same1]
theorem wt_pos (d : D) : 1 ≤ wt d := by cases d <;> simp [wt]
theorem wtL_app : ∀ (xs ys : List D), wtL (xs ++ ys) = wtL xs + wtL ys
  | [], ys => by simp [wtL]
  | x :: xs, ys => by
    show wt x + wtL (xs ++ ys) = wt x + wtL xs + wtL ys
    rw [wtL_app xs ys]
    omega
def pr (p : D × D) : D := .tuple [p.1, p.2]
def wS (st : List (D × D)) : Nat := wtL (st.map (·.1))
def okS (st : List (D × D)) : Bool := st.all fun p => sameD p.1 p.2
theorem wS_len (st : List (D × D)) : st.length ≤ wS st := by
  induction st with
  | nil => exact Nat.zero_le _
  | cons p r ih =>
    have := wt_pos p.1
    show r.length + 1 ≤ wt p.1 + wS r
    omega
theorem sameL_len : ∀ {xs ys : List D}, sameL xs ys = true → xs.length = ys.length
  | [], [], _ => rfl
  | [], _ :: _, h => by simp [sameL] at h
  | _ :: _, [], h => by simp [sameL] at h
  | x :: xs, y :: ys, h => by
    simp [sameL] at h
    rw [List.length_cons, List.length_cons, sameL_len h.2]
theorem sameL_zip : ∀ {xs ys : List D}, xs.length = ys.length → sameL xs ys = (xs.zip ys).all fun p => sameD p.1 p.2
  | [], [], _ => rfl
  | [], _ :: _, h => by cases h
  | _ :: _, [], h => by cases h
  | x :: xs, y :: ys, h => by
    rw [List.zip_cons_cons, List.all_cons, ← sameL_zip (by simpa using h)]
    rfl
mutual
def plainD : D → Bool
  | .tuple xs => plainL xs
  | .list _ => false
  | .dict _ => false
  | _ => true
def plainL : List D → Bool
  | [] => true
  | x :: xs => plainD x && plainL xs
end
theorem plainL_all : ∀ xs : List D, plainL xs = xs.all plainD
  | [] => rfl
  | x :: xs => by
    rw [List.all_cons, ← plainL_all xs]
    rfl
theorem wtL_len : ∀ l : List D, l.length ≤ wtL l
  | [] => Nat.zero_le _
  | d :: r => by
    have := wt_pos d
    have := wtL_len r
    show r.length + 1 ≤ wt d + wtL r
    omega

/-- a def that ends without return -/
def Nxt (n : Nat) (s : SR) : Prop := ∃ ρ, s = .nx ρ ∧ n ≤ ρ.length
@[simp] theorem Nxt_nx {n : Nat} {ρ : Dn.Env} : Nxt n (.nx ρ) ↔ n ≤ ρ.length := by
  constructor
  · rintro ⟨ρ', h, l⟩
    cases h
    exact l
  · exact fun l => ⟨_, rfl, l⟩
theorem mkF_nxt {n m : Nat} {b : Dn.Env → SR} {ds : List D} (hl : ds.length = n) (h : Nxt n (b (vals ds ++ List.replicate (m - n) .emp))) : mkF n m b (vals ds) = .ok (.val .none) (vals ds) := by
  obtain ⟨ρ, e, l⟩ := h
  unfold mkF
  rw [if_pos (by rw [vals_len, hl]), e]
  show (match backA (vals ds) ρ with | some a => Res.ok (R.val .none) a | none => .bad) = _
  rw [backA_vals ds ρ (by omega)]
/-! ### try -/
def tryK (i : Nat) (h : Str → Option (Option D)) : SR → SR
  | .exc c ρ1 => match h c with
    | some (some v) => if i < ρ1.length ∧ okV v = true then .ret (.val v) ρ1 else .bad
    | some none => .exc c ρ1
    | none => .bad
  | r => r
section
variable {i : Nat} {h : Str → Option (Option D)} {ρ : Dn.Env} {b : Dn.Env → SR} {r : R} {v : D}
@[simp] theorem sTryR_ap : sTryR i b h ρ = tryK i h (b ρ) := by
  unfold sTryR tryK
  cases b ρ <;> rfl
@[simp] theorem tryK_nx : tryK i h (.nx ρ) = .nx ρ := id rfl
@[simp] theorem tryK_ret : tryK i h (.ret r ρ) = .ret r ρ := id rfl
theorem tryK_h1 {c : Str} (hv : okV v = true) (hl : i < ρ.length) : tryK i (h1 c v) (.exc c ρ) = .ret (.val v) ρ := by
  show (match (if c = c then some (some v) else none : Option (Option D)) with
    | some (some v) => if i < ρ.length ∧ okV v = true then SR.ret (.val v) ρ else .bad
    | some none => .exc c ρ
    | none => .bad) = _
  rw [if_pos rfl]
  exact if_pos ⟨hl, hv⟩
end
/-! ### numbers -/
def Bd (k : Nat) (p : Int) : Prop := p.natAbs < 2 ^ k
theorem Bd.log {k : Nat} {p : Int} (h : Bd k p) (hk : 0 < k) : p.natAbs.log2 < k := by
  by_cases c : p.natAbs = 0
  · rw [c]; exact hk
  · exact (Nat.log2_lt c).mpr h
theorem Bd.mono {a b : Nat} {p : Int} (h : Bd a p) (hab : a ≤ b) : Bd b p := Nat.lt_of_lt_of_le h (Nat.pow_le_pow_right (by decide) hab)
theorem Bd.neg {a : Nat} {p : Int} (h : Bd a p) : Bd a (-p) := by
  unfold Bd at *
  rw [Int.natAbs_neg]
  exact h
theorem Bd.mul {a b : Nat} {p q : Int} (h1 : Bd a p) (h2 : Bd b q) : Bd (a + b) (p * q) := by
  unfold Bd at *
  rw [Int.natAbs_mul, Nat.pow_add]
  exact Nat.mul_lt_mul'' h1 h2
theorem Bd.add {a : Nat} {p q : Int} (h1 : Bd a p) (h2 : Bd a q) : Bd (a + 1) (p + q) := by
  unfold Bd at *
  have : (p + q).natAbs ≤ p.natAbs + q.natAbs := Int.natAbs_add_le ..
  rw [Nat.pow_succ]
  omega
theorem Bd.sub {a : Nat} {p q : Int} (h1 : Bd a p) (h2 : Bd a q) : Bd (a + 1) (p - q) := by
  rw [Int.sub_eq_add_neg]
  exact h1.add h2.neg
theorem Bd.le {a : Nat} {p q : Int} (h : Bd a q) (hl : p.natAbs ≤ q.natAbs) : Bd a p := Nat.lt_of_le_of_lt hl h
theorem fMul_bd {a b : Nat} {p q : Int} (h1 : Bd a p) (h2 : Bd b q) (hab : a + b ≤ 900000) : fMul (.int p) (.int q) = some (.val (.int (p * q))) := by
  refine if_pos ?_
  unfold mulOk
  rw [Bool.or_eq_true, Bool.or_eq_true]
  have x := (h1.mono (Nat.le_succ a)).log (Nat.succ_pos _)
  have y := (h2.mono (Nat.le_succ b)).log (Nat.succ_pos _)
  exact .inl (.inl (decide_eq_true (by omega)))
theorem fFdiv_bd {a : Nat} {p q : Int} (h1 : 0 < q) (h2 : Bd a q) (ha : a ≤ 9000) : fFdiv (.int p) (.int q) = some (.val (.int (p / q))) := by
  show (if divOk q = true then _ else _) = _
  rw [if_pos, zdiv_pos h1]
  unfold divOk
  rw [Bool.or_eq_true]
  refine .inr (decide_eq_true ⟨h1, ?_⟩)
  by_cases c : a = 0
  · subst c
    have : q.natAbs < 1 := h2
    omega
  · exact Nat.lt_of_lt_of_le (h2.log (by omega)) ha
theorem fFdiv_neg {p q : Int} (h1 : q < 0) (h2 : -1073741824 < q) : fFdiv (.int p) (.int q) = some (.val (.int (p.fdiv q))) := by
  show (if divOk q = true then _ else _) = _
  rw [if_pos]
  · rfl
  unfold divOk
  rw [Bool.or_eq_true]
  exact .inl (decide_eq_true ⟨by omega, by omega⟩)
end Dn
set_option Elab.async false
set_option linter.all false
set_option maxRecDepth 100000
set_option maxHeartbeats 1000000
/-! Dm4: comprehensions -/
namespace Dn
open PySem L2
@[simp] theorem wipeE_nil {ρ : Dn.Env} : wipeE ρ [] = ρ := id rfl
@[simp] theorem wipeE_cons {ρ : Dn.Env} {v : Nat} {vs : List Nat} : wipeE ρ (v :: vs) = sS (wipeE ρ vs) v .emp := id rfl
@[simp] theorem restE_nil {ρ ρ0 : Dn.Env} : restE ρ ρ0 [] = ρ := id rfl
@[simp] theorem restE_cons {ρ ρ0 : Dn.Env} {v : Nat} {vs : List Nat} : restE ρ ρ0 (v :: vs) = sS (restE ρ ρ0 vs) v (gS ρ0 v) := id rfl
def pureS : Sl → Bool
  | .emp => true
  | .val _ => true
  | _ => false
@[simp] theorem pureS_emp : pureS .emp = true := id rfl
@[simp] theorem pureS_val {d : D} : pureS (.val d) = true := id rfl
@[simp] theorem pureAt_nil {ρ : Dn.Env} : pureAt ρ [] = true := id rfl
@[simp] theorem pureAt_cons {ρ : Dn.Env} {v : Nat} {vs : List Nat} : pureAt ρ (v :: vs) = (pureS (gS ρ v) && pureAt ρ vs) := by
  show ((match gS ρ v with | .emp => true | .val _ => true | _ => false) && pureAt ρ vs) = _
  unfold pureS
  cases gS ρ v <;> rfl
section
variable {ρr : Dn.Env} {vs : List Nat} {g : D → Dn.Env → Option Dn.Env} {t : Dn.Env → Res Bool} {e : Dn.Env → Res R} {ρw ρ ρ1 : Dn.Env} {mi : Dn.Env → Res (List D)} {p : D → Bool} {f : D → D}
theorem lcL_eq : ∀ (ds acc : List D), (∀ d ∈ ds, ∃ ρ1 ρ2, g d ρw = some ρ1 ∧ t ρ1 = .ok (p d) ρ2 ∧ (p d = false → wipeE ρ2 vs = ρw) ∧ (p d = true → ∃ r ρ3, e ρ2 = .ok r ρ3 ∧ r.toD = f d ∧ wipeE ρ3 vs = ρw)) →
    acc.length + ds.length ≤ 16777216 → lcL vs g t e ds ρw acc = .ok (acc ++ (ds.filter p).map f) ρw
  | [], acc, _, _ => by
    rw [List.filter_nil, List.map_nil, List.append_nil]
    rfl
  | d :: ds, acc, h, hl => by
    obtain ⟨ρ1, ρ2, e1, e2, e3, e4⟩ := h d (List.mem_cons_self ..)
    have hl' : acc.length + (ds.length + 1) ≤ 16777216 := hl
    have ih := lcL_eq ds
    unfold lcL
    rw [e1]
    dsimp only
    rw [e2]
    cases hp : p d with
    | false =>
      show lcL vs g t e ds (wipeE ρ2 vs) acc = _
      rw [e3 hp, ih acc (fun d hd => h d (List.mem_cons_of_mem _ hd)) (by omega), List.filter_cons_of_neg (by rw [hp]; decide)]
    | true =>
      obtain ⟨r, ρ3, f1, f2, f3⟩ := e4 hp
      show bindR (noX (e ρ2)) _ = _
      rw [f1]
      show (if acc.length < 16777216 then lcL vs g t e ds (wipeE ρ3 vs) (acc ++ [r.toD]) else .bad) = _
      rw [if_pos (by omega), f3, f2, ih (acc ++ [f d]) (fun d hd => h d (List.mem_cons_of_mem _ hd)) (by rw [List.length_append, List.length_singleton]; omega), List.filter_cons_of_pos hp, List.map_cons, List.append_assoc]
      rfl
/-- [e for g in mi if t] -/
theorem lc_eq {ds : List D} (hi : mi ρ = .ok ds ρ1) (hp : pureAt ρ1 vs = true) (hw : wipeE ρ1 vs = ρw) (hd : ∀ d ∈ ds, ∃ ρ1 ρ2, g d ρw = some ρ1 ∧ t ρ1 = .ok (p d) ρ2 ∧ (p d = false → wipeE ρ2 vs = ρw) ∧ (p d = true → ∃ r ρ3, e ρ2 = .ok r ρ3 ∧ r.toD = f d ∧ wipeE ρ3 vs = ρw)) (hl : ds.length ≤ 16777216) (hr : restE ρw ρ1 vs = ρr) :
    eLc vs mi g t e ρ = .ok (.fresh (.lst ((ds.filter p).map f))) ρr := by
  rw [← hr]
  unfold eLc
  rw [hi]
  show (if pureAt ρ1 vs = true then bindR (lcL vs g t e ds (wipeE ρ1 vs) []) fun xs ρ2 => Res.ok (R.fresh (Cell.lst xs)) (restE ρ2 ρ1 vs) else .bad) = _
  rw [if_pos hp, hw, lcL_eq ds [] hd (by simpa using hl)]
  rfl
/-- [e for g in mi] -/
theorem lc_map {ds : List D} (hi : mi ρ = .ok ds ρ1) (hp : pureAt ρ1 vs = true) (hw : wipeE ρ1 vs = ρw) (hd : ∀ d ∈ ds, ∃ ρ1 r ρ3, g d ρw = some ρ1 ∧ e ρ1 = .ok r ρ3 ∧ r.toD = f d ∧ wipeE ρ3 vs = ρw) (hl : ds.length ≤ 16777216) (hr : restE ρw ρ1 vs = ρr) :
    eLc vs mi g tTrue e ρ = .ok (.fresh (.lst (ds.map f))) ρr := by
  rw [lc_eq (p := fun _ => true) (f := f) hi hp hw (fun d hm => ?_) hl hr, List.filter_eq_self.mpr (fun _ _ => rfl)]
  obtain ⟨ρ1, r, ρ3, a, b, c, w⟩ := hd d hm
  exact ⟨ρ1, ρ1, a, rfl, (fun z => by cases z), fun _ => ⟨r, ρ3, b, c, w⟩⟩
theorem asg_lc {i : Nat} {ds ds' : List D} (f : D → D) (hi : mi ρ = .ok ds ρ1) (hp : pureAt ρ1 vs = true) (hw : wipeE ρ1 vs = ρw) (hd : ∀ d ∈ ds, ∃ ρ1 r ρ3, g d ρw = some ρ1 ∧ e ρ1 = .ok r ρ3 ∧ r.toD = f d ∧ wipeE ρ3 vs = ρw) (hl : ds.length ≤ 16777216) (hr : restE ρw ρ1 vs = ρr) (hf : ds.map f = ds') (hb : isBor (gS ρr i) = false) :
    sAsg i (eLc vs mi g tTrue e) ρ = .nx (sS ρr i (.own (.lst ds'))) := by
  rw [sAsg_ap, lc_map hi hp hw hd hl hr, sAk_ok, putR_val, putS_nb hb, hf]
  rfl
end
end Dn
set_option Elab.async false
set_option linter.all false
set_option maxRecDepth 100000
/-! Dm5: evaluation of text methods, zip, enumerate, reversed; single signs in texts -/
namespace Dn
open PySem L2
open PySem.Builtin.Str (occurrences subAt lastOccurrence)
section
variable {ρ : Dn.Env} {a b : Dn.Env → Res D} {f : D → D → Option R} {v w : Str} {c : Nat}
def m1a (f : D → D → Option R) (b : Dn.Env → Res D) (r : Res D) : Res R := bindR r fun x ρ1 => if isStr x = true then o2b f x (b ρ1) else .bad
@[simp] theorem m1a_ok : m1a f b (.ok (.str v) ρ) = o2b f (.str v) (b ρ) := by
  unfold m1a
  rw [bindR_ok]
  exact if_pos rfl
@[simp] theorem eM1_ap : eM1 f a b ρ = m1a f b (a ρ) := id rfl
def zipk (r : Res (List D)) : Res (List D) := bindR r fun ds ρ1 => optR (zipA ds) ρ1
@[simp] theorem zipk_ok {ds : List D} : zipk (.ok ds ρ) = optR (zipA ds) ρ := id rfl
@[simp] theorem eZip_ap {m : Dn.Env → Res (List D)} : eZip m ρ = zipk (m ρ) := id rfl
@[simp] theorem zipA_2 {x y : D} : zipA [x, y] = zipD x y := id rfl
@[simp] theorem zipD_list {xs ys : List D} : zipD (.list xs) (.list ys) = some (List.zipWith pairD xs ys) := id rfl
@[simp] theorem zipD_tuple {xs ys : List D} : zipD (.tuple xs) (.tuple ys) = some (List.zipWith pairD xs ys) := id rfl
def enumk (r : Res D) : Res (List D) := bindR r fun ds ρ1 => optR (enumD ds) ρ1
@[simp] theorem enumk_ok {d : D} : enumk (.ok d ρ) = optR (enumD d) ρ := id rfl
@[simp] theorem eEnum_ap : eEnum a ρ = enumk (a ρ) := id rfl
@[simp] theorem enumD_list {xs : List D} : enumD (.list xs) = some (xs.zipIdx.map fun p => .tuple [.int (p.2 : Nat), p.1]) := id rfl
def revdk (r : Res D) : Res (List D) := bindR r fun ds ρ1 => optR (revdD ds) ρ1
@[simp] theorem revdk_ok {d : D} : revdk (.ok d ρ) = optR (revdD d) ρ := id rfl
@[simp] theorem eRevd_ap : eRevd a ρ = revdk (a ρ) := id rfl
@[simp] theorem revdD_list {xs : List D} : revdD (.list xs) = some xs.reverse := id rfl
@[simp] theorem revdD_tuple {xs : List D} : revdD (.tuple xs) = some xs.reverse := id rfl
@[simp] theorem fRev_list {xs : List D} : fRev (.list xs) = some (.fresh (.lst xs.reverse)) := id rfl
@[simp] theorem fRev_str (h : v.length ≤ 16777216) : fRev (.str v) = some (.val (.str (revS v))) := if_pos h
@[simp] theorem fFind_str : fFind (.str v) (.str w) = some (.val (.int (Txt.find v w))) := id rfl
@[simp] theorem fRfind_str : fRfind (.str v) (.str w) = some (.val (.int (Txt.rfind v w))) := id rfl
theorem fMulS_str {p : Int} (h1 : -4611686018427387904 ≤ p) (h2 : p < 4611686018427387904) (h3 : v.length * p.toNat ≤ 16777216) : fMulS (.str v) (.int p) = some (.val (.str (Txt.mul v p))) := if_pos ⟨h1, h2, h3⟩
theorem fMulS_tup {xs : List D} {p : Int} (h : xs ≠ []) (h1 : 1 ≤ p) (h2 : p ≤ 1000) (h3 : xs.length ≤ 1000) : fMulS (.tuple xs) (.int p) = some (.val (.tuple (List.replicate p.toNat xs).flatten)) := by
  show (if xs ≠ [] ∧ 2 ≤ p ∧ p ≤ 1000 ∧ xs.length ≤ 1000 then some (R.val (.tuple (List.replicate p.toNat xs).flatten)) else if xs ≠ [] ∧ p = 1 then some (R.val (.tuple xs)) else none) = _
  by_cases c : p = 1
  · subst c
    rw [if_neg (by omega), if_pos ⟨h, rfl⟩]
    simp
  · rw [if_pos ⟨h, by omega, h2, h3⟩]
theorem fMinD_ints {d : D} {ns : List Int} : fMinD d (.list (ns.map .int)) = some (if ns.length = 0 then .val d else .val (.int (minL ns))) := by
  show (intsD (ns.map .int)).map _ = _
  rw [intsD_map]
  rfl
theorem fMaxD_ints {d : D} {ns : List Int} : fMaxD d (.list (ns.map .int)) = some (if ns.length = 0 then .val d else .val (.int (maxL ns))) := by
  show (intsD (ns.map .int)).map _ = _
  rw [intsD_map]
  rfl
theorem fJoin_list {vs : List Str} (h : (vs.map (·.length)).sum + vs.length * v.length ≤ 16777216) : fJoin (.str v) (.list (vs.map .str)) = some (.val (.str (Txt.join v vs))) := by
  show (strsD (vs.map .str)).bind _ = _
  rw [strsD_map]
  exact if_pos h
theorem fJoin_tuple {vs : List Str} (h : (vs.map (·.length)).sum + vs.length * v.length ≤ 16777216) : fJoin (.str v) (.tuple (vs.map .str)) = some (.val (.str (Txt.join v vs))) := by
  show (strsD (vs.map .str)).bind _ = _
  rw [strsD_map]
  exact if_pos h
/-! ### a single sign -/
theorem at1 {i : Nat} : StrLaws.At w ⟨#[c]⟩ w.length i ↔ w.cps.toList[i]? = some c := by
  constructor
  · intro h; exact (sub1 w c i).mp h.2
  · intro h
    refine ⟨?_, (sub1 w c i).mpr h⟩
    have := (List.getElem?_eq_some_iff.mp h).1
    show i + 1 ≤ w.length
    exact this
theorem idx_of {l : List Nat} {i : Nat} (h : l[i]? = some c) (hn : ∀ k, k < i → l[k]? ≠ some c) : l.idxOf c = i := by
  induction l generalizing i with
  | nil => simp at h
  | cons x r ih =>
    rw [List.idxOf_cons]
    cases i with
    | zero => simp at h; simp [h]
    | succ i =>
      have hx : (x == c) = false := by
        have := hn 0 (by omega)
        simpa using this
      rw [hx]
      have := ih (i := i) (by simpa using h) fun k hk => by simpa using hn (k + 1) (by omega)
      simp [this]
theorem occ1 : (c ∉ w.cps.toList ∧ occurrences w ⟨#[c]⟩ 0 w.length 1 = []) ∨ (c ∈ w.cps.toList ∧ ∃ r, occurrences w ⟨#[c]⟩ 0 w.length 1 = w.cps.toList.idxOf c :: r) := by
  rcases StrLaws.occ_head w ⟨#[c]⟩ 1 (by decide) with ⟨e, h⟩ | ⟨i, r, e, h, hn⟩
  · refine .inl ⟨fun hm => ?_, e⟩
    obtain ⟨i, hi, ei⟩ := List.getElem_of_mem hm
    exact h i (at1.mpr (by rw [List.getElem?_eq_getElem hi, ei]))
  · refine .inr ⟨List.mem_of_getElem? (at1.mp h), r, ?_⟩
    rw [e, idx_of (at1.mp h) fun k hk z => hn k hk (at1.mpr z)]
theorem find1 : Txt.find w ⟨#[c]⟩ = if c ∈ w.cps.toList then (w.cps.toList.idxOf c : Int) else -1 := by
  unfold Txt.find
  rcases occ1 (w := w) (c := c) with ⟨h, e⟩ | ⟨h, r, e⟩
  · rw [e, if_neg h]
  · rw [e, if_pos h]
theorem fIndexS1 (h : c ∈ w.cps.toList) : fIndexS (.str w) (.str ⟨#[c]⟩) = some (.val (.int (w.cps.toList.idxOf c : Int))) := by
  show (match occurrences w ⟨#[c]⟩ 0 w.length 1 with | i :: _ => some (R.val (.int (i : Nat))) | [] => none) = _
  rcases occ1 (w := w) (c := c) with ⟨h', e⟩ | ⟨_, r, e⟩
  · exact absurd h h'
  · rw [e]
theorem last1 : lastOccurrence w ⟨#[c]⟩ 0 w.length = if c ∈ w.cps.toList then some (w.length - 1 - w.cps.toList.reverse.idxOf c) else none := by
  rw [StrLaws.last_eq]
  have key := StrLaws.last_run w ⟨#[c]⟩ w.length (List.range' 0 (w.length + 1 - 0)) [] none (fun _ z => nomatch z) (fun _ z => nomatch z) (by simpa using List.pairwise_lt_range' (s := 0) (n := w.length + 1))
  cases hr : (forIn (List.range' 0 (w.length + 1 - 0)) none (StrLaws.lastBody w ⟨#[c]⟩ w.length)).run with
  | none =>
    rw [hr] at key
    rw [if_neg]
    intro hm
    obtain ⟨i, hi, ei⟩ := List.getElem_of_mem hm
    refine key i ?_ (at1.mpr (by rw [List.getElem?_eq_getElem hi, ei]))
    have hl : w.cps.toList.length = w.length := rfl
    simp
    omega
  | some a =>
    rw [hr] at key
    have ha := at1.mp key.1
    have hl : w.cps.toList.length = w.length := rfl
    have hlt := (List.getElem?_eq_some_iff.mp ha).1
    rw [if_pos (List.mem_of_getElem? ha)]
    have : w.cps.toList.reverse.idxOf c = w.length - 1 - a := by
      refine idx_of ?_ fun k hk z => ?_
      · rw [List.getElem?_reverse (by omega), ← ha]
        congr 1
        omega
      · rw [List.getElem?_reverse (by omega)] at z
        exact key.2 (w.cps.toList.length - 1 - k) (by rw [List.nil_append, List.mem_range'_1]; omega) (by omega) (at1.mpr z)
    rw [this]
    congr 1
    omega
theorem rfind1 : Txt.rfind w ⟨#[c]⟩ = if c ∈ w.cps.toList then ((w.length - 1 - w.cps.toList.reverse.idxOf c : Nat) : Int) else -1 := by
  unfold Txt.rfind
  rw [last1]
  by_cases h : c ∈ w.cps.toList
  · rw [if_pos h, if_pos h]
  · rw [if_neg h, if_neg h]
theorem join0 : ∀ vs : List Str, (Txt.join Str.empty vs).cps.toList = (vs.map fun v => v.cps.toList).flatten
  | [] => by rw [show Txt.join Str.empty [] = Str.join Str.empty [] from StrLaws.glued_eq_join _ _]; rfl
  | [v] => by
    rw [show Txt.join Str.empty [v] = Str.join Str.empty [v] from StrLaws.glued_eq_join _ _]
    show v.cps.toList = _
    simp
  | v :: w :: r => by
    have ih := join0 (w :: r)
    rw [show Txt.join Str.empty (w :: r) = Str.join Str.empty (w :: r) from StrLaws.glued_eq_join _ _] at ih
    rw [show Txt.join Str.empty (v :: w :: r) = Str.join Str.empty (v :: w :: r) from StrLaws.glued_eq_join _ _]
    show (v ++ Str.empty ++ Str.join Str.empty (w :: r)).cps.toList = _
    rw [Str.append_empty, Str.cps_append, Array.toList_append, ih]
    simp
theorem mul1 {p : Int} : (Txt.mul ⟨#[c]⟩ p).cps.toList = List.replicate p.toNat c := by
  unfold Txt.mul
  by_cases h : p < 1
  · rw [if_pos h, show p.toNat = 0 by omega]; rfl
  · rw [if_neg h]
    by_cases h1 : p = 1
    · subst h1; rfl
    · rw [if_neg (by simp [h1, Str.length])]
      have aux : ∀ (n : Nat) (acc : Array Nat), ((List.replicate n #[c]).foldl (fun (x y : Array Nat) => x ++ y) acc).toList = acc.toList ++ List.replicate n c := by
        intro n
        induction n with
        | zero => intro acc; simp
        | succ n ih => intro acc; rw [List.replicate_succ, List.foldl_cons, ih, List.replicate_succ]; simp
      have := aux p.toNat #[]
      simpa using this

theorem fAll_map {α : Type} {L : List α} {q : α → Bool} : fAll (.list (L.map fun x => .bool (q x))) = some (.val (.bool (L.all q))) := by
  have e : L.map (fun x => PyData.bool (q x)) = (L.map q).map .bool := by rw [List.map_map]; rfl
  rw [e]
  show (boolsD ((L.map q).map .bool)).map _ = _
  rw [boolsD_map]
  simp [List.all_map, Function.comp_def]
theorem fAny_map {α : Type} {L : List α} {q : α → Bool} : fAny (.list (L.map fun x => .bool (q x))) = some (.val (.bool (L.any q))) := by
  have e : L.map (fun x => PyData.bool (q x)) = (L.map q).map .bool := by rw [List.map_map]; rfl
  rw [e]
  show (boolsD ((L.map q).map .bool)).map _ = _
  rw [boolsD_map]
  simp [List.any_map, Function.comp_def]
theorem seq_for {P : SR → Prop} {g : D → Dn.Env → Option Dn.Env} {m : Dn.Env → Res (List D)} {s t : Dn.Env → SR} {ρ ρ1 : Dn.Env} {ds : List D} (h : m ρ = .ok ds ρ1) (h2 : P (bindS (forL g s ds ρ1) t)) : P (sSeq (sFor g m s) t ρ) := by
  rw [sSeq_ap, sFor_ap, h, sFk_ok]
  exact h2
/-! ### comprehensions over typed items -/
theorem lcL_ty {α : Type} {vs : List Nat} {g : D → Dn.Env → Option Dn.Env} {t : Dn.Env → Res Bool} {e : Dn.Env → Res R} {ρw : Dn.Env} {inj f : α → D} {p : α → Bool} : ∀ (L : List α) (acc : List D), (∀ x ∈ L, ∃ ρ1 ρ2, g (inj x) ρw = some ρ1 ∧ t ρ1 = .ok (p x) ρ2 ∧ (p x = false → wipeE ρ2 vs = ρw) ∧ (p x = true → ∃ r ρ3, e ρ2 = .ok r ρ3 ∧ r.toD = f x ∧ wipeE ρ3 vs = ρw)) →
    acc.length + L.length ≤ 16777216 → lcL vs g t e (L.map inj) ρw acc = .ok (acc ++ (L.filter p).map f) ρw
  | [], acc, _, _ => by
    rw [List.filter_nil, List.map_nil, List.map_nil, List.append_nil]
    rfl
  | d :: ds, acc, h, hl => by
    obtain ⟨ρ1, ρ2, e1, e2, e3, e4⟩ := h d (List.mem_cons_self ..)
    have hl' : acc.length + (ds.length + 1) ≤ 16777216 := hl
    have ih := lcL_ty (vs := vs) (g := g) (t := t) (e := e) (ρw := ρw) (inj := inj) (f := f) (p := p) ds
    rw [List.map_cons]
    unfold lcL
    rw [e1]
    dsimp only
    rw [e2]
    cases hp : p d with
    | false =>
      show lcL vs g t e (ds.map inj) (wipeE ρ2 vs) acc = _
      rw [e3 hp, ih acc (fun d hd => h d (List.mem_cons_of_mem _ hd)) (by omega), List.filter_cons_of_neg (by rw [hp]; decide)]
    | true =>
      obtain ⟨r, ρ3, f1, f2, f3⟩ := e4 hp
      show bindR (noX (e ρ2)) _ = _
      rw [f1]
      show (if acc.length < 16777216 then lcL vs g t e (ds.map inj) (wipeE ρ3 vs) (acc ++ [r.toD]) else .bad) = _
      rw [if_pos (by omega), f3, f2, ih (acc ++ [f d]) (fun d hd => h d (List.mem_cons_of_mem _ hd)) (by rw [List.length_append, List.length_singleton]; omega), List.filter_cons_of_pos hp, List.map_cons, List.append_assoc]
      rfl
section
variable {α : Type} {vs : List Nat} {g : D → Dn.Env → Option Dn.Env} {t : Dn.Env → Res Bool} {e : Dn.Env → Res R} {ρ ρ1 ρw ρr : Dn.Env} {mi : Dn.Env → Res (List D)} {inj f : α → D} {p : α → Bool} {L : List α}
theorem lc_ty (hi : mi ρ = .ok (L.map inj) ρ1) (hp : pureAt ρ1 vs = true) (hw : wipeE ρ1 vs = ρw) (hd : ∀ x ∈ L, ∃ ρ1 ρ2, g (inj x) ρw = some ρ1 ∧ t ρ1 = .ok (p x) ρ2 ∧ (p x = false → wipeE ρ2 vs = ρw) ∧ (p x = true → ∃ r ρ3, e ρ2 = .ok r ρ3 ∧ r.toD = f x ∧ wipeE ρ3 vs = ρw))
    (hl : L.length ≤ 16777216) (hr : restE ρw ρ1 vs = ρr) : eLc vs mi g t e ρ = .ok (.fresh (.lst ((L.filter p).map f))) ρr := by
  rw [← hr]
  unfold eLc
  rw [hi]
  show (if pureAt ρ1 vs = true then bindR (lcL vs g t e (L.map inj) (wipeE ρ1 vs) []) fun xs ρ2 => Res.ok (R.fresh (Cell.lst xs)) (restE ρ2 ρ1 vs) else .bad) = _
  rw [if_pos hp, hw, lcL_ty L [] hd (by simpa using hl)]
  rfl
theorem lc_tym (hi : mi ρ = .ok (L.map inj) ρ1) (hp : pureAt ρ1 vs = true) (hw : wipeE ρ1 vs = ρw) (hd : ∀ x ∈ L, ∃ ρ1 r ρ3, g (inj x) ρw = some ρ1 ∧ e ρ1 = .ok r ρ3 ∧ r.toD = f x ∧ wipeE ρ3 vs = ρw)
    (hl : L.length ≤ 16777216) (hr : restE ρw ρ1 vs = ρr) : eLc vs mi g tTrue e ρ = .ok (.fresh (.lst (L.map f))) ρr := by
  rw [lc_ty (p := fun _ => true) (f := f) hi hp hw (fun d hm => ?_) hl hr, List.filter_eq_self.mpr (fun _ _ => rfl)]
  obtain ⟨ρ1, r, ρ3, a, b, c, w⟩ := hd d hm
  exact ⟨ρ1, ρ1, a, rfl, (fun z => by cases z), fun _ => ⟨r, ρ3, b, c, w⟩⟩
theorem lc_tyv (hi : mi ρ = .ok (L.map inj) ρ1) (hp : pureAt ρ1 vs = true) (hw : wipeE ρ1 vs = ρw) (hd : ∀ x ∈ L, ∃ ρ1, g (inj x) ρw = some ρ1 ∧ e ρ1 = .ok (.val (f x)) ρ1 ∧ wipeE ρ1 vs = ρw)
    (hl : L.length ≤ 16777216) (hr : restE ρw ρ1 vs = ρr) : eLc vs mi g tTrue e ρ = .ok (.fresh (.lst (L.map f))) ρr :=
  lc_tym hi hp hw (fun x hx => let ⟨ρ1, a, b, c⟩ := hd x hx; ⟨ρ1, _, ρ1, a, b, rfl, c⟩) hl hr
/-- the source leaves the slots as they are -/
theorem lc_t0 (hi : mi ρ = .ok (L.map inj) ρ) (hp : pureAt ρ vs = true) (hd : ∀ x ∈ L, ∃ ρ1, g (inj x) (wipeE ρ vs) = some ρ1 ∧ e ρ1 = .ok (.val (f x)) ρ1 ∧ wipeE ρ1 vs = wipeE ρ vs)
    (hl : L.length ≤ 16777216) (hr : restE (wipeE ρ vs) ρ vs = ρ) : eLc vs mi g tTrue e ρ = .ok (.fresh (.lst (L.map f))) ρ := lc_tyv hi hp rfl hd hl hr
theorem lc_tyf (hi : mi ρ = .ok (L.map inj) ρ1) (hp : pureAt ρ1 vs = true) (hw : wipeE ρ1 vs = ρw) (hd : ∀ x ∈ L, ∃ ρ1, g (inj x) ρw = some ρ1 ∧ t ρ1 = .ok (p x) ρ1 ∧ (p x = true → e ρ1 = .ok (.val (f x)) ρ1) ∧ wipeE ρ1 vs = ρw)
    (hl : L.length ≤ 16777216) (hr : restE ρw ρ1 vs = ρr) : eLc vs mi g t e ρ = .ok (.fresh (.lst ((L.filter p).map f))) ρr :=
  lc_ty hi hp hw (fun x hx => let ⟨ρ1, a, b, c, d⟩ := hd x hx; ⟨ρ1, ρ1, a, b, fun _ => d, fun q => ⟨_, ρ1, c q, rfl, d⟩⟩) hl hr
theorem lc_f0 (hi : mi ρ = .ok (L.map inj) ρ) (hp : pureAt ρ vs = true) (hd : ∀ x ∈ L, ∃ ρ1, g (inj x) (wipeE ρ vs) = some ρ1 ∧ t ρ1 = .ok (p x) ρ1 ∧ (p x = true → e ρ1 = .ok (.val (f x)) ρ1) ∧ wipeE ρ1 vs = wipeE ρ vs)
    (hl : L.length ≤ 16777216) (hr : restE (wipeE ρ vs) ρ vs = ρ) : eLc vs mi g t e ρ = .ok (.fresh (.lst ((L.filter p).map f))) ρ := lc_tyf hi hp rfl hd hl hr
end
end
section
variable {α : Type} {g : D → Dn.Env → Option Dn.Env} {b k : Dn.Env → SR} {P : SR → Prop} {inj : α → D} {ρ : Dn.Env} {L : List α}
theorem for_ty (I : List α → Dn.Env → Prop) (h0 : I [] ρ) (hs : ∀ done x rest ρ, L = done ++ x :: rest → I done ρ → ∃ ρ1, g (inj x) ρ = some ρ1 ∧ FL P k (I (done ++ [x])) (b ρ1)) (he : ∀ ρ, I L ρ → P (k ρ)) : P (bindS (forL g b (L.map inj) ρ) k) := by
  refine for_rule (fun r ρ => ∃ done todo, L = done ++ todo ∧ r = todo.map inj ∧ I done ρ) ⟨[], L, rfl, rfl, h0⟩ ?_ ?_
  · rintro d r ρ ⟨done, todo, e, er, hI⟩
    cases todo with
    | nil => cases er
    | cons x todo =>
      rw [List.map_cons] at er
      cases er
      obtain ⟨ρ1, e1, h1⟩ := hs done x todo ρ e hI
      refine ⟨ρ1, e1, ?_⟩
      have up : ∀ ρ, I (done ++ [x]) ρ → ∃ done' todo', L = done' ++ todo' ∧ todo.map inj = todo'.map inj ∧ I done' ρ := fun ρ h => ⟨done ++ [x], todo, by rw [e, List.append_assoc]; rfl, rfl, h⟩
      cases hb : b ρ1 with
      | nx ρ => rw [hb] at h1; exact up ρ h1
      | cnt ρ => rw [hb] at h1; exact up ρ h1
      | brk ρ => rw [hb] at h1; exact h1
      | ret r ρ => rw [hb] at h1; exact h1
      | exc c ρ => rw [hb] at h1; exact h1
      | bad => rw [hb] at h1; exact h1
  · rintro ρ ⟨done, todo, e, er, hI⟩
    have : todo = [] := by
      have := congrArg List.length er
      simp at this
      exact List.eq_nil_of_length_eq_zero this.symm
    subst this
    rw [List.append_nil] at e
    subst e
    exact he ρ hI
theorem for_tyl (I : List α → Dn.Env → Prop) (h0 : I [] ρ) (hs : ∀ done x rest ρ, L = done ++ x :: rest → I done ρ → ∃ ρ1, g (inj x) ρ = some ρ1 ∧ FL P .nx (I (done ++ [x])) (b ρ1)) (he : ∀ ρ, I L ρ → P (.nx ρ)) : P (forL g b (L.map inj) ρ) := by
  have := for_ty (k := .nx) I h0 hs he
  rwa [bindS_id] at this
end
end Dn
set_option Elab.async false
set_option linter.all false
set_option maxRecDepth 100000
/-! Dm6: evaluation of what Dn15 adds -/
namespace Dn
open PySem L2
section
variable {ρ : Dn.Env} {a b : Dn.Env → Res D} {f : D → D → Option R} {p q : Int} {i : Nat}
def enumAk (r : Res D) : Res (List D) := bindR r fun ds ρ1 => optR (enumA ds) ρ1
@[simp] theorem enumAk_ok {d : D} : enumAk (.ok d ρ) = optR (enumA d) ρ := id rfl
@[simp] theorem eEnumA_ap : eEnumA a ρ = enumAk (a ρ) := id rfl
@[simp] theorem enumA_list {xs : List D} : enumA (.list xs) = some (xs.zipIdx.map fun p => .tuple [.int (p.2 : Nat), p.1]) := id rfl
@[simp] theorem enumA_tuple {xs : List D} : enumA (.tuple xs) = some (xs.zipIdx.map fun p => .tuple [.int (p.2 : Nat), p.1]) := id rfl
@[simp] theorem fIsB_b {x y : Bool} : fIsB (.bool x) (.bool y) = some (.val (.bool (decide (x = y)))) := id rfl
@[simp] theorem fIsNotB_b {x y : Bool} : fIsNotB (.bool x) (.bool y) = some (.val (.bool (!decide (x = y)))) := id rfl
theorem divp {p q : Int} (h : 0 < q) (hp : p.natAbs < 2 ^ 1000) : Builtin.divisionGoesByPylong p q = false := by
  refine (divp_ok h ?_).2
  have : Builtin.Int.intBits p ≤ 1001 := by
    unfold Builtin.Int.intBits
    split
    · omega
    · have := log_small hp
      by_cases c : p.natAbs = 0
      · rw [c]; decide
      · have := (Nat.log2_lt c).mpr hp
        omega
  omega
theorem fDivmod_ok (h : 0 < q) (hp : p.natAbs < 2 ^ 1000) : fDivmod [.int p, .int q] = some (.val (.tuple [.int (p / q), .int (p % q)])) := if_pos ⟨h, divp h hp⟩
/-- xs[k] += e -/
def ag3 (i : Nat) (n : Int) (z : Option R) (s : Sl) (ρ : Dn.Env) : SR := match z, lstAt s with
  | some (.val z), some ys => if n < ys.length then .nx (sS ρ i (lstTo s (ys.set n.toNat z))) else .bad
  | _, _ => .bad
@[simp] theorem ag3_own {n : Int} {z : D} {ys : List D} (h : n < ys.length) : ag3 i n (some (.val z)) (.own (.lst ys)) ρ = .nx (sS ρ i (.own (.lst (ys.set n.toNat z)))) := if_pos h
def ag2 (i : Nat) (n : Int) (f : D → D → Option R) (x : D) (r : Res D) : SR := bindRS r fun y ρ2 => ag3 i n (f x y) (gS ρ2 i) ρ2
@[simp] theorem ag2_ok {n : Int} {x y : D} : ag2 i n f x (.ok y ρ) = ag3 i n (f x y) (gS ρ i) ρ := id rfl
def ag1 (i : Nat) (k : D) (f : D → D → Option R) (b : Dn.Env → Res D) (s : Sl) (ρ : Dn.Env) : SR := match lstAt s, k with
  | some xs, .int n => if 0 ≤ n then match xs[n.toNat]? with
      | some x => ag2 i n f x (b ρ)
      | none => .bad
    else .bad
  | _, _ => .bad
theorem ag1_own {n : Int} {xs : List D} {x : D} (h : 0 ≤ n) (hx : xs[n.toNat]? = some x) : ag1 i (.int n) f b (.own (.lst xs)) ρ = ag2 i n f x (b ρ) := by
  show (if 0 ≤ n then match xs[n.toNat]? with | some x => ag2 i n f x (b ρ) | none => .bad else .bad) = _
  rw [if_pos h, hx]
def ag0 (i : Nat) (f : D → D → Option R) (b : Dn.Env → Res D) (r : Res D) : SR := bindRS r fun k ρ1 => ag1 i k f b (gS ρ1 i) ρ1
@[simp] theorem ag0_ok {k : D} : ag0 i f b (.ok k ρ) = ag1 i k f b (gS ρ i) ρ := id rfl
def agK (i : Nat) (a : Dn.Env → Res D) (f : D → D → Option R) (b : Dn.Env → Res D) : Dn.Env → SR := fun ρ => ag0 i f b (a ρ)
@[simp] theorem agK_ap : agK i a f b ρ = ag0 i f b (a ρ) := id rfl
@[simp] theorem sAugL_ap : sAugL i a f b ρ = apG i (agK i a f b) (gS ρ i) ρ := by
  unfold sAugL apG
  cases lstAt (gS ρ i) with
  | none => rfl
  | some _ =>
    show bindRS (a ρ) _ = bindRS (a ρ) _
    congr 1
@[simp] theorem fAddI_int : fAddI (.int p) (.int q) = some (.val (.int (p + q))) := id rfl
@[simp] theorem fSubI_int : fSubI (.int p) (.int q) = some (.val (.int (p - q))) := id rfl
def an2 (i : Nat) (z : Option R) (s : Sl) (ρ : Dn.Env) : SR := match s, z with
  | .val _, some (.val z) => .nx (sS ρ i (.val z))
  | _, _ => .bad
@[simp] theorem an2_val {x z : D} : an2 i (some (.val z)) (.val x) ρ = .nx (sS ρ i (.val z)) := id rfl
def an1 (i : Nat) (f : D → D → Option R) (x : D) (r : Res D) : SR := bindRS r fun y ρ1 => an2 i (f x y) (gS ρ1 i) ρ1
@[simp] theorem an1_ok {x y : D} : an1 i f x (.ok y ρ) = an2 i (f x y) (gS ρ i) ρ := id rfl
def anS (i : Nat) (f : D → D → Option R) (b : Dn.Env → Res D) (s : Sl) (ρ : Dn.Env) : SR := match s with
  | .val x => an1 i f x (b ρ)
  | _ => .bad
@[simp] theorem anS_val {x : D} : anS i f b (.val x) ρ = an1 i f x (b ρ) := id rfl
@[simp] theorem sAugN_ap : sAugN i f b ρ = anS i f b (gS ρ i) ρ := by
  unfold sAugN anS
  cases gS ρ i <;> rfl
end
end Dn
set_option Elab.async false
set_option linter.all false
set_option maxRecDepth 100000
set_option maxHeartbeats 1000000
/-! Dm7: evaluation of d[k], d.get, try .. except -/
namespace Dn
open PySem
open L2 (Key)
section
variable {i : Nat} {a b : Dn.Env → Res D} {ρ ρ' : Dn.Env}
def dgE (q : Option Key) (x d : D) (ρ : Dn.Env) : Res R := match d, q with
  | .dict ds, some q => match lookD ds q with
    | some v => .ok (.val v) ρ
    | none => .ok (.val x) ρ
  | _, _ => .bad
@[simp] theorem dgE_own {kvs : List (Key × D)} {q : Key} {x : D} : dgE (some q) x (.dict (kvs.map fun p => (kd p.1, p.2))) ρ = .ok (.val ((lookC kvs q).getD x)) ρ := by
  show (match lookD (kvs.map fun p => (kd p.1, p.2)) q with | some v => Res.ok (R.val v) ρ | none => Res.ok (R.val x) ρ) = _
  rw [lookD_map]
  cases lookC kvs q <;> rfl
def dgD (k x : D) (r : Res D) : Res R := bindR r fun d ρ3 => dgE (keyD k) x d ρ3
@[simp] theorem dgD_ok {k x d : D} : dgD k x (.ok d ρ) = dgE (keyD k) x d ρ := id rfl
def dgC (i : Nat) (k : D) (r : Res D) : Res R := bindR r fun x ρ2 => dgD k x (ePk i ρ2)
@[simp] theorem dgC_ok {k x : D} : dgC i k (.ok x ρ) = dgD k x (ePk i ρ) := id rfl
def dgB (i : Nat) (b : Dn.Env → Res D) (r : Res D) : Res R := bindR r fun k ρ1 => dgC i k (b ρ1)
@[simp] theorem dgB_ok {k : D} : dgB i b (.ok k ρ) = dgC i k (b ρ) := id rfl
def dgF (i : Nat) (b : Dn.Env → Res D) (d : D) (r : Res D) : Res R := match d with
  | .dict _ => dgB i b r
  | _ => .bad
@[simp] theorem dgF_d {ds : List (D × D)} {r : Res D} : dgF i b (.dict ds) r = dgB i b r := id rfl
def dgA (i : Nat) (b : Dn.Env → Res D) (r : Res D) (r0 : Res D) : Res R := bindR r0 fun d0 _ => dgF i b d0 r
@[simp] theorem dgA_ok {d : D} {r : Res D} : dgA i b r (.ok d ρ) = dgF i b d r := id rfl
@[simp] theorem eDget_ap : eDget i a b ρ = dgA i b (a ρ) (ePk i ρ) := by
  unfold eDget dgA
  congr 1
def dxE (q : Option Key) (d : D) (ρ : Dn.Env) : Res R := match d, q with
  | .dict ds, some q => match lookD ds q with
    | some v => .ok (.val v) ρ
    | none => .bad
  | _, _ => .bad
@[simp] theorem dxE_own {kvs : List (Key × D)} {q : Key} {v : D} (h : lookC kvs q = some v) : dxE (some q) (.dict (kvs.map fun p => (kd p.1, p.2))) ρ = .ok (.val v) ρ := by
  show (match lookD (kvs.map fun p => (kd p.1, p.2)) q with | some v => Res.ok (R.val v) ρ | none => (Res.bad : Res R)) = _
  rw [lookD_map, h]
def dxD (k : D) (r : Res D) : Res R := bindR r fun d ρ3 => dxE (keyD k) d ρ3
@[simp] theorem dxD_ok {k d : D} : dxD k (.ok d ρ) = dxE (keyD k) d ρ := id rfl
def dxB (i : Nat) (r : Res D) : Res R := bindR r fun k ρ1 => dxD k (ePk i ρ1)
@[simp] theorem dxB_ok {k : D} : dxB i (.ok k ρ) = dxD k (ePk i ρ) := id rfl
def dxA (i : Nat) (r : Res D) (r0 : Res D) : Res R := bindR r0 fun _ _ => dxB i r
@[simp] theorem dxA_ok {d : D} {r : Res D} : dxA i r (.ok d ρ) = dxB i r := id rfl
@[simp] theorem eDix_ap : eDix i a ρ = dxA i (a ρ) (ePk i ρ) := by
  unfold eDix dxA dxB dxD dxE
  rfl
def tryO (h : Str → Option (Option D)) : SR → SR
  | .exc c ρ1 => match h c with
    | some (some v) => if okV v = true then .ret (.val v) ρ1 else .bad
    | some none => .exc c ρ1
    | none => .bad
  | r => r
@[simp] theorem sTryO_ap {bd : Dn.Env → SR} {h : Str → Option (Option D)} : sTryO bd h ρ = tryO h (bd ρ) := by
  unfold sTryO tryO
  cases bd ρ <;> rfl
@[simp] theorem tryO_nx {h : Str → Option (Option D)} : tryO h (.nx ρ) = .nx ρ := id rfl
@[simp] theorem tryO_ret {h : Str → Option (Option D)} {r : R} : tryO h (.ret r ρ) = .ret r ρ := id rfl
theorem tryO_h1 {c : Str} {v : D} (hv : okV v = true) : tryO (h1 c v) (.exc c ρ) = .ret (.val v) ρ := by
  unfold tryO h1
  simp [hv]
end
end Dn
set_option Elab.async false
set_option linter.all false
set_option maxRecDepth 100000
set_option maxHeartbeats 1000000
/-! Dm8: evaluation of lending calls; a def whose first argument is lent; comprehensions that change the slots -/
namespace Dn
open PySem
open L2 (Key)
section
variable {i n : Nat} {f : Dn.Env → Res R} {m : Dn.Env → Res (List D)} {ρ ρ1 t : Dn.Env} {c c' : Cell} {r : R} {ds : List D} {b : Dn.Env → SR}
@[simp] theorem cellAt_own : cellAt (.own c) = some c := id rfl
@[simp] theorem cellAt_bor : cellAt (.bor c) = some c := id rfl
@[simp] theorem cellTo_own : cellTo (.own c) c' = .own c' := id rfl
@[simp] theorem cellTo_bor : cellTo (.bor c) c' = .bor c' := id rfl
@[simp] theorem backB_ok : backB i ρ1 (.ok r (.bor c' :: t)) = .ok (.val r.toD) (sS ρ1 i (cellTo (gS ρ1 i) c')) := id rfl
@[simp] theorem backB_exc {e : Str} : backB i ρ1 (.exc e (.bor c' :: t)) = .exc e (sS ρ1 i (cellTo (gS ρ1 i) c')) := id rfl
def cb3 (i n : Nat) (f : Dn.Env → Res R) (ds : List D) (ρ1 : Dn.Env) (c : Cell) : Res R := if ds.length + 1 = n then backB i ρ1 (f (.bor c :: vals ds)) else .bad
@[simp] theorem cb3_ok (h : ds.length + 1 = n) : cb3 i n f ds ρ1 c = backB i ρ1 (f (.bor c :: vals ds)) := if_pos h
def cb2 (i n : Nat) (f : Dn.Env → Res R) (ds : List D) (ρ1 : Dn.Env) (s : Sl) : Res R := match cellAt s with
  | none => .bad
  | some c => cb3 i n f ds ρ1 c
@[simp] theorem cb2_own : cb2 i n f ds ρ1 (.own c) = cb3 i n f ds ρ1 c := id rfl
@[simp] theorem cb2_bor : cb2 i n f ds ρ1 (.bor c) = cb3 i n f ds ρ1 c := id rfl
def cb1 (i n : Nat) (f : Dn.Env → Res R) (q : Res (List D)) : Res R := bindR q fun ds ρ1 => cb2 i n f ds ρ1 (gS ρ1 i)
@[simp] theorem cb1_ok : cb1 i n f (.ok ds ρ1) = cb2 i n f ds ρ1 (gS ρ1 i) := id rfl
def cb0 (i n : Nat) (f : Dn.Env → Res R) (q : Res (List D)) (s : Sl) : Res R := match cellAt s with
  | none => .bad
  | some _ => cb1 i n f q
@[simp] theorem cb0_own {q : Res (List D)} : cb0 i n f q (.own c) = cb1 i n f q := id rfl
@[simp] theorem cb0_bor {q : Res (List D)} : cb0 i n f q (.bor c) = cb1 i n f q := id rfl
@[simp] theorem eCallB_ap : eCallB i n f m ρ = cb0 i n f (m ρ) (gS ρ i) := by
  unfold eCallB cb0 cb1 cb2 cb3
  rfl
/-- a turn of a def whose first argument is lent -/
def RetB (n : Nat) (c : Cell) (r : R) (s : SR) : Prop := ∃ ρ, s = .ret r (.bor c :: ρ) ∧ n ≤ ρ.length
theorem RetB_ret {r' : R} (e : SR.ret r' (s :: ρ) = SR.ret r (.bor c :: ρ)) (h : n ≤ ρ.length) : RetB n c r (.ret r' (s :: ρ)) := ⟨ρ, e, h⟩
@[simp] theorem RetB_iff {r' : R} : RetB n c r (.ret r' (.bor c' :: ρ)) ↔ (r' = r ∧ c' = c) ∧ n ≤ ρ.length := by
  constructor
  · rintro ⟨ρ1, e, h⟩
    cases e
    exact ⟨⟨rfl, rfl⟩, h⟩
  · rintro ⟨⟨rfl, rfl⟩, h⟩
    exact ⟨ρ, rfl, h⟩
theorem backB_vals {s : List D} {ρ : Dn.Env} (h : s.length ≤ ρ.length) : backA (.bor c :: vals s) (.bor c' :: ρ) = some (.bor c' :: vals s) := by
  show (backA (vals s) ρ).map _ = _
  rw [backA_vals s ρ h]
  rfl
theorem mkF_retB {n m : Nat} {b : Dn.Env → SR} {ds : List D} {r : R} (hl : ds.length + 1 = n) (h : RetB ds.length c' r (b (.bor c :: vals ds ++ List.replicate (m - n) .emp))) : mkF n m b (.bor c :: vals ds) = .ok r (.bor c' :: vals ds) := by
  obtain ⟨ρ, e, hρ⟩ := h
  unfold mkF
  rw [if_pos (by rw [List.length_cons, vals_len]; exact hl), e]
  show (match backA (.bor c :: vals ds) (.bor c' :: ρ) with | some a => Res.ok r a | none => .bad) = _
  rw [backB_vals hρ]
/-- .. with a result that is one of many -/
def ExB {α : Type} (n : Nat) (φ : α → Prop) (f : α → R) (g : α → Cell) (s : SR) : Prop := ∃ x, φ x ∧ RetB n (g x) (f x) s
theorem ExB_ret {α : Type} {φ : α → Prop} {f : α → R} {g : α → Cell} {s : SR} {r : R} {c : Cell} (e : s = .ret r (.bor c :: ρ)) (x : α) (h : φ x) (er : r = f x) (ec : c = g x) (l : n ≤ ρ.length) : ExB n φ f g s := ⟨x, h, ρ, by rw [e, er, ec], l⟩
theorem mkF_exB {α : Type} {n m : Nat} {b : Dn.Env → SR} {ds : List D} {φ : α → Prop} {f : α → R} {g : α → Cell} (hl : ds.length + 1 = n) (h : ExB ds.length φ f g (b (.bor c :: vals ds ++ List.replicate (m - n) .emp))) : ∃ x, φ x ∧ mkF n m b (.bor c :: vals ds) = .ok (f x) (.bor (g x) :: vals ds) := by
  obtain ⟨x, hx, h⟩ := h
  exact ⟨x, hx, mkF_retB hl h⟩
end
section
variable {α : Type} {vs : List Nat} {g : D → Dn.Env → Option Dn.Env} {e : Dn.Env → Res R} {ρ ρ1 : Dn.Env} {mi : Dn.Env → Res (List D)} {inj : α → D}
/-- a comprehension that changes the slots: I of what was found and of the slots -/
theorem lcL_inv (I : List D → Dn.Env → Prop) : ∀ (L : List α) (acc : List D) (ρw : Dn.Env), I acc ρw → (∀ x ∈ L, ∀ acc ρ, I acc ρ → ∃ ρ1 r ρ3, g (inj x) ρ = some ρ1 ∧ e ρ1 = .ok r ρ3 ∧ I (acc ++ [r.toD]) (wipeE ρ3 vs)) →
    acc.length + L.length ≤ 16777216 → ∃ acc' ρ', I acc' ρ' ∧ acc'.length = acc.length + L.length ∧ lcL vs g tTrue e (L.map inj) ρw acc = .ok acc' ρ'
  | [], acc, ρw, h, _, _ => ⟨acc, ρw, h, rfl, rfl⟩
  | x :: L, acc, ρw, h, hs, hl => by
    obtain ⟨ρ1, r, ρ3, e1, e2, h3⟩ := hs x (List.mem_cons_self ..) acc ρw h
    have hl' : acc.length + (L.length + 1) ≤ 16777216 := by simpa using hl
    obtain ⟨acc', ρ', i1, i2, i3⟩ := lcL_inv I L (acc ++ [r.toD]) (wipeE ρ3 vs) h3 (fun x hx => hs x (List.mem_cons_of_mem _ hx)) (by rw [List.length_append, List.length_singleton]; omega)
    refine ⟨acc', ρ', i1, by rw [i2, List.length_append, List.length_singleton, List.length_cons]; omega, ?_⟩
    rw [← i3]
    rw [List.map_cons]
    show (match g (inj x) ρw with | none => (Res.bad : Res (List D)) | some ρ1 => bindR (noX (e ρ1)) fun r ρ3 => if acc.length < 16777216 then lcL vs g tTrue e (L.map inj) (wipeE ρ3 vs) (acc ++ [r.toD]) else .bad) = _
    rw [e1]
    show bindR (noX (e ρ1)) _ = _
    rw [e2]
    show (if acc.length < 16777216 then lcL vs g tTrue e (L.map inj) (wipeE ρ3 vs) (acc ++ [r.toD]) else .bad) = _
    rw [if_pos (by omega)]
theorem lc_inv (I : List D → Dn.Env → Prop) {L : List α} (hi : mi ρ = .ok (L.map inj) ρ1) (hp : pureAt ρ1 vs = true) (h0 : I [] (wipeE ρ1 vs)) (hs : ∀ x ∈ L, ∀ acc ρ, I acc ρ → ∃ ρ1 r ρ3, g (inj x) ρ = some ρ1 ∧ e ρ1 = .ok r ρ3 ∧ I (acc ++ [r.toD]) (wipeE ρ3 vs))
    (hl : L.length ≤ 16777216) : ∃ acc ρ', I acc ρ' ∧ acc.length = L.length ∧ eLc vs mi g tTrue e ρ = .ok (.fresh (.lst acc)) (restE ρ' ρ1 vs) := by
  obtain ⟨acc, ρ', i1, i2, i3⟩ := lcL_inv I L [] (wipeE ρ1 vs) h0 hs (by simpa using hl)
  refine ⟨acc, ρ', i1, by simpa using i2, ?_⟩
  unfold eLc
  rw [hi]
  show (if pureAt ρ1 vs = true then bindR (lcL vs g tTrue e (L.map inj) (wipeE ρ1 vs) []) fun xs ρ2 => Res.ok (R.fresh (Cell.lst xs)) (restE ρ2 ρ1 vs) else .bad) = _
  rw [if_pos hp, i3]
  rfl
end
end Dn
set_option Elab.async false
set_option linter.all false
set_option maxRecDepth 100000
set_option maxHeartbeats 2000000
namespace Law
open Dn PySem
open L2 (Key)
theorem is_whole_eq (d : D) : d_is_whole [.val d] = .ok (.val (.bool (isInt d && !isBool d))) [.val d] := by
  refine mkF_ret (ds := [d]) rfl ?_
  simp [b_is_whole]
theorem is_whole_in_int (n a b : Int) : d_is_whole_in [.val (.int n), .val (.int a), .val (.int b)] = .ok (.val (.bool (decide (a ≤ n) && decide (n ≤ b)))) [.val (.int n), .val (.int a), .val (.int b)] := by
  refine mkF_ret (ds := [.int n, .int a, .int b]) rfl ?_
  have e := is_whole_eq (.int n)
  simp [b_is_whole_in, e, isInt, isBool]
theorem is_tuple_of_eq (d : D) (a b : Int) : d_is_tuple_of [.val d, .val (.int a), .val (.int b)] = .ok (.val (.bool (match d with | .tuple ds => decide (a ≤ ds.length) && decide ((ds.length : Int) ≤ b) | _ => false))) [.val d, .val (.int a), .val (.int b)] := by
  refine mkF_ret (ds := [d, .int a, .int b]) rfl ?_
  cases d <;> simp [b_is_tuple_of, isTup]
def isLet (c : Nat) : Bool := decide (97 ≤ c ∧ c ≤ 122)
def isDig (c : Nat) : Bool := decide (48 ≤ c ∧ c ≤ 57)
theorem mem_letters (c : Nat) : decide (c ∈ (Str.ofString "abcdefghijklmnopqrstuvwxyz").cps.toList) = isLet c := by
  rw [str_lit, Bool.eq_iff_iff, decide_eq_true_iff]
  unfold isLet
  rw [decide_eq_true_iff, show "abcdefghijklmnopqrstuvwxyz".toList.map Char.toNat = [97,98,99,100,101,102,103,104,105,106,107,108,109,110,111,112,113,114,115,116,117,118,119,120,121,122] by decide +kernel]
  simp
  omega
theorem mem_digits (c : Nat) : decide (c ∈ (Str.ofString "0123456789").cps.toList) = isDig c := by
  rw [str_lit, Bool.eq_iff_iff, decide_eq_true_iff]
  unfold isDig
  rw [decide_eq_true_iff, show "0123456789".toList.map Char.toNat = [48,49,50,51,52,53,54,55,56,57] by decide +kernel]
  simp
  omega
theorem ni_letters (c : Nat) : fNotIn (.str ⟨#[c]⟩) (.str (Str.ofString "abcdefghijklmnopqrstuvwxyz")) = some (.val (.bool (!isLet c))) := by rw [fNotIn1, mem_letters]
theorem ni_digits (c : Nat) : fNotIn (.str ⟨#[c]⟩) (.str (Str.ofString "0123456789")) = some (.val (.bool (!isDig c))) := by rw [fNotIn1, mem_digits]
def okCh (c : Nat) : Bool := isLet c || isDig c
def isNm (cs : List Nat) : Bool := decide (1 ≤ cs.length) && decide (cs.length ≤ 8) && isLet (nth cs 0 0) && cs.all okCh
def isName : D → Bool
  | .str z => isNm z.cps.toList
  | _ => false
def strOk : D → Bool
  | .str z => decide (z.length ≤ 16777216)
  | _ => true
theorem all_false {α : Type} {p : α → Bool} : ∀ {l : List α}, l.all p = false → ∃ pre x post, l = pre ++ x :: post ∧ (∀ y ∈ pre, p y = true) ∧ p x = false
  | [], h => by cases h
  | a :: l, h => by
    cases e : p a with
    | false => exact ⟨[], a, l, rfl, by simp, e⟩
    | true =>
      have h' : l.all p = false := by simpa [e] using h
      obtain ⟨pre, x, post, e1, e2, e3⟩ := all_false h'
      exact ⟨a :: pre, x, post, by rw [e1]; rfl, by simp; exact ⟨e, e2⟩, e3⟩
theorem is_name_eq (d : D) (h : strOk d = true) : d_is_name [.val d] = .ok (.val (.bool (isName d))) [.val d] := by
  refine mkF_ret (ds := [d]) rfl ?_
  cases d with
  | str z =>
    obtain ⟨⟨l⟩⟩ := z
    have h : l.length ≤ 16777216 := of_decide_eq_true h
    have el : Str.length ⟨⟨l⟩⟩ = l.length := rfl
    have e0 : isName (.str ⟨⟨l⟩⟩) = isNm l := rfl
    rw [e0]
    simp [b_is_name, isStr, h, el]
    by_cases h1 : 1 ≤ l.length
    · by_cases h2 : l.length ≤ 8
      · have e1 : ¬ ((l.length : Int) < 1) := by omega
        have e2 : ¬ (8 < (l.length : Int)) := by omega
        have e3 : fIx (.str ⟨⟨l⟩⟩) (.int 0) = some (.val (.str ⟨#[nth l 0 0]⟩)) := fIx_str (v := ⟨⟨l⟩⟩) (p := 0) (by omega) (by rw [el]; omega) h
        cases h3 : isLet (nth l 0 0) with
        | false =>
          have q : isNm l = false := by unfold isNm; rw [h3]; simp
          rw [q]
          simp [e1, e2, e3, ni_letters, h3]
        | true =>
          have q : isNm l = l.all okCh := by unfold isNm; rw [h3]; simp [h1, h2]
          rw [q]
          generalize hP : l.all okCh = P at *
          simp [e1, e2, e3, ni_letters, h3]
          rw [← hP] at *
          refine for_rule (P := Ret 1 (.val (.bool (l.all okCh)))) (fun r ρ => ∃ rest s, r = rest.map (fun c => .str ⟨#[c]⟩) ∧ l.all okCh = rest.all okCh ∧ isBor s = false ∧ ρ = [.val (.str ⟨⟨l⟩⟩), s]) ⟨l, .emp, rfl, rfl, rfl, rfl⟩ ?_ ?_
          · rintro d r ρ ⟨rest, s, e, a, n, rfl⟩
            cases rest with
            | nil => cases e
            | cons c rest =>
              rw [List.map_cons] at e
              cases e
              refine ⟨_, by simp; exact gNmS_nb n, ?_⟩
              cases hc : okCh c with
              | false =>
                have a' : l.all okCh = false := by rw [a]; simp [hc]
                have hc' := hc
                unfold okCh at hc'
                rw [Bool.or_eq_false_iff] at hc'
                rw [a']
                simp [ni_letters, ni_digits, hc'.1, hc'.2]
              | true =>
                have a' : l.all okCh = rest.all okCh := by rw [a]; simp [hc]
                have hc' := hc
                unfold okCh at hc'
                have q2 : (!isLet c && !isDig c) = false := by cases e1 : isLet c <;> cases e2 : isDig c <;> simp [e1, e2] at hc' ⊢
                simp [ni_letters, ni_digits, q2]
                exact ⟨rest, rfl, a'⟩
          · rintro ρ ⟨rest, s, e, a, n, rfl⟩
            cases rest with
            | nil =>
              rw [a]
              simp
            | cons c rest => cases e
      · simp [show ¬ ((l.length : Int) < 1) by omega, show (8 < (l.length : Int)) by omega, isNm, h2]
    · simp [show ((l.length : Int) < 1) by omega, isNm, h1]
  | _ => simp [b_is_name, isStr, isName]
end Law
set_option Elab.async false
set_option linter.all false
set_option maxRecDepth 100000
set_option maxHeartbeats 2000000
namespace Law
open Dn PySem
open L2 (Key)
theorem fInt_b {b : Bool} : fInt (.bool b) = some (.val (.int (if b then 1 else 0))) := id rfl
/-! ### the jar of draws -/
def Jar (j : List D) : Prop := ∃ a b c d : Int, 0 ≤ a ∧ j = [.int a, .int b, .int c, .int d]
theorem jar_eq (ns : List Int) (k : Int) (h0 : 0 ≤ k) (h1 : k ≤ 1000) : ∃ j, Jar j ∧ d__law_jar [.val (script ns), .val (.int k)] = .ok (.fresh (.lst j)) [.val (script ns), .val (.int k)] := by
  have key : ExRet 2 Jar (fun j => .fresh (.lst j)) (b__law_jar [.val (script ns), .val (.int k), .emp]) := by
    have hl : fLen (script ns) = some (.val (.int ns.length)) := by simp [script]
    have hx : k < ns.length → ∃ v : Int, fIx (script ns) (.int k) = some (.val (.int v)) := fun h => ⟨_, fIx_ints h0 h⟩
    generalize script ns = S at *
    unfold b__law_jar
    refine seq_nx (ρ1 := [.val S, .val (.int k), .val (.int 0)]) (by simp) ?_
    have s1 : ∃ c : Int, 0 ≤ c ∧ sIf (tBoolD (eOp2 fLt (toV (eVar 1)) (toV (eOp1 fLen (ePk 0))))) (sAsg 2 (eOp1 fAbs (toV (eOp1 fInt (toV (eIxV 0 (toV (eVar 1)))))))) (sNil) [.val S, .val (.int k), .val (.int 0)] = .nx [.val S, .val (.int k), .val (.int c)] := by
      by_cases c : k < ns.length
      · obtain ⟨v, hv⟩ := hx c
        exact ⟨if v < 0 then -v else v, by split <;> omega, by simp [hl, hv, c]⟩
      · exact ⟨0, Int.le_refl _, by simp [hl, c]⟩
    obtain ⟨c, hc, s1⟩ := s1
    refine seq_nx s1 ?_
    have q1 := fMod_pos (p := c) (q := 2147483647) (by decide)
    have q2 := fMul_l (p := 7919) (q := k + 1) (by decide) (by decide)
    refine ExRet_ret (r := .fresh (.lst [.int c, .int (c % 2147483647 + 7919 * (k + 1)), .int 0, .int (if decide (1000000000000000000 ≤ c) = true then 1 else 0)])) (ρ := [.val S, .val (.int k), .val (.int c)]) ?_ _ ⟨c, _, _, _, hc, rfl⟩ rfl (by simp)
    simp [q1, q2, fInt_b]
  obtain ⟨j, hj, e⟩ := key
  exact ⟨j, hj, mkF_ret (ds := [script ns, .int k]) rfl e⟩
theorem draw_eq {j : List D} (hj : Jar j) (size : Int) (h0 : 0 < size) (h1 : size < 1073741824) : ∃ x : Int × List D, ((0 ≤ x.1 ∧ x.1 < size) ∧ Jar x.2) ∧ d__law_draw [.bor (.lst j), .val (.int size)] = .ok (.val (.int x.1)) [.bor (.lst x.2), .val (.int size)] := by
  obtain ⟨a, b, c, d, ha, rfl⟩ := hj
  refine mkF_exB (n := 2) (m := 4) (ds := [.int size]) (f := fun x : Int × List D => .val (.int x.1)) (g := fun x => .lst x.2) rfl ?_
  show ExB 1 _ _ _ (b__law_draw [.bor (.lst [.int a, .int b, .int c, .int d]), .val (.int size), .emp, .emp])
  unfold b__law_draw
  by_cases q : d = 1 ∧ 0 < a
  · have m1 := fMod_pos (p := a) (q := size) h0
    have m2 := fFdiv_pos (p := a) (q := size) h0 h1
    obtain ⟨q1, q2⟩ := q
    subst q1
    have e : sIf (tAndD (tBoolD (eOp2 fEq (toV (eIxV 0 (toV (eC (.int 3))))) (toV (eC (.int 1))))) (tBoolD (eOp2 fGt (toV (eIxV 0 (toV (eC (.int 0))))) (toV (eC (.int 0)))))) (sSeq (sAsg 3 (eOp2 fMod (toV (eOp1 fInt (toV (eIxV 0 (toV (eC (.int 0))))))) (toV (eVar 1))))
    (sSeq (sSetL 0 (toV (eOp2 fFdiv (toV (eIxV 0 (toV (eC (.int 0))))) (toV (eVar 1)))) (toV (eC (.int 0))))
    (sRet (eVar 3)))) (sNil) [.bor (.lst [.int a, .int b, .int c, .int 1]), .val (.int size), .emp, .emp] = .ret (.val (.int (a % size))) [.bor (.lst [.int (a / size), .int b, .int c, .int 1]), .val (.int size), .emp, .val (.int (a % size))] := by
      simp [q2, m1, m2]
    rw [sSeq_ap, e]
    exact ExB_ret (ρ := [.val (.int size), .emp, .val (.int (a % size))]) rfl (a % size, [.int (a / size), .int b, .int c, .int 1]) ⟨⟨Int.emod_nonneg _ (by omega), Int.emod_lt_of_pos _ h0⟩, a / size, b, c, 1, Int.ediv_nonneg ha (by omega), rfl⟩ rfl rfl (by simp)
  · refine seq_nx (ρ1 := [.bor (.lst [.int a, .int b, .int c, .int d]), .val (.int size), .emp, .emp]) ?_ ?_
    · by_cases q1 : d = 1
      · have q2 : ¬ 0 < a := fun z => q ⟨q1, z⟩
        simp [q1, q2]
      · simp [q1]
    refine seq_nx (ρ1 := [.bor (.lst [.int a, .int b, .int (c + 1), .int d]), .val (.int size), .emp, .emp]) (by simp) ?_
    have q1 := fMul_l (p := 40503) (q := c + 1) (by decide) (by decide)
    have q2 := fMod_pos (p := b + 40503 * (c + 1)) (q := 2147483647) (by decide)
    have b2 : 0 ≤ (b + 40503 * (c + 1)) % 2147483647 ∧ (b + 40503 * (c + 1)) % 2147483647 < 2147483647 := ⟨Int.emod_nonneg _ (by decide), Int.emod_lt_of_pos _ (by decide)⟩
    obtain ⟨t, ht⟩ : ∃ t, t = (b + 40503 * (c + 1)) % 2147483647 := ⟨_, rfl⟩
    rw [← ht] at q2 b2
    refine seq_nx (ρ1 := [.bor (.lst [.int a, .int b, .int (c + 1), .int d]), .val (.int size), .val (.int t), .emp]) (by simp [q1, q2]) ?_
    have q3 := fMul_l (p := t) (q := t) (by omega) (by omega)
    have q4 := fMul_l (p := 48271) (q := c + 1) (by decide) (by decide)
    have q5 := fMod_pos (p := t * t + 48271 * (c + 1)) (q := 2147483629) (by decide)
    have b5 : 0 ≤ (t * t + 48271 * (c + 1)) % 2147483629 ∧ (t * t + 48271 * (c + 1)) % 2147483629 < 2147483629 := ⟨Int.emod_nonneg _ (by decide), Int.emod_lt_of_pos _ (by decide)⟩
    obtain ⟨u, hu⟩ : ∃ u, u = (t * t + 48271 * (c + 1)) % 2147483629 := ⟨_, rfl⟩
    rw [← hu] at q5 b5
    refine seq_nx (ρ1 := [.bor (.lst [.int a, .int b, .int (c + 1), .int d]), .val (.int size), .val (.int u), .emp]) (by simp [q3, q4, q5]) ?_
    have q6 := fMul_l (p := u) (q := u) (by omega) (by omega)
    have q7 := fFdiv_pos (p := u * u) (q := 1024) (by decide) (by decide)
    have q8 := fMod_pos (p := u * u / 1024 + u) (q := 2147483629) (by decide)
    obtain ⟨w, hw⟩ : ∃ w, w = (u * u / 1024 + u) % 2147483629 := ⟨_, rfl⟩
    rw [← hw] at q8
    refine seq_nx (ρ1 := [.bor (.lst [.int a, .int b, .int (c + 1), .int d]), .val (.int size), .val (.int w), .emp]) (by simp [q6, q7, q8]) ?_
    have q9 := fFdiv_pos (p := w) (q := 64) (by decide) (by decide)
    have q10 := fMod_pos (p := w / 64) (q := size) h0
    exact ExB_ret (r := .val (.int (w / 64 % size))) (c := .lst [.int a, .int b, .int (c + 1), .int d]) (ρ := [.val (.int size), .val (.int w), .emp]) (by simp [q9, q10]) (w / 64 % size, [.int a, .int b, .int (c + 1), .int d]) ⟨⟨Int.emod_nonneg _ (by omega), Int.emod_lt_of_pos _ h0⟩, a, b, c + 1, d, ha, rfl⟩ rfl rfl (by simp)
end Law
set_option Elab.async false
set_option linter.all false
set_option maxRecDepth 100000
set_option maxHeartbeats 2000000
namespace Law
open Dn PySem
open L2 (Key)
/-! ### the law's own same -/
theorem same_one_eq (x y : D) (hx : isTup x = false) (hy : isTup y = false) (px : plainD x = true) (py : plainD y = true) : d__law_same_one [.val x, .val y] = .ok (.val (.bool (same1 x y))) [.val x, .val y] := by
  refine mkF_ret (ds := [x, y]) rfl ?_
  cases x <;> first | (cases hx; done) | (cases px; done) | (cases y <;> first | (cases hy; done) | (cases py; done) | simp [b__law_same_one, same1, isNon, isBool, isInt, isStr])
def pl2 (p : D × D) : D := .list [p.1, p.2]
theorem law_same_eq (a b : D) (h : wt b ≤ 29000) (hp : plainD b = true) (hpa : plainD a = true) : d__law_same [.val a, .val b] = .ok (.val (.bool (sameD a b))) [.val a, .val b] := by
  refine mkF_ret (ds := [a, b]) rfl ?_
  unfold b__law_same
  show Ret 2 _ (sSeq _ _ [.val a, .val b, .emp, .emp, .emp, .emp, .emp, .emp])
  refine seq_nx (ρ1 := [.val a, .val b, .own (.lst [pl2 (a, b)]), .emp, .emp, .emp, .emp, .emp]) (by simp [pl2]) ?_
  have e1 := rg1_ok (n := 30000) (by decide) (by decide)
  refine seq_for (ρ1 := [.val a, .val b, .own (.lst [pl2 (a, b)]), .emp, .emp, .emp, .emp, .emp]) (ds := rgD 0 30000) (by simp [e1]) ?_
  refine for_rg (fun i ρ => ∃ (st : List (D × D)) (s3 s4 s5 s6 : Sl), sameD a b = okS st ∧ (∀ p ∈ st, plainD p.1 = true ∧ plainD p.2 = true) ∧ wtL (st.map (·.2)) + i ≤ 29000 ∧ isBor s3 = false ∧ isBor s4 = false ∧ isBor s5 = false ∧ isBor s6 = false ∧ ρ = [.val a, .val b, .own (.lst (st.map pl2)), s3, s4, s5, s6, .emp]) ?_ ?_ ?_
  · exact ⟨[(a, b)], .emp, .emp, .emp, .emp, by simp [okS], by simp; exact ⟨hpa, hp⟩, by simpa [wtL] using h, rfl, rfl, rfl, rfl, rfl⟩
  · rintro i hi ρ ⟨st, s3, s4, s5, s6, he, hpl, hw, n3, n4, n5, n6, rfl⟩
    refine ⟨_, by simp [gNmS_nb, n3]; rfl, ?_⟩
    rcases List.eq_nil_or_concat st with rfl | ⟨st', p, rfl⟩
    · rw [he]
      simp [okS]
    rw [List.concat_eq_append] at *
    obtain ⟨x, y⟩ := p
    have hw' : wtL (st'.map (·.2)) + wt y + i ≤ 29000 := by
      rw [List.map_append, wtL_app] at hw
      simp [wtL] at hw
      omega
    have he' : sameD a b = (okS st' && sameD x y) := by rw [he]; simp [okS]
    have hpx : plainD x = true := (hpl (x, y) (by simp)).1
    have hpy : plainD y = true := (hpl (x, y) (by simp)).2
    have hpl' : ∀ p ∈ st', plainD p.1 = true ∧ plainD p.2 = true := fun p hp => hpl p (by simp [hp])
    have hwy := wt_pos y
    have hls : st'.length ≤ wtL (st'.map (·.2)) := by
      have := wtL_len (st'.map (·.2))
      rwa [List.length_map] at this
    have done : sameD x y = false → sameD a b = false := fun q => by rw [he', q]; simp
    have elast : ((st' ++ [(x, y)]).map pl2) = st'.map pl2 ++ [.list [x, y]] := by rw [List.map_append]; rfl
    rw [elast]
    have hlS : (st'.map pl2).length ≤ 29000 := by rw [List.length_map]; omega
    obtain ⟨Z, hZ⟩ : ∃ Z, Z = st'.map pl2 := ⟨_, rfl⟩
    rw [← hZ] at hlS ⊢
    refine seq_nx (ρ1 := [.val a, .val b, .own (.lst (Z ++ [.list [x, y]])), .val (.int i), s4, s5, s6, .emp]) (by simp; omega) ?_
    refine seq_nx (ρ1 := [.val a, .val b, .own (.lst Z), .val (.int i), .val (.list [x, y]), s5, s6, .emp]) (by simp [putS_nb, n4]) ?_
    refine seq_nx (ρ1 := [.val a, .val b, .own (.lst Z), .val (.int i), .val (.list [x, y]), .val x, s6, .emp]) (by simp [putS_nb, n5]) ?_
    refine seq_nx (ρ1 := [.val a, .val b, .own (.lst Z), .val (.int i), .val (.list [x, y]), .val x, .val y, .emp]) (by simp [putS_nb, n6]) ?_
    cases hx : isTup x with
    | true =>
      cases hy : isTup y with
      | true =>
        cases x <;> first | (cases hx; done) | skip
        cases y <;> first | (cases hy; done) | skip
        rename_i xs ys
        refine if_yes' (by simp [hx, hy]) ?_
        by_cases hl : xs.length = ys.length
        · have hwt : wt (.tuple ys) = 1 + wtL ys := by simp [wt]
          have hyl := wtL_len ys
          have e1 := rg1_ok (n := (ys.length : Int)) (by omega) (by omega)
          have e2 : sameD (.tuple xs) (.tuple ys) = (xs.zip ys).all fun p => sameD p.1 p.2 := sameL_zip hl
          refine seq_nx (ρ1 := [.val a, .val b, .own (.lst Z), .val (.int i), .val (.list [.tuple xs, .tuple ys]), .val (.tuple xs), .val (.tuple ys), .emp]) (by simp [hl]) ?_
          rw [Int.toNat_natCast] at e1
          have e3 : eLc [7] (eRg1 (toV (eOp1 fLen (ePk 5)))) (gNm 7) (tTrue) (eOpN fLst (aCons (toV (eIxV 5 (toV (eVar 7)))) (aCons (toV (eIxV 6 (toV (eVar 7)))) (aNil)))) [.val a, .val b, .own (.lst Z), .val (.int i), .val (.list [.tuple xs, .tuple ys]), .val (.tuple xs), .val (.tuple ys), .emp] = .ok (.fresh (.lst ((List.range ys.length).map fun k => PyData.list [nth xs k .none, nth ys k .none]))) [.val a, .val b, .own (.lst Z), .val (.int i), .val (.list [.tuple xs, .tuple ys]), .val (.tuple xs), .val (.tuple ys), .emp] := by
            have er : rgD 0 ys.length = (List.range ys.length).map fun k => PyData.int (k : Nat) := by
              apply List.ext_getElem
              · simp [rgD_len]
              · intro i h1 h2
                rw [rgD_get h1]
                simp
            rw [er] at e1
            generalize PyData.list [.tuple xs, .tuple ys] = PP at *
            refine lc_tym (inj := fun k => .int (k : Nat)) (f := fun k => .list [nth xs k .none, nth ys k .none]) (by simp [hl, e1]; rfl) (by simp) rfl (fun k hk => ?_) (by simp; omega) rfl
            have hk := List.mem_range.mp hk
            have q3 := fIx_tuple (xs := xs) (p := (k : Int)) (by omega) (by omega)
            have q4 := fIx_tuple (xs := ys) (p := (k : Int)) (by omega) (by omega)
            rw [Int.toNat_natCast] at q3 q4
            exact ⟨[.val a, .val b, .own (.lst Z), .val (.int i), .val PP, .val (.tuple xs), .val (.tuple ys), .val (.int k)], .fresh (.lst [nth xs k .none, nth ys k .none]), [.val a, .val b, .own (.lst Z), .val (.int i), .val PP, .val (.tuple xs), .val (.tuple ys), .val (.int k)], by simp, by simp [q3, q4], rfl, by simp⟩
          have ez : (List.range ys.length).map (fun k => PyData.list [nth xs k .none, nth ys k .none]) = (xs.zip ys).map pl2 := by
            apply List.ext_getElem
            · simp; omega
            · intro k h1 h2
              have hk : k < ys.length := by simpa using h1
              simp [pl2, nth_lt hk, nth_lt (show k < xs.length by omega)]
          rw [ez] at e3
          have hzl : ((xs.zip ys).map pl2).length = ys.length := by rw [List.length_map, List.length_zip, hl, Nat.min_self]
          have hyb : ys.length ≤ 29000 := by omega
          have j1 : sameD a b = okS (st' ++ xs.zip ys) := by rw [he', e2]; simp [okS]
          have j2 : ∀ p ∈ st' ++ xs.zip ys, plainD p.1 = true ∧ plainD p.2 = true := by
            intro p hp
            rcases List.mem_append.mp hp with hp | hp
            · exact hpl' p hp
            · have hm := List.of_mem_zip (a := p.1) (b := p.2) hp
              have h1 : plainL xs = true := hpx
              have h2 : plainL ys = true := hpy
              rw [plainL_all, List.all_eq_true] at h1 h2
              exact ⟨h1 _ hm.1, h2 _ hm.2⟩
          have j3 : wtL ((st' ++ xs.zip ys).map (·.2)) + (i + 1) ≤ 29000 := by
            have : wtL ((xs.zip ys).map (·.2)) = wtL ys := by rw [List.map_snd_zip (by omega)]
            rw [List.map_append, wtL_app, this]
            omega
          have j4 : (st' ++ xs.zip ys).map pl2 = Z ++ (xs.zip ys).map pl2 := by rw [List.map_append, hZ]
          generalize hY : (xs.zip ys).map pl2 = Y at e3 hzl j4
          have hstep : sExt 2 (eLc [7] (eRg1 (toV (eOp1 fLen (ePk 5)))) (gNm 7) (tTrue) (eOpN fLst (aCons (toV (eIxV 5 (toV (eVar 7)))) (aCons (toV (eIxV 6 (toV (eVar 7)))) (aNil))))) [.val a, .val b, .own (.lst Z), .val (.int i), .val (.list [.tuple xs, .tuple ys]), .val (.tuple xs), .val (.tuple ys), .emp] = .nx [.val a, .val b, .own (.lst (Z ++ Y)), .val (.int i), .val (.list [.tuple xs, .tuple ys]), .val (.tuple xs), .val (.tuple ys), .emp] := by
            simp [e3]
            omega
          rw [hstep, FL_nx]
          exact ⟨st' ++ xs.zip ys, .val (.int i), .val (.list [.tuple xs, .tuple ys]), .val (.tuple xs), .val (.tuple ys), j1, j2, j3, rfl, rfl, rfl, rfl, by rw [j4]⟩
        · rw [done (by
            cases q : sameD (.tuple xs) (.tuple ys) with
            | false => rfl
            | true => exact absurd (sameL_len q) hl)]
          simp [show ¬ ((xs.length : Int) = ys.length) by omega]
      | false =>
        rw [done (by cases x <;> first | (cases hx; done) | (cases y <;> first | (cases hy; done) | simp [sameD]))]
        simp [hx, hy]
    | false =>
      cases hy : isTup y with
      | true =>
        rw [done (by cases y <;> first | (cases hy; done) | (cases x <;> first | (cases hx; done) | simp [sameD]))]
        simp [hx, hy]
      | false =>
        have e := same_one_eq x y hx hy hpx hpy
        have e2 := sameD_1 x y hx hy
        cases q : same1 x y with
        | false =>
          rw [q] at e
          rw [done (by rw [e2, q])]
          simp [hx, hy, e]
        | true =>
          rw [q] at e
          refine FL_of (ρ := [.val a, .val b, .own (.lst Z), .val (.int i), .val (.list [x, y]), .val x, .val y, .emp]) (by simp [hx, hy, e]) ⟨st', _, _, _, _, by rw [he', e2, q]; simp, hpl', by omega, rfl, rfl, rfl, rfl, by rw [hZ]⟩
  · rintro ρ ⟨st, s3, s4, s5, s6, he, hpl, hw, n3, n4, n5, n6, rfl⟩
    omega
end Law
set_option Elab.async false
set_option linter.all false
set_option maxRecDepth 100000
set_option maxHeartbeats 2000000
namespace Law
open Dn PySem
open L2 (Key)
/-! ### the names -/
theorem s_nil : ("" : Str) = Str.empty := by decide +kernel
theorem chars_join (vs : List Nat) (h : vs.length ≤ 16777216) : fJoin (.str "") (.list (vs.map fun c => .str ⟨#[c]⟩)) = some (.val (.str ⟨vs.toArray⟩)) := by
  have e : vs.map (fun c => PyData.str ⟨#[c]⟩) = (vs.map fun c => (⟨#[c]⟩ : Str)).map .str := by rw [List.map_map]; rfl
  rw [e, s_nil, fJoin_list]
  · congr 3
    apply ext_str
    rw [join0, List.map_map]
    show (vs.map fun c => [c]).flatten = vs
    clear e
    induction vs with
    | nil => rfl
    | cons c r ih => rw [List.map_cons, List.flatten_cons, ih (by simp at h; omega)]; rfl
  · rw [List.map_map]
    have : ((vs.map ((fun x : Str => x.length) ∘ fun c => (⟨#[c]⟩ : Str))).sum) = vs.length := by
      clear h e
      induction vs with
      | nil => rfl
      | cons c r ih => rw [List.map_cons, List.sum_cons, ih, List.length_cons]; show 1 + _ = _; omega
    rw [this]
    show vs.length + _ * 0 ≤ _
    omega
def mk (l : List Nat) : Str := ⟨l.toArray⟩
theorem mk_len (l : List Nat) : (mk l).length = l.length := by unfold mk; simp [Str.length]
theorem mk_cps (l : List Nat) : (mk l).cps.toList = l := id rfl
theorem mk_inj {l m : List Nat} (h : mk l = mk m) : l = m := by
  have := congrArg (fun z : Str => z.cps.toList) h
  exact this
theorem mk_add {l m : List Nat} (h : l.length + m.length ≤ 1000) : fAdd (.str (mk l)) (.str (mk m)) = some (.val (.str (mk (l ++ m)))) := by
  rw [fAdd_str (by rw [mk_len, mk_len]; omega)]
  have : mk l ++ mk m = mk (l ++ m) := ext_str (by rw [Str.cps_append, Array.toList_append]; rfl)
  rw [this]
theorem mk_cut {l : List Nat} {p : Int} (h0 : 0 ≤ p) (h : l.length ≤ 1000) : fSl (.str (mk l)) none (some p) = some (.val (.str (mk (l.take p.toNat)))) := by
  rw [fSl_str (by rw [mk_len]; omega)]
  congr 3
  unfold L2.cutS
  rw [mk_len, sIx_none, sIx_nn h0, mk_cps, List.drop_zero, Nat.sub_zero]
  unfold mk
  congr 2
  rcases Nat.lt_or_ge p.toNat l.length with c | c
  · rw [Nat.min_eq_left (by omega)]
  · rw [Nat.min_eq_right (by omega), List.take_of_length_le (Nat.le_refl _), List.take_of_length_le c]
theorem let_cps : (Str.ofString "abcdefghijklmnopqrstuvwxyz").cps.toList = [97,98,99,100,101,102,103,104,105,106,107,108,109,110,111,112,113,114,115,116,117,118,119,120,121,122] := by
  rw [str_lit]; decide +kernel
theorem let_nth : ∀ j : Nat, j < 26 → nth [97,98,99,100,101,102,103,104,105,106,107,108,109,110,111,112,113,114,115,116,117,118,119,120,121,122] j 0 = 97 + j := by decide
theorem len_of {v : Str} {l : List Nat} (h : v.cps.toList = l) : v.length = l.length := by rw [← h]; rfl
theorem let_ix {j : Int} (h0 : 0 ≤ j) (h1 : j < 26) : fIx (.str (Str.ofString "abcdefghijklmnopqrstuvwxyz")) (.int j) = some (.val (.str (mk [97 + j.toNat]))) := by
  have hl : Str.length (Str.ofString "abcdefghijklmnopqrstuvwxyz") = 26 := len_of let_cps
  rw [fIx_str h0 (by rw [hl]; omega) (by rw [hl]; decide), let_cps, let_nth _ (by omega)]
  rfl
theorem mk_drop {l : List Nat} {p : Int} (h0 : 0 ≤ p) (h : l.length ≤ 1000) : fSl (.str (mk l)) (some p) none = some (.val (.str (mk (l.drop p.toNat)))) := by
  rw [fSl_str (by rw [mk_len]; omega)]
  congr 3
  unfold L2.cutS
  rw [mk_len, sIx_none, sIx_nn h0, mk_cps]
  unfold mk
  congr 2
  rcases Nat.lt_or_ge p.toNat l.length with c | c
  · rw [Nat.min_eq_left (by omega), List.take_of_length_le (by rw [List.length_drop]; omega)]
  · rw [Nat.min_eq_right (by omega), Nat.sub_self, List.take_zero, List.drop_of_length_le c]
def SG : Str := Str.ofString "abcdefghijklmnopqrstuvwxyz" ++ Str.ofString "0123456789"
def sgL : List Nat := [97,98,99,100,101,102,103,104,105,106,107,108,109,110,111,112,113,114,115,116,117,118,119,120,121,122,48,49,50,51,52,53,54,55,56,57]
theorem sg_cps : SG.cps.toList = sgL := by
  unfold SG
  rw [Str.cps_append, Array.toList_append, str_lit, str_lit]
  decide +kernel
theorem sg_add : fAdd (.str (Str.ofString "abcdefghijklmnopqrstuvwxyz")) (.str (Str.ofString "0123456789")) = some (.val (.str SG)) := by
  have h1 : Str.length (Str.ofString "abcdefghijklmnopqrstuvwxyz") = 26 := len_of let_cps
  have h2 : Str.length (Str.ofString "0123456789") = 10 := len_of (l := [48,49,50,51,52,53,54,55,56,57]) (by rw [str_lit]; decide +kernel)
  rw [fAdd_str (by rw [h1, h2]; decide)]
  rfl
theorem sg_ok : ∀ j : Nat, j < 36 → okCh (nth sgL j 0) = true := by decide
theorem sg_ix {j : Int} (h0 : 0 ≤ j) (h1 : j < 36) : ∃ c, okCh c = true ∧ fIx (.str SG) (.int j) = some (.val (.str (mk [c]))) := by
  have hl : Str.length SG = 36 := len_of sg_cps
  refine ⟨_, sg_ok j.toNat (by omega), ?_⟩
  rw [fIx_str h0 (by rw [hl]; omega) (by rw [hl]; decide), sg_cps]
  rfl
theorem abc_mk : (Str.ofString "abcdefg") = mk [97,98,99,100,101,102,103] := by decide +kernel
def stepOk (s : Int) : Prop := s = 1 ∨ s = 3 ∨ s = 5 ∨ s = 7 ∨ s = 9 ∨ s = 11 ∨ s = 15 ∨ s = 17
theorem step_inj {s t : Int} (hs : stepOk s) {k k' : Nat} (h : k < 26) (h' : k' < 26) (e : (t + k * s) % 26 = (t + k' * s) % 26) : k = k' := by
  rcases hs with rfl | rfl | rfl | rfl | rfl | rfl | rfl | rfl <;> omega
theorem step_ix {w : Int} (h0 : 0 ≤ w) (h1 : w < 8) : ∃ M : Int, stepOk M ∧ fIx (.list [.int 1, .int 3, .int 5, .int 7, .int 9, .int 11, .int 15, .int 17]) (.int w) = some (.val (.int M)) := by
  have : w = 0 ∨ w = 1 ∨ w = 2 ∨ w = 3 ∨ w = 4 ∨ w = 5 ∨ w = 6 ∨ w = 7 := by omega
  unfold stepOk
  rcases this with rfl | rfl | rfl | rfl | rfl | rfl | rfl | rfl
  · exact ⟨1, by decide, by simp⟩
  · exact ⟨3, by decide, by simp⟩
  · exact ⟨5, by decide, by simp⟩
  · exact ⟨7, by decide, by simp⟩
  · exact ⟨9, by decide, by simp⟩
  · exact ⟨11, by decide, by simp⟩
  · exact ⟨15, by decide, by simp⟩
  · exact ⟨17, by decide, by simp⟩
/-- a stem: a letter first -/
def Stem (l : List Nat) : Prop := 1 ≤ l.length ∧ l.length ≤ 7 ∧ isLet (nth l 0 0) = true ∧ l.all okCh = true
def nmJ (mode : Int) (T : List Nat) (place m s : Nat) : List Nat :=
  if mode = 0 then [97 + s] else if mode = 1 then [97 + s] ++ T.take m else T.take place ++ [97 + s] ++ T.drop place
theorem let_of {s : Nat} (h : s < 26) : isLet (97 + s) = true := by unfold isLet; simp; omega
theorem nmJ_ok {mode : Int} {T : List Nat} {place m s : Nat} (hT : Stem T) (hs : s < 26) : isNm (nmJ mode T place m s) = true := by
  obtain ⟨t1, t2, t3, t4⟩ := hT
  have h1 := let_of hs
  have o1 : okCh (97 + s) = true := by unfold okCh; rw [h1]; rfl
  rw [List.all_eq_true] at t4
  unfold nmJ
  split
  · unfold isNm; simp [h1, o1]
  · split
    · unfold isNm
      simp [h1, o1]
      exact ⟨by omega, fun c hc => t4 c (List.mem_of_mem_take hc)⟩
    · have hall : (T.take place ++ [97 + s] ++ T.drop place).all okCh = true := by
        rw [List.all_eq_true]
        intro c hc
        rcases List.mem_append.mp hc with hc | hc
        · rcases List.mem_append.mp hc with hc | hc
          · exact t4 c (List.mem_of_mem_take hc)
          · simp at hc; rw [hc]; exact o1
        · exact t4 c (List.mem_of_mem_drop hc)
      have hlen : (T.take place ++ [97 + s] ++ T.drop place).length = T.length + 1 := by
        rw [List.length_append, List.length_append, List.length_take, List.length_drop]
        simp
        omega
      have h0 : isLet (nth (T.take place ++ [97 + s] ++ T.drop place) 0 0) = true := by
        cases place with
        | zero => simpa using h1
        | succ p =>
          cases T with
          | nil => simp at t1
          | cons a r => simpa using t3
      unfold isNm
      rw [hall, h0, hlen]
      simp
      omega
theorem nmJ_inj {mode : Int} {T : List Nat} {place m m' s s' : Nat} (e : nmJ mode T place m s = nmJ mode T place m' s') : s = s' := by
  unfold nmJ at e
  split at e
  · simp at e; exact e
  · split at e
    · simp at e; exact e.1
    · rw [List.append_assoc, List.append_assoc] at e
      have := List.append_cancel_left e
      simp at this
      exact this
end Law
set_option Elab.async false
set_option linter.all false
set_option maxRecDepth 100000
set_option maxHeartbeats 4000000
namespace Law
open Dn PySem
open L2 (Key)
def ABC : D := .str (Str.ofString "abcdefghijklmnopqrstuvwxyz")
theorem names_eq {j : List D} (hj : Jar j) (n : Int) (h0 : 0 ≤ n) (h1 : n ≤ 26) :
    ∃ x : List (List Nat) × List D, ((x.1.length = n.toNat ∧ (∀ z ∈ x.1, isNm z = true) ∧ x.1.Nodup) ∧ Jar x.2) ∧ d__law_names [.bor (.lst j), .val (.int n)] = .ok (.val (.list (x.1.map fun z => .str (mk z)))) [.bor (.lst x.2), .val (.int n)] := by
  refine mkF_exB (n := 2) (m := 12) (ds := [.int n]) (f := fun x : List (List Nat) × List D => .val (.list (x.1.map fun z => .str (mk z)))) (g := fun x => .lst x.2) rfl ?_
  show ExB 1 _ _ _ (b__law_names [.bor (.lst j), .val (.int n), .emp, .emp, .emp, .emp, .emp, .emp, .emp, .emp, .emp, .emp])
  unfold b__law_names
  have ea : (.str (Str.ofString "abcdefghijklmnopqrstuvwxyz") : D) = ABC := rfl
  have eSG := sg_add
  rw [ea] at eSG
  refine seq_nx (ρ1 := [.bor (.lst j), .val (.int n), .val ABC, .emp, .emp, .emp, .emp, .emp, .emp, .emp, .emp, .emp]) (by simp [ABC]) ?_
  refine seq_nx (ρ1 := [.bor (.lst j), .val (.int n), .val ABC, .val (.str SG), .emp, .emp, .emp, .emp, .emp, .emp, .emp, .emp]) (by simp [eSG]) ?_
  obtain ⟨⟨sh, j1⟩, ⟨bsh, hj1⟩, e1⟩ := draw_eq hj 26 (by decide) (by decide)
  dsimp only at bsh hj1 e1
  refine seq_nx (ρ1 := [.bor (.lst j1), .val (.int n), .val ABC, .val (.str SG), .val (.int sh), .emp, .emp, .emp, .emp, .emp, .emp, .emp]) (by simp [e1]) ?_
  obtain ⟨⟨si, j2⟩, ⟨bsi, hj2⟩, e2⟩ := draw_eq hj1 8 (by decide) (by decide)
  dsimp only at bsi hj2 e2
  obtain ⟨st, bst, iS⟩ := step_ix bsi.1 bsi.2
  refine seq_nx (ρ1 := [.bor (.lst j2), .val (.int n), .val ABC, .val (.str SG), .val (.int sh), .val (.int st), .emp, .emp, .emp, .emp, .emp, .emp]) (by simp [e2, iS]) ?_
  obtain ⟨⟨md, j3⟩, ⟨bmd, hj3⟩, e3⟩ := draw_eq hj2 3 (by decide) (by decide)
  dsimp only at bmd hj3 e3
  refine seq_nx (ρ1 := [.bor (.lst j3), .val (.int n), .val ABC, .val (.str SG), .val (.int sh), .val (.int st), .val (.int md), .emp, .emp, .emp, .emp, .emp]) (by simp [e3]) ?_
  obtain ⟨⟨l0, j4⟩, ⟨bl0, hj4⟩, e4⟩ := draw_eq hj3 26 (by decide) (by decide)
  dsimp only at bl0 hj4 e4
  have iL := let_ix bl0.1 bl0.2
  rw [ea] at iL
  refine seq_nx (ρ1 := [.bor (.lst j4), .val (.int n), .val ABC, .val (.str SG), .val (.int sh), .val (.int st), .val (.int md), .val (.str (mk [97 + l0.toNat])), .emp, .emp, .emp, .emp]) (by simp [e4, iL]) ?_
  obtain ⟨⟨ct, j5⟩, ⟨bct, hj5⟩, e5⟩ := draw_eq hj4 7 (by decide) (by decide)
  dsimp only at bct hj5 e5
  have er := rg1_ok (n := ct) (by omega) (by omega)
  refine seq_for (ρ1 := [.bor (.lst j5), .val (.int n), .val ABC, .val (.str SG), .val (.int sh), .val (.int st), .val (.int md), .val (.str (mk [97 + l0.toNat])), .emp, .emp, .emp, .emp]) (ds := rgD 0 ct.toNat) (by simp [e5, er]) ?_
  refine for_rg (fun i ρ => ∃ (T : List Nat) (j : List D) (s8 : Sl), Jar j ∧ T.length = 1 + i ∧ isLet (nth T 0 0) = true ∧ T.all okCh = true ∧ isBor s8 = false ∧ ρ = [.bor (.lst j), .val (.int n), .val ABC, .val (.str SG), .val (.int sh), .val (.int st), .val (.int md), .val (.str (mk T)), s8, .emp, .emp, .emp]) ⟨[97 + l0.toNat], j5, .emp, hj5, rfl, by simpa using let_of (s := l0.toNat) (by omega), by
    have := let_of (s := l0.toNat) (by omega)
    simp [okCh, this], rfl, rfl⟩ ?_ ?_
  · rintro i hi ρ ⟨T, j, s8, hj, hT, hT0, hTa, n8, rfl⟩
    obtain ⟨⟨cx, j'⟩, ⟨bcx, hj'⟩, e6⟩ := draw_eq hj 36 (by decide) (by decide)
    dsimp only at bcx hj' e6
    obtain ⟨c, hc, iC⟩ := sg_ix bcx.1 bcx.2
    have ad := mk_add (l := T) (m := [c]) (by simp; omega)
    refine ⟨_, by simp; exact gNmS_nb n8, ?_⟩
    refine FL_of (ρ := [.bor (.lst j'), .val (.int n), .val ABC, .val (.str SG), .val (.int sh), .val (.int st), .val (.int md), .val (.str (mk (T ++ [c]))), .val (.int i), .emp, .emp, .emp]) (by simp [e6, iC, ad]) ⟨T ++ [c], j', _, hj', by simp [hT]; omega, ?_, by rw [List.all_append, hTa]; simp [hc], rfl, rfl⟩
    cases T with
    | nil => exact absurd hT (by simp; omega)
    | cons a r => simpa using hT0
  · rintro ρ ⟨T, j, s8, hj, hT, hT0, hTa, n8, rfl⟩
    have hTl : T.length ≤ 7 := by omega
    obtain ⟨⟨pl, j6⟩, ⟨bpl, hj6⟩, e6⟩ := draw_eq hj ((T.length : Int) + 1) (by omega) (by omega)
    dsimp only at bpl hj6 e6
    have el : fLen (.str (mk T)) = some (.val (.int (T.length : Int))) := by rw [fLen_str (by rw [mk_len]; omega), mk_len]
    refine seq_nx (ρ1 := [.bor (.lst j6), .val (.int n), .val ABC, .val (.str SG), .val (.int sh), .val (.int st), .val (.int md), .val (.str (mk T)), s8, .val (.int pl), .emp, .emp]) (by simp [el, e6]) ?_
    have s1 : ∃ (U : List Nat) (p : Int), Stem U ∧ 0 ≤ p ∧ sIf (tAndD (tBoolD (eOp2 fEq (toV (eVar 6)) (toV (eC (.int 2))))) (tBoolD (eOp2 fEq (toV (eOp2 fMod (toV (eOp1 fInt (ePk 4))) (toV (eC (.int 3))))) (toV (eC (.int 0)))))) (sSeq (sAsg 7 (eSl (toV (eOp2 fAdd (toV (eVar 7)) (toV (eC (.str "abcdefg"))))) (oNone) (oSome (toV (eC (.int 7))))))
        (sAsg 9 (eC (.int 7)))) (sNil) [.bor (.lst j6), .val (.int n), .val ABC, .val (.str SG), .val (.int sh), .val (.int st), .val (.int md), .val (.str (mk T)), s8, .val (.int pl), .emp, .emp] = .nx [.bor (.lst j6), .val (.int n), .val ABC, .val (.str SG), .val (.int sh), .val (.int st), .val (.int md), .val (.str (mk U)), s8, .val (.int p), .emp, .emp] := by
      have m3 := fMod_pos (p := sh) (q := 3) (by decide)
      by_cases c1 : md = 2
      · by_cases c2 : sh % 3 = 0
        · have ad := mk_add (l := T) (m := [97,98,99,100,101,102,103]) (by simp; omega)
          rw [← abc_mk] at ad
          have ct := mk_cut (l := T ++ [97,98,99,100,101,102,103]) (p := 7) (by decide) (by simp; omega)
          refine ⟨(T ++ [97,98,99,100,101,102,103]).take 7, 7, ⟨by simp [List.length_take], by simp [List.length_take], ?_, ?_⟩, by decide, ?_⟩
          · cases T with
            | nil => exact absurd hT (by simp; omega)
            | cons a r => simpa using hT0
          · rw [List.all_eq_true]
            intro c hc
            have hc := List.mem_of_mem_take hc
            rw [List.all_eq_true] at hTa
            rcases List.mem_append.mp hc with hc | hc
            · exact hTa c hc
            · have : ∀ c ∈ [97,98,99,100,101,102,103], okCh c = true := by decide
              exact this c hc
          · have ct' : fSl (.str (mk (T ++ [97,98,99,100,101,102,103]))) none (some 7) = some (.val (.str (mk ((T ++ [97,98,99,100,101,102,103]).take 7)))) := ct
            generalize T ++ [97,98,99,100,101,102,103] = TT at *
            simp [c1, m3, c2, ad, ct']
        · exact ⟨T, pl, ⟨by omega, hTl, hT0, hTa⟩, bpl.1, by simp [c1, m3, c2]⟩
      · exact ⟨T, pl, ⟨by omega, hTl, hT0, hTa⟩, bpl.1, by simp [c1]⟩
    obtain ⟨U, p, sU, p0, s1⟩ := s1
    refine seq_nx s1 ?_
    clear s1
    refine seq_nx (ρ1 := [.bor (.lst j6), .val (.int n), .val ABC, .val (.str SG), .val (.int sh), .val (.int st), .val (.int md), .val (.str (mk U)), s8, .val (.int p), .own (.lst []), .emp]) (by simp) ?_
    have er := rg1_ok (n := n) (by omega) (by omega)
    refine seq_for (ρ1 := [.bor (.lst j6), .val (.int n), .val ABC, .val (.str SG), .val (.int sh), .val (.int st), .val (.int md), .val (.str (mk U)), s8, .val (.int p), .own (.lst []), .emp]) (ds := rgD 0 n.toNat) (by simp [er]) ?_
    refine for_rg (fun i ρ => ∃ (m : Nat → Nat) (s8 s11 : Sl), isBor s8 = false ∧ isBor s11 = false ∧ ρ = [.bor (.lst j6), .val (.int n), .val ABC, .val (.str SG), .val (.int sh), .val (.int st), .val (.int md), .val (.str (mk U)), s8, .val (.int p), .own (.lst (((List.range i).map fun k => nmJ md U p.toNat (m k) ((sh + k * st) % 26).toNat).map fun z => .str (mk z))), s11]) ⟨fun _ => 0, s8, .emp, n8, rfl, rfl⟩ ?_ ?_
    · rintro i hi ρ ⟨m, s8, s11, n8, n11, rfl⟩
      have bs : -1 < st ∧ st < 18 := by unfold stepOk at bst; omega
      have q1 := fMul_l (p := (i : Int)) (q := st) (by omega) (by omega)
      have q2 := fMod_pos (p := sh + i * st) (q := 26) (by decide)
      have ba : 0 ≤ (sh + i * st) % 26 ∧ (sh + i * st) % 26 < 26 := ⟨Int.emod_nonneg _ (by decide), Int.emod_lt_of_pos _ (by decide)⟩
      obtain ⟨a, ha⟩ : ∃ a, a = (sh + i * st) % 26 := ⟨_, rfl⟩
      rw [← ha] at q2 ba
      have q4 := let_ix (j := a) ba.1 ba.2
      rw [ea] at q4
      have q5 := fMul_l (p := (i : Int)) (q := 5) (by omega) (by omega)
      have q6 := fMod_pos (p := (i : Int) * 5 + sh) (q := 8) (by decide)
      have b6 : 0 ≤ ((i : Int) * 5 + sh) % 8 := Int.emod_nonneg _ (by decide)
      have hUl : U.length ≤ 7 := sU.2.1
      have c1 := mk_cut (l := U) (p := ((i : Int) * 5 + sh) % 8) b6 (by omega)
      have c2 := mk_cut (l := U) (p := p) p0 (by omega)
      have c3 := mk_drop (l := U) (p := p) p0 (by omega)
      have a1 := mk_add (l := [97 + a.toNat]) (m := U.take (((i : Int) * 5 + sh) % 8).toNat) (by simp; omega)
      have a2 := mk_add (l := U.take p.toNat) (m := [97 + a.toNat]) (by simp; omega)
      have a3 := mk_add (l := U.take p.toNat ++ [97 + a.toNat]) (m := U.drop p.toNat) (by simp; omega)
      have stepr : ∀ (z : List Nat) (m' : Nat), nmJ md U p.toNat m' a.toNat = z → ∃ mm : Nat → Nat, ((List.range (i + 1)).map fun k => nmJ md U p.toNat (mm k) ((sh + k * st) % 26).toNat).map (fun z => PyData.str (mk z)) = ((List.range i).map fun k => nmJ md U p.toNat (m k) ((sh + k * st) % 26).toNat).map (fun z => PyData.str (mk z)) ++ [.str (mk z)] := by
        intro z m' hz
        refine ⟨fun k => if k < i then m k else m', ?_⟩
        rw [List.range_succ, List.map_append, List.map_append]
        congr 1
        · congr 1
          apply List.map_congr_left
          intro k hk
          dsimp only
          rw [if_pos (List.mem_range.mp hk)]
        · simp [← ha, hz]
      have hlen : (((List.range i).map fun k => nmJ md U p.toNat (m k) ((sh + k * st) % 26).toNat).map fun z => PyData.str (mk z)).length < 16777216 := by simp; omega
      generalize ((List.range i).map fun k => nmJ md U p.toNat (m k) ((sh + k * st) % 26).toNat).map (fun z => PyData.str (mk z)) = Z at *
      refine ⟨[.bor (.lst j6), .val (.int n), .val ABC, .val (.str SG), .val (.int sh), .val (.int st), .val (.int md), .val (.str (mk U)), .val (.int i), .val (.int p), .own (.lst Z), s11], by simp; rw [gNmS_nb n8]; simp, ?_⟩
      refine seq_nx (ρ1 := [.bor (.lst j6), .val (.int n), .val ABC, .val (.str SG), .val (.int sh), .val (.int st), .val (.int md), .val (.str (mk U)), .val (.int i), .val (.int p), .own (.lst Z), .val (.str (mk [97 + a.toNat]))]) (by simp [q1, q2, q4, putS_nb, n11]) ?_
      have w3 : md = 0 ∨ md = 1 ∨ md = 2 := by omega
      have fin : ∀ z : List Nat, (∃ m', nmJ md U p.toNat m' a.toNat = z) → (∃ (m : Nat → Nat) (s8 s11 : Sl), isBor s8 = false ∧ isBor s11 = false ∧ ([.bor (.lst j6), .val (.int n), .val ABC, .val (.str SG), .val (.int sh), .val (.int st), .val (.int md), .val (.str (mk U)), .val (.int i), .val (.int p), .own (.lst (Z ++ [.str (mk z)])), .val (.str (mk [97 + a.toNat]))] : Dn.Env) = [.bor (.lst j6), .val (.int n), .val ABC, .val (.str SG), .val (.int sh), .val (.int st), .val (.int md), .val (.str (mk U)), s8, .val (.int p), .own (.lst (((List.range (i + 1)).map fun k => nmJ md U p.toNat (m k) ((sh + k * st) % 26).toNat).map fun z => .str (mk z))), s11]) := by
        rintro z ⟨m', hz⟩
        obtain ⟨mm, em⟩ := stepr z m' hz
        exact ⟨mm, _, _, rfl, rfl, by rw [em]⟩
      rcases w3 with rfl | rfl | rfl
      · exact FL_of (ρ := [.bor (.lst j6), .val (.int n), .val ABC, .val (.str SG), .val (.int sh), .val (.int st), .val (.int 0), .val (.str (mk U)), .val (.int i), .val (.int p), .own (.lst (Z ++ [.str (mk [97 + a.toNat])])), .val (.str (mk [97 + a.toNat]))]) (by simp [hlen]) (fin _ ⟨0, by simp [nmJ]⟩)
      · exact FL_of (ρ := [.bor (.lst j6), .val (.int n), .val ABC, .val (.str SG), .val (.int sh), .val (.int st), .val (.int 1), .val (.str (mk U)), .val (.int i), .val (.int p), .own (.lst (Z ++ [.str (mk ([97 + a.toNat] ++ U.take (((i : Int) * 5 + sh) % 8).toNat))])), .val (.str (mk [97 + a.toNat]))]) (by simp at a1; simp [q5, q6, c1, a1, hlen]) (fin _ ⟨(((i : Int) * 5 + sh) % 8).toNat, by simp [nmJ]⟩)
      · exact FL_of (ρ := [.bor (.lst j6), .val (.int n), .val ABC, .val (.str SG), .val (.int sh), .val (.int st), .val (.int 2), .val (.str (mk U)), .val (.int i), .val (.int p), .own (.lst (Z ++ [.str (mk (U.take p.toNat ++ [97 + a.toNat] ++ U.drop p.toNat))])), .val (.str (mk [97 + a.toNat]))]) (by simp at a2 a3; simp [c2, c3, a2, a3, hlen]) (fin _ ⟨0, by simp [nmJ]⟩)
    · rintro ρ ⟨m, s8, s11, n8, n11, rfl⟩
      refine ExB_ret (r := .val (.list (((List.range n.toNat).map fun k => nmJ md U p.toNat (m k) ((sh + k * st) % 26).toNat).map fun z => .str (mk z)))) (c := .lst j6) (ρ := [.val (.int n), .val ABC, .val (.str SG), .val (.int sh), .val (.int st), .val (.int md), .val (.str (mk U)), s8, .val (.int p), .val (.list (((List.range n.toNat).map fun k => nmJ md U p.toNat (m k) ((sh + k * st) % 26).toNat).map fun z => .str (mk z))), s11]) ?_ ((List.range n.toNat).map fun k => nmJ md U p.toNat (m k) ((sh + k * st) % 26).toNat, j6) ⟨⟨by simp, ?_, ?_⟩, hj6⟩ rfl rfl (by simp)
      · generalize ((List.range n.toNat).map fun k => nmJ md U p.toNat (m k) ((sh + k * st) % 26).toNat).map (fun z => PyData.str (mk z)) = Z
        simp
      · intro z hz
        obtain ⟨k, hk, rfl⟩ := List.mem_map.mp hz
        exact nmJ_ok sU (by omega)
      · show List.Nodup _
        rw [List.nodup_iff_pairwise_ne, List.pairwise_map]
        refine (List.nodup_range (n := n.toNat)).imp_of_mem ?_
        intro k k' hk hk' hne e
        have hk := List.mem_range.mp hk
        have hk' := List.mem_range.mp hk'
        refine hne (step_inj (t := sh) bst (by omega) (by omega) ?_)
        have := nmJ_inj e
        omega
end Law
set_option Elab.async false
set_option linter.all false
set_option maxRecDepth 100000
set_option maxHeartbeats 2000000
namespace Law
open Dn PySem
open L2 (Key)
/-! ### sums by owner -/
abbrev Pr := List Nat × Int
def pr2 (z : List Nat) (i : Int) : D := .tuple [.str (mk z), .int i]
def pt (P : List Pr) : D := .tuple (P.map fun p => pr2 p.1 p.2)
def tt (P : List Pr) (o : List Nat) : Int := ((P.filter fun p => decide (p.1 = o)).map (·.2)).sum
def leN (a b : List Nat) : Bool := decide (a ≤ b)
def nms (P : List Pr) : List (List Nat) := P.map (·.1)
def srt (K : List (List Nat)) : List (List Nat) := K.mergeSort leN
def SU (P : List Pr) : List Pr := (srt (nms P).eraseDups).map fun o => (o, tt P o)
theorem tt_app (P Q : List Pr) (o : List Nat) : tt (P ++ Q) o = tt P o + tt Q o := by
  unfold tt
  rw [List.filter_append, List.map_append, List.sum_append]
theorem tt_one (o o' : List Nat) (x : Int) : tt [(o, x)] o' = if o = o' then x else 0 := by
  unfold tt
  by_cases e : o = o' <;> simp [e]
theorem tt_out {P : List Pr} {o : List Nat} (h : o ∉ nms P) : tt P o = 0 := by
  unfold tt
  rw [List.filter_eq_nil_iff.mpr]
  · rfl
  · intro p hp e
    exact h (List.mem_map.mpr ⟨p, hp, of_decide_eq_true e⟩)
theorem leN_trans (a b c : List Nat) (h1 : leN a b = true) (h2 : leN b c = true) : leN a c = true := decide_eq_true (List.le_trans (of_decide_eq_true h1) (of_decide_eq_true h2))
theorem leN_tot (a b : List Nat) : (leN a b || leN b a) = true := by
  rw [Bool.or_eq_true]
  rcases List.le_total a b with h | h
  · exact .inl (decide_eq_true h)
  · exact .inr (decide_eq_true h)
theorem leN_anti (a b : List Nat) (h1 : leN a b = true) (h2 : leN b a = true) : a = b := List.le_antisymm (of_decide_eq_true h1) (of_decide_eq_true h2)
theorem srt_perm {K K' : List (List Nat)} (h : K.Perm K') : srt K = srt K' := by
  refine List.Perm.eq_of_pairwise (le := fun a b => leN a b = true) (fun a b _ _ h1 h2 => leN_anti a b h1 h2) (List.pairwise_mergeSort leN_trans leN_tot K) (List.pairwise_mergeSort leN_trans leN_tot K') ?_
  exact (List.mergeSort_perm K leN).trans (h.trans (List.mergeSort_perm K' leN).symm)
theorem srt_mem {K : List (List Nat)} {o : List Nat} : o ∈ srt K ↔ o ∈ K := (List.mergeSort_perm K leN).mem_iff
theorem srt_nodup {K : List (List Nat)} (h : K.Nodup) : (srt K).Nodup := (List.mergeSort_perm K leN).nodup_iff.mpr h
theorem srt_len (K : List (List Nat)) : (srt K).length = K.length := (List.mergeSort_perm K leN).length_eq
theorem er_nodup : ∀ (n : Nat) (L : List (List Nat)), L.length ≤ n → L.eraseDups.Nodup
  | _, [], _ => by simp
  | 0, _ :: _, h => by simp at h
  | n + 1, a :: L, h => by
    rw [List.eraseDups_cons]
    refine List.nodup_cons.mpr ⟨fun q => ?_, er_nodup n _ (by have := List.length_filter_le (fun b => !b == a) L; simp at h; omega)⟩
    have := List.mem_eraseDups.mp q
    simp at this
theorem eraseDups_nodup (L : List (List Nat)) : L.eraseDups.Nodup := er_nodup L.length L (Nat.le_refl _)
/-- any row of the names, each once, will do -/
theorem SU_of {P : List Pr} {K : List (List Nat)} (nd : K.Nodup) (hm : ∀ o, o ∈ K ↔ o ∈ nms P) : (srt K).map (fun o => (o, tt P o)) = SU P := by
  unfold SU
  rw [srt_perm ((List.perm_ext_iff_of_nodup nd (eraseDups_nodup _)).mpr fun o => by rw [hm, List.mem_eraseDups])]
theorem nms_SU (P : List Pr) (o : List Nat) : o ∈ nms (SU P) ↔ o ∈ nms P := by
  unfold SU
  have : nms ((srt (nms P).eraseDups).map fun o => (o, tt P o)) = srt (nms P).eraseDups := by
    show ((srt (nms P).eraseDups).map _).map _ = _
    rw [List.map_map]
    exact List.map_id' _
  rw [this, srt_mem, List.mem_eraseDups]
theorem nmsSU (P : List Pr) : nms (SU P) = srt (nms P).eraseDups := by
  unfold SU
  show ((srt (nms P).eraseDups).map _).map _ = _
  rw [List.map_map]
  exact List.map_id' _
theorem SU_nodup (P : List Pr) : (nms (SU P)).Nodup := by rw [nmsSU]; exact srt_nodup (eraseDups_nodup _)
theorem tt_nodup {P : List Pr} (h : (nms P).Nodup) {p : Pr} (hp : p ∈ P) : tt P p.1 = p.2 := by
  obtain ⟨A, B, rfl⟩ := List.append_of_mem hp
  have hA : p.1 ∉ nms A ∧ p.1 ∉ nms B := by
    unfold nms at h
    rw [List.map_append, List.map_cons, List.nodup_append] at h
    exact ⟨fun q => h.2.2 _ q _ (List.mem_cons_self ..) rfl, fun q => (List.nodup_cons.mp h.2.1).1 q⟩
  rw [show A ++ p :: B = A ++ ([p] ++ B) from rfl, tt_app, tt_app, tt_out hA.1, tt_out hA.2]
  obtain ⟨o, x⟩ := p
  rw [tt_one, if_pos rfl]
  omega
theorem tt_SU (P : List Pr) (o : List Nat) : tt (SU P) o = tt P o := by
  by_cases h : o ∈ nms P
  · have : (o, tt P o) ∈ SU P := List.mem_map.mpr ⟨o, srt_mem.mpr (List.mem_eraseDups.mpr h), rfl⟩
    exact tt_nodup (SU_nodup P) this
  · rw [tt_out h, tt_out (fun q => h ((nms_SU P o).mp q))]
theorem SU_congr {P Q : List Pr} (h1 : ∀ o, o ∈ nms P ↔ o ∈ nms Q) (h2 : ∀ o, tt P o = tt Q o) : SU P = SU Q := by
  have := SU_of (P := Q) (K := (nms P).eraseDups) (eraseDups_nodup _) (fun o => by rw [List.mem_eraseDups, h1])
  rw [← this]
  unfold SU
  congr 1
  funext o
  rw [h2]
theorem nms_app (P Q : List Pr) (o : List Nat) : o ∈ nms (P ++ Q) ↔ o ∈ nms P ∨ o ∈ nms Q := by unfold nms; rw [List.map_append, List.mem_append]
/-! ### the dict of the sums -/
def kvf (P : List Pr) (o : List Nat) : Key × D := (.inr (mk o), .int (tt P o))
theorem kv_eq {o o' : List Nat} : (Sum.inr (mk o) : Key) = .inr (mk o') ↔ o = o' := ⟨fun h => mk_inj (Sum.inr.inj h), fun h => by rw [h]⟩
theorem look_kv (P : List Pr) (o : List Nat) : ∀ K : List (List Nat), lookC (K.map (kvf P)) (.inr (mk o)) = if o ∈ K then some (.int (tt P o)) else none
  | [] => rfl
  | a :: K => by
    have ih := look_kv P o K
    unfold lookC at ih ⊢
    rw [List.map_cons, List.find?_cons]
    by_cases e : a = o
    · subst e
      simp [kvf]
    · have e' : ¬ o = a := fun z => e z.symm
      have : decide ((kvf P a).1 = (.inr (mk o) : Key)) = false := decide_eq_false fun z => e (kv_eq.mp z)
      rw [this]
      simp only [List.mem_cons, e', false_or]
      exact ih
theorem any_kv (P : List Pr) (o : List Nat) (K : List (List Nat)) : ((K.map (kvf P)).any fun kv => decide (kv.1 = (.inr (mk o) : Key))) = decide (o ∈ K) := by
  rw [List.any_map, Bool.eq_iff_iff, List.any_eq_true, decide_eq_true_iff]
  constructor
  · rintro ⟨a, ha, e⟩
    have e : (Sum.inr (mk a) : Key) = .inr (mk o) := of_decide_eq_true e
    rw [← kv_eq.mp e]
    exact ha
  · intro h
    exact ⟨o, h, decide_eq_true rfl⟩
theorem get_kv (P : List Pr) (o : List Nat) {K : List (List Nat)} (hm : ∀ o, o ∈ K ↔ o ∈ nms P) : (lookC (K.map (kvf P)) (.inr (mk o))).getD (.int 0) = .int (tt P o) := by
  rw [look_kv]
  by_cases h : o ∈ K
  · rw [if_pos h]; rfl
  · rw [if_neg h, tt_out (fun q => h ((hm o).mpr q))]; rfl
def addK (K : List (List Nat)) (o : List Nat) : List (List Nat) := if o ∈ K then K else K ++ [o]
theorem put_kv (P : List Pr) (o : List Nat) (x : Int) {K : List (List Nat)} (hm : ∀ o, o ∈ K ↔ o ∈ nms P) : putD (K.map (kvf P)) (.inr (mk o)) (.int (tt P o + x)) = (addK K o).map (kvf (P ++ [(o, x)])) := by
  unfold putD addK
  rw [any_kv]
  by_cases h : o ∈ K
  · rw [if_pos (decide_eq_true h), if_pos h, List.map_map]
    apply List.map_congr_left
    intro a ha
    show (if (Sum.inr (mk a) : Key) = .inr (mk o) then ((Sum.inr (mk a) : Key), PyData.int (tt P o + x)) else kvf P a) = _
    by_cases e : a = o
    · subst e
      rw [if_pos rfl]
      unfold kvf
      rw [tt_app, tt_one, if_pos rfl]
    · rw [if_neg (fun z => e (kv_eq.mp z))]
      unfold kvf
      rw [tt_app, tt_one, if_neg (fun z => e z.symm), Int.add_zero]
  · rw [if_neg (by simpa using h), if_neg h, List.map_append]
    congr 1
    · apply List.map_congr_left
      intro a ha
      have e : ¬ o = a := fun z => h (z ▸ ha)
      unfold kvf
      rw [tt_app, tt_one, if_neg e, Int.add_zero]
    · simp only [List.map_cons, List.map_nil]
      unfold kvf
      rw [tt_app, tt_one, if_pos rfl]
theorem addK_nodup {K : List (List Nat)} {o : List Nat} (h : K.Nodup) : (addK K o).Nodup := by
  unfold addK
  split
  · exact h
  · rename_i q
    rw [List.nodup_append]
    exact ⟨h, by simp, fun a ha b hb e => q (by simp at hb; rw [← hb, ← e]; exact ha)⟩
theorem addK_mem {K : List (List Nat)} {o : List Nat} {P : List Pr} {x : Int} (hm : ∀ o, o ∈ K ↔ o ∈ nms P) (o' : List Nat) : o' ∈ addK K o ↔ o' ∈ nms (P ++ [(o, x)]) := by
  rw [nms_app]
  unfold addK
  split
  · rename_i q
    rw [hm]
    constructor
    · exact .inl
    · rintro (h | h)
      · exact h
      · simp [nms] at h
        rw [h]
        exact (hm o).mp q
  · rw [List.mem_append, hm]
    simp [nms]
theorem addK_len (K : List (List Nat)) (o : List Nat) : (addK K o).length ≤ K.length + 1 := by
  unfold addK
  split
  · omega
  · simp
theorem keys_kv (P : List Pr) : ∀ K : List (List Nat), strKeys ((K.map (kvf P)).map fun p => (kd p.1, p.2)) = some (K.map mk)
  | [] => rfl
  | a :: K => by
    have ih := keys_kv P K
    show (strKeys ((K.map (kvf P)).map fun p => (kd p.1, p.2))).map _ = _
    rw [ih]
    rfl
theorem sort_kv (K : List (List Nat)) : (K.map mk).mergeSort leS = (srt K).map mk := (List.map_mergeSort (r := leN) (s := leS) (f := mk) (fun a _ b _ => rfl)).symm
theorem sorted_kv (P : List Pr) (K : List (List Nat)) (h : K.length < 64) : fSortedD (.dict ((K.map (kvf P)).map fun p => (kd p.1, p.2))) = some (.fresh (.lst ((srt K).map fun o => .str (mk o)))) := by
  show (strKeys _).bind _ = _
  rw [keys_kv]
  show (if (K.map mk).length < 64 then some (R.fresh (.lst (((K.map mk).mergeSort leS).map .str))) else none) = _
  rw [if_pos (by rw [List.length_map]; exact h), sort_kv, List.map_map]
  rfl
theorem er_len : ∀ (n : Nat) (L : List (List Nat)), L.length ≤ n → L.eraseDups.length ≤ L.length
  | _, [], _ => by simp
  | 0, _ :: _, h => by simp at h
  | n + 1, a :: L, h => by
    rw [List.eraseDups_cons]
    have h1 := List.length_filter_le (fun b => !b == a) L
    have h2 := er_len n (L.filter fun b => !b == a) (by simp at h; omega)
    simp only [List.length_cons]
    omega
theorem dl {P : List Pr} (h : P.length ≤ 63) : (nms P).eraseDups.length ≤ 63 := Nat.le_trans (er_len _ _ (Nat.le_refl _)) (by simpa [nms] using h)
theorem pt_iter (P : List Pr) : iterD (pt P) = some (P.map fun p => pr2 p.1 p.2) := id rfl
end Law
set_option Elab.async false
set_option linter.all false
set_option maxRecDepth 100000
set_option maxHeartbeats 2000000
namespace Law
open Dn PySem
open L2 (Key)
/-! ### letters counted -/
abbrev Wd := List (List Nat)
def nmD (z : List Nat) : D := .str (mk z)
def wdD (w : Wd) : D := .tuple (w.map nmD)
def ones (F : List (List Nat)) : List Pr := F.map fun o => (o, 1)
def cnt (W : List Wd) : List Pr := SU (ones W.flatten)
theorem ones_app (F G : List (List Nat)) : ones (F ++ G) = ones F ++ ones G := List.map_append
theorem nms_ones (F : List (List Nat)) : nms (ones F) = F := by
  unfold nms ones
  rw [List.map_map]
  exact List.map_id' _
/-- what the dict holds -/
def CI (F : List (List Nat)) (K : List (List Nat)) : Prop := K.Nodup ∧ (∀ o, o ∈ K ↔ o ∈ F) ∧ K.length ≤ F.length
theorem CI.step {F K : List (List Nat)} (h : CI F K) (o : List Nat) : CI (F ++ [o]) (addK K o) := by
  obtain ⟨h1, h2, h3⟩ := h
  refine ⟨addK_nodup h1, fun q => ?_, by have := addK_len K o; simp; omega⟩
  have := addK_mem (P := ones F) (o := o) (x := 1) (K := K) (fun q => by rw [h2, nms_ones]) q
  rw [this]
  have e : ones F ++ [(o, 1)] = ones (F ++ [o]) := by rw [ones_app]; rfl
  rw [e, nms_ones]
def kvo (F K : List (List Nat)) : List (Key × D) := K.map (kvf (ones F))
theorem kvo_step {F K : List (List Nat)} (h : CI F K) (o : List Nat) : putD (kvo F K) (.inr (mk o)) (.int (tt (ones F) o + 1)) = kvo (F ++ [o]) (addK K o) ∧ (lookC (kvo F K) (.inr (mk o))).getD (.int 0) = .int (tt (ones F) o) := by
  have hm : ∀ o, o ∈ K ↔ o ∈ nms (ones F) := fun q => by rw [h.2.1, nms_ones]
  refine ⟨?_, get_kv _ _ hm⟩
  have e : ones (F ++ [o]) = ones F ++ [(o, 1)] := by rw [ones_app]; rfl
  unfold kvo
  rw [e]
  exact put_kv (ones F) o 1 hm
theorem dist_len {F K : List (List Nat)} (h : CI F K) {N : List (List Nat)} (hN : ∀ o ∈ F, o ∈ N) : K.length ≤ N.length := List.Nodup.length_le_of_subset h.1 fun o ho => hN o ((h.2.1 o).mp ho)
/-- at the end: the sorted rows -/
theorem end_keys {F K : List (List Nat)} (h : CI F K) (h64 : K.length < 64) : fSortedD (.dict ((kvo F K).map fun p => (kd p.1, p.2))) = some (.fresh (.lst ((Law.srt K).map nmD))) ∧ (∀ o ∈ K, lookC (kvo F K) (.inr (mk o)) = some (.int (tt (ones F) o))) ∧ pt (SU (ones F)) = .tuple ((Law.srt K).map fun o => .tuple [nmD o, .int (tt (ones F) o)]) := by
  refine ⟨sorted_kv _ K h64, fun o ho => by unfold kvo; rw [look_kv, if_pos ho], ?_⟩
  rw [← SU_of (P := ones F) h.1 (fun q => by rw [h.2.1, nms_ones])]
  unfold pt
  rw [List.map_map]
  rfl
theorem pair_lt {a b : List Nat} {x y : Int} (h : a ≠ b) : PySem.W.dataLt (.tuple [nmD a, .int x]) (.tuple [nmD b, .int y]) = decide (a < b) := by
  unfold nmD
  rw [PySem.W.dataLt_pair (by rfl) (by rfl)]
  have : PyData.eqv (.str (mk a)) (.str (mk b)) = false := by
    cases e : PyData.eqv (.str (mk a)) (.str (mk b)) with
    | false => rfl
    | true =>
      have : mk a = mk b := by simpa [PyData.eqv] using e
      exact absurd (mk_inj this) h
  rw [this, if_neg (by decide), PySem.W.dataLt_str]
  rfl
theorem nm_strOk {o : List Nat} (h : isNm o = true) : PyData.strOk (mk o) = true := by
  unfold isNm at h
  simp only [Bool.and_eq_true] at h
  have h2 := h.2
  rw [List.all_eq_true] at h2
  unfold PyData.strOk mk
  rw [← Array.all_toList, List.all_eq_true]
  intro c hc
  have := h2 c hc
  unfold okCh isLet isDig at this
  simp at this
  exact decide_eq_true (by omega)
theorem end_items {F K : List (List Nat)} (h : CI F K) (hv : ∀ o ∈ F, isNm o = true) (h64 : K.length ≤ 1000) : fSortIt (.dict ((kvo F K).map fun p => (kd p.1, p.2))) = some (.fresh (.lst ((SU (ones F)).map fun p => pr2 p.1 p.2))) := by
  have eit : itL ((kvo F K).map fun p => (kd p.1, p.2)) = K.map fun o => .tuple [nmD o, .int (tt (ones F) o)] := by
    unfold itL kvo
    rw [List.map_map, List.map_map]
    rfl
  have hok : sortOk (K.map fun o => PyData.tuple [nmD o, .int (tt (ones F) o)]) = true := by
    unfold sortOk
    simp only [Bool.and_eq_true, List.all_eq_true, Bool.or_eq_true, List.mem_map]
    refine ⟨?_, .inl ?_, ?_⟩
    · rintro _ ⟨p, _, rfl⟩ _ ⟨q, _, rfl⟩
      simp [nmD, PySem.W.alike, PySem.W.alikeAll]
    · rintro _ ⟨p, _, rfl⟩
      rfl
    · rintro _ ⟨p, hp, rfl⟩
      have so := nm_strOk (hv p ((h.2.1 p).mp hp))
      refine ⟨by simp [nmD, PyData.canLay0, PyData.canLayAll0, so], decide_eq_true (by simp [nmD, PyData.depth, PyData.depthAll])⟩
  show (if sortOk (itL _) = true ∧ (itL _).length ≤ 16777216 then some (R.fresh (.lst (Dn.srt (itL _)))) else none) = _
  rw [eit, if_pos ⟨hok, by rw [List.length_map]; omega⟩]
  congr 3
  rw [← SU_of (P := ones F) h.1 (fun q => by rw [h.2.1, nms_ones]), List.map_map]
  unfold Dn.srt Law.srt
  refine (List.map_mergeSort (r := leN) (s := PySem.W.dataLe false id) (f := fun o => PyData.tuple [nmD o, .int (tt (ones F) o)]) (fun a ha b hb => ?_)).symm
  show leN a b = !PySem.W.dataLt (.tuple [nmD b, .int _]) (.tuple [nmD a, .int _])
  by_cases e : b = a
  · subst e
    have : PySem.W.dataLt (.tuple [nmD b, .int (tt (ones F) b)]) (.tuple [nmD b, .int (tt (ones F) b)]) = false := by
      unfold nmD
      rw [PySem.W.dataLt_pair (by rfl) (by rfl)]
      simp [PyData.eqv]
    rw [this]
    unfold leN
    simp
  · rw [pair_lt e]
    unfold leN
    rw [Bool.eq_iff_iff]
    simp
end Law
set_option Elab.async false
set_option linter.all false
set_option maxRecDepth 100000
set_option maxHeartbeats 2000000
namespace Law
open Dn PySem
open L2 (Key)
structure Wds (N : List (List Nat)) (W : List Wd) : Prop where
  len : W.flatten.length ≤ 1000
  src : ∀ o ∈ W.flatten, o ∈ N
  nm : ∀ o ∈ N, isNm o = true
  few : N.length ≤ 63
theorem flat_le {W A B : List Wd} {x : Wd} (e : W = A ++ x :: B) {u v : Wd} (ex : x = u ++ v) : (A.flatten ++ u).length ≤ W.flatten.length := by
  rw [e, ex, List.flatten_append, List.flatten_cons]
  simp only [List.length_append]
  omega
theorem iter_wd (w : Wd) : iterD (wdD w) = some (w.map nmD) := id rfl
theorem law_counted_eq {N : List (List Nat)} {W : List Wd} (H : Wds N W) : d__law_counted [.val (.list (W.map wdD))] = .ok (.val (pt (cnt W))) [.val (.list (W.map wdD))] := by
  refine mkF_ret (ds := [.list (W.map wdD)]) rfl ?_
  show Ret 1 _ (b__law_counted [.val (.list (W.map wdD)), .emp, .emp, .emp])
  unfold b__law_counted
  have ei : eIt (toV (eVar 0)) [.val (.list (W.map wdD)), .own (.dic []), .emp, .emp] = .ok (W.map wdD) [.val (.list (W.map wdD)), .own (.dic []), .emp, .emp] := by simp
  obtain ⟨T, hT⟩ : ∃ T : D, T = .list (W.map wdD) := ⟨_, rfl⟩
  rw [← hT] at ei ⊢
  clear hT
  refine seq_nx (ρ1 := [.val T, .own (.dic []), .emp, .emp]) (by simp) ?_
  refine seq_for ei ?_
  refine for_ty (fun A ρ => ∃ (K : List (List Nat)) (s2 s3 : Sl), isBor s2 = false ∧ (isBor s3 = false ∧ pureS s3 = true) ∧ CI A.flatten K ∧ ρ = [.val T, .own (.dic (kvo A.flatten K)), s2, s3]) ⟨[], .emp, .emp, rfl, ⟨rfl, rfl⟩, ⟨by simp, by simp, by simp⟩, rfl⟩ ?_ ?_
  · rintro A x B ρ eL ⟨K, s2, s3, n2, ⟨n3, p3⟩, hK, rfl⟩
    refine ⟨_, by simp; exact gNmS_nb n2, ?_⟩
    have ei2 : eIt (toV (eVar 2)) [.val T, .own (.dic (kvo A.flatten K)), .val (wdD x), s3] = .ok (x.map nmD) [.val T, .own (.dic (kvo A.flatten K)), .val (wdD x), s3] := by simp [iter_wd]
    show FL _ _ _ (sFor _ _ _ [.val T, .own (.dic (kvo A.flatten K)), .val (wdD x), s3])
    rw [sFor_ap, ei2, sFk_ok]
    refine for_tyl (P := FL _ _ _) (fun u ρ => ∃ (K : List (List Nat)) (s3 : Sl), (isBor s3 = false ∧ pureS s3 = true) ∧ CI (A.flatten ++ u) K ∧ ρ = [.val T, .own (.dic (kvo (A.flatten ++ u) K)), .val (wdD x), s3]) ⟨K, s3, ⟨n3, p3⟩, by simpa using hK, by simp⟩ ?_ ?_
    · rintro u o v ρ ex ⟨K, s3, ⟨n3, p3⟩, hK, rfl⟩
      obtain ⟨g2, g1⟩ := kvo_step hK o
      have hl := flat_le eL ex
      have hle := H.len
      have g3 : (kvo (A.flatten ++ u) K).length < 16777216 := by unfold kvo; rw [List.length_map]; have := hK.2.2; omega
      have hK' := hK.step o
      rw [List.append_assoc] at g2 hK'
      refine ⟨[.val T, .own (.dic (kvo (A.flatten ++ u) K)), .val (wdD x), .val (.str (mk o))], by simp [nmD, gNmS_nb, n3], ?_⟩
      have hst : sSetD 1 (toV (eOp2 fAdd (toV (eDget 1 (toV (eVar 3)) (toV (eC (.int 0))))) (toV (eC (.int 1))))) (toV (eVar 3)) [.val T, .own (.dic (kvo (A.flatten ++ u) K)), .val (wdD x), .val (.str (mk o))] = .nx [.val T, .own (.dic (kvo (A.flatten ++ (u ++ [o])) (addK K o))), .val (wdD x), .val (.str (mk o))] := by
        rw [← g2]
        generalize kvo (A.flatten ++ u) K = Z at *
        generalize wdD x = X at *
        simp [g1, g3]
      exact FL_of hst ⟨addK K o, _, ⟨rfl, rfl⟩, hK', rfl⟩
    · rintro ρ ⟨K, s3, n3, hK, rfl⟩
      have : (A ++ [x]).flatten = A.flatten ++ x := by rw [List.flatten_append]; simp
      rw [FL_nx]
      exact ⟨K, _, s3, rfl, n3, by rw [this]; exact hK, by rw [this]⟩
  · rintro ρ ⟨K, s2, s3, n2, ⟨n3, p3⟩, hK, rfl⟩
    have hkl := dist_len hK H.src
    have hf := H.few
    obtain ⟨g1, g2, g3⟩ := end_keys hK (by omega)
    have hlen : (Law.srt K).length ≤ 63 := by rw [srt_len]; omega
    show Ret 1 (.val (pt (SU (ones W.flatten)))) _
    rw [g3]
    generalize kvo W.flatten K = Z at *
    have e2 := lc_t0 (vs := [3]) (L := Law.srt K) (inj := nmD) (f := fun o => .tuple [nmD o, .int (tt (ones W.flatten) o)]) (mi := eIt (toV (eOp1 fSortedD (ePk 1)))) (g := gNm 3) (e := eOpN fTup (aCons (toV (eVar 3)) (aCons (toV (eDix 1 (toV (eVar 3)))) (aNil))))
      (ρ := [.val T, .own (.dic Z), s2, s3]) (by simp [g1]) (by simp [p3]) (fun o ho => ⟨_, by simp; rfl, (by
        have g2 := g2 o (srt_mem.mp ho)
        simp [nmD, g2]), by simp⟩) (by omega) rfl
    generalize (Law.srt K).map (fun o => PyData.tuple [nmD o, .int (tt (ones W.flatten) o)]) = Y at *
    simp [e2]
theorem name_ok {z : List Nat} (h : isNm z = true) : d_is_name [.val (.str (mk z))] = .ok (.val (.bool true)) [.val (.str (mk z))] := by
  have hl : z.length ≤ 8 := by
    unfold isNm at h
    simp at h
    exact h.1.1.2
  have hs : strOk (.str (mk z)) = true := decide_eq_true (by rw [mk_len]; omega)
  rw [is_name_eq _ hs]
  have e : isName (.str (mk z)) = true := h
  rw [e]
theorem letter_counts_eq {N : List (List Nat)} {W : List Wd} (H : Wds N W) : d_letter_counts [.val (.tuple (W.map wdD))] = .ok (.val (pt (cnt W))) [.val (.tuple (W.map wdD))] := by
  refine mkF_ret (ds := [.tuple (W.map wdD)]) rfl ?_
  show Ret 1 _ (b_letter_counts [.val (.tuple (W.map wdD)), .emp, .emp, .emp])
  unfold b_letter_counts
  have ei : eIt (toV (eVar 0)) [.val (.tuple (W.map wdD)), .own (.dic []), .emp, .emp] = .ok (W.map wdD) [.val (.tuple (W.map wdD)), .own (.dic []), .emp, .emp] := by simp
  have et : isTup (.tuple (W.map wdD)) = true := rfl
  obtain ⟨T, hT⟩ : ∃ T : D, T = .tuple (W.map wdD) := ⟨_, rfl⟩
  rw [← hT] at ei et ⊢
  clear hT
  refine seq_nx (ρ1 := [.val T, .emp, .emp, .emp]) (by simp [et]) ?_
  refine seq_nx (ρ1 := [.val T, .own (.dic []), .emp, .emp]) (by simp) ?_
  refine seq_for ei ?_
  refine for_ty (fun A ρ => ∃ (K : List (List Nat)) (s2 s3 : Sl), isBor s2 = false ∧ (isBor s3 = false ∧ pureS s3 = true) ∧ CI A.flatten K ∧ ρ = [.val T, .own (.dic (kvo A.flatten K)), s2, s3]) ⟨[], .emp, .emp, rfl, ⟨rfl, rfl⟩, ⟨by simp, by simp, by simp⟩, rfl⟩ ?_ ?_
  · rintro A x B ρ eL ⟨K, s2, s3, n2, ⟨n3, p3⟩, hK, rfl⟩
    refine ⟨[.val T, .own (.dic (kvo A.flatten K)), .val (wdD x), s3], by simp [gNmS_nb, n2], ?_⟩
    have ex2 : isTup (wdD x) = true := rfl
    refine seq_nx (ρ1 := [.val T, .own (.dic (kvo A.flatten K)), .val (wdD x), s3]) (by simp [ex2]) ?_
    have ei2 : eIt (toV (eVar 2)) [.val T, .own (.dic (kvo A.flatten K)), .val (wdD x), s3] = .ok (x.map nmD) [.val T, .own (.dic (kvo A.flatten K)), .val (wdD x), s3] := by simp [iter_wd]
    show FL _ _ _ (sFor _ _ _ [.val T, .own (.dic (kvo A.flatten K)), .val (wdD x), s3])
    rw [sFor_ap, ei2, sFk_ok]
    refine for_tyl (P := FL _ _ _) (fun u ρ => ∃ (K : List (List Nat)) (s3 : Sl), (isBor s3 = false ∧ pureS s3 = true) ∧ CI (A.flatten ++ u) K ∧ ρ = [.val T, .own (.dic (kvo (A.flatten ++ u) K)), .val (wdD x), s3]) ⟨K, s3, ⟨n3, p3⟩, by simpa using hK, by simp⟩ ?_ ?_
    · rintro u o v ρ ex ⟨K, s3, ⟨n3, p3⟩, hK, rfl⟩
      obtain ⟨g2, g1⟩ := kvo_step hK o
      have hl := flat_le eL ex
      have hle := H.len
      have ho : isNm o = true := H.nm o (H.src o (by rw [eL, List.flatten_append, List.flatten_cons, ex]; simp))
      have eo := name_ok ho
      have g3 : (kvo (A.flatten ++ u) K).length < 16777216 := by unfold kvo; rw [List.length_map]; have := hK.2.2; omega
      have hK' := hK.step o
      rw [List.append_assoc] at g2 hK'
      refine ⟨[.val T, .own (.dic (kvo (A.flatten ++ u) K)), .val (wdD x), .val (.str (mk o))], by simp [nmD, gNmS_nb, n3], ?_⟩
      refine seq_nx (ρ1 := [.val T, .own (.dic (kvo (A.flatten ++ u) K)), .val (wdD x), .val (.str (mk o))]) (by simp [eo]) ?_
      have hst : sSetD 1 (toV (eOp2 fAdd (toV (eDget 1 (toV (eVar 3)) (toV (eC (.int 0))))) (toV (eC (.int 1))))) (toV (eVar 3)) [.val T, .own (.dic (kvo (A.flatten ++ u) K)), .val (wdD x), .val (.str (mk o))] = .nx [.val T, .own (.dic (kvo (A.flatten ++ (u ++ [o])) (addK K o))), .val (wdD x), .val (.str (mk o))] := by
        rw [← g2]
        generalize kvo (A.flatten ++ u) K = Z at *
        generalize wdD x = X at *
        simp [g1, g3]
      exact FL_of hst ⟨addK K o, _, ⟨rfl, rfl⟩, hK', rfl⟩
    · rintro ρ ⟨K, s3, n3, hK, rfl⟩
      have : (A ++ [x]).flatten = A.flatten ++ x := by rw [List.flatten_append]; simp
      rw [FL_nx]
      exact ⟨K, _, s3, rfl, n3, by rw [this]; exact hK, by rw [this]⟩
  · rintro ρ ⟨K, s2, s3, n2, ⟨n3, p3⟩, hK, rfl⟩
    have hkl := dist_len hK H.src
    have hf := H.few
    have g1 := end_items hK (fun o ho => H.nm o (H.src o ho)) (by omega)
    have e : eSortIt 1 [.val T, .own (.dic (kvo W.flatten K)), s2, s3] = .ok (.fresh (.lst ((SU (ones W.flatten)).map fun p => pr2 p.1 p.2))) [.val T, .own (.dic (kvo W.flatten K)), s2, s3] := by
      unfold eSortIt
      show optR (fSortIt (.dict ((kvo W.flatten K).map fun p => (kd p.1, p.2)))) _ = _
      rw [g1]
      rfl
    show Ret 1 (.val (.tuple ((SU (ones W.flatten)).map fun p => pr2 p.1 p.2))) _
    generalize (SU (ones W.flatten)).map (fun p => pr2 p.1 p.2) = Y at *
    generalize kvo W.flatten K = Z at *
    simp [e]
end Law
set_option Elab.async false
set_option linter.all false
set_option maxRecDepth 100000
set_option maxHeartbeats 2000000
namespace Law
open Dn PySem
open L2 (Key)
theorem wt_pt (P : List Pr) : wt (pt P) = 1 + 3 * P.length := by
  have : ∀ P : List Pr, wtL (P.map fun p => pr2 p.1 p.2) = 3 * P.length := by
    intro P
    induction P with
    | nil => rfl
    | cons p P ih => rw [List.map_cons, wtL, ih]; simp [pr2, wtL, wt]; omega
  show wt (.tuple _) = _
  rw [wt, this]
theorem plain_pt (P : List Pr) : plainD (pt P) = true := by
  show plainD (.tuple _) = true
  rw [plainD, plainL_all, List.all_eq_true]
  intro d hd
  obtain ⟨p, _, rfl⟩ := List.mem_map.mp hd
  simp [pr2, plainD, plainL]
theorem same_pt (P : List Pr) (h : P.length ≤ 1000) : d__law_same [.val (pt P), .val (pt P)] = .ok (.val (.bool true)) [.val (pt P), .val (pt P)] := by
  rw [law_same_eq _ _ (by rw [wt_pt]; omega) (plain_pt P) (plain_pt P)]
  have : sameD (pt P) (pt P) = true := by
    have e : sameD (pt P) (pt P) = sameL (P.map fun p => pr2 p.1 p.2) (P.map fun p => pr2 p.1 p.2) := by simp [pt, sameD]
    rw [e, sameL_zip rfl, List.all_eq_true]
    rintro ⟨a, b⟩ hab
    rw [List.zip_map', List.mem_map] at hab
    obtain ⟨p, _, e⟩ := hab
    cases e
    simp [pr2, sameD, sameL, same1]
  rw [this]
theorem tt_perm {P Q : List Pr} (h : P.Perm Q) (o : List Nat) : tt P o = tt Q o := by
  induction h with
  | nil => rfl
  | cons x _ ih =>
    have e : ∀ R : List Pr, tt (x :: R) o = tt [x] o + tt R o := fun R => tt_app [x] R o
    exact ((e _).trans (by rw [ih])).trans (e _).symm
  | swap x y l => rw [show y :: x :: l = [y] ++ ([x] ++ l) from rfl, show x :: y :: l = [x] ++ ([y] ++ l) from rfl, tt_app, tt_app, tt_app, tt_app]; omega
  | trans _ _ ih1 ih2 => exact ih1.trans ih2
theorem cnt_perm {W W' : List Wd} (h : W.flatten.Perm W'.flatten) : cnt W = cnt W' := by
  unfold cnt
  refine SU_congr (fun o => ?_) fun o => tt_perm (h.map _) o
  rw [nms_ones, nms_ones]
  exact h.mem_iff
theorem flat_perm {W W' : List Wd} (h : W.Perm W') : W.flatten.Perm W'.flatten := by
  induction h with
  | nil => exact .refl _
  | cons x _ ih => rw [List.flatten_cons, List.flatten_cons]; exact ih.append_left x
  | swap x y l =>
    rw [List.flatten_cons, List.flatten_cons, List.flatten_cons, List.flatten_cons, ← List.append_assoc, ← List.append_assoc]
    exact (List.perm_append_comm).append_right _
  | trans _ _ ih1 ih2 => exact ih1.trans ih2
theorem Wds.perm {N : List (List Nat)} {W W' : List Wd} (H : Wds N W) (h : W'.flatten.Perm W.flatten) : Wds N W' := ⟨by rw [h.length_eq]; exact H.len, fun o ho => H.src o (h.mem_iff.mp ho), H.nm, H.few⟩
theorem flat_cut (W : List Wd) (c : Nat) : W.flatten = (W.take c).flatten ++ (W.drop c).flatten := by rw [← List.flatten_append, List.take_append_drop]
theorem Wds.take {N : List (List Nat)} {W : List Wd} (H : Wds N W) (c : Nat) : Wds N (W.take c) := ⟨by
    have := H.len
    rw [flat_cut W c, List.length_append] at this
    omega, fun o ho => H.src o (by rw [flat_cut W c]; exact List.mem_append_left _ ho), H.nm, H.few⟩
theorem Wds.drop {N : List (List Nat)} {W : List Wd} (H : Wds N W) (c : Nat) : Wds N (W.drop c) := ⟨by
    have := H.len
    rw [flat_cut W c, List.length_append] at this
    omega, fun o ho => H.src o (by rw [flat_cut W c]; exact List.mem_append_right _ ho), H.nm, H.few⟩
theorem cnt_len {N : List (List Nat)} {W : List Wd} (H : Wds N W) : (cnt W).length ≤ 63 := by
  unfold cnt SU
  rw [List.length_map, srt_len, nms_ones]
  exact Nat.le_trans (List.Nodup.length_le_of_subset (eraseDups_nodup _) fun o ho => H.src o (List.mem_eraseDups.mp ho)) H.few
def GoodR (N : List (List Nat)) (d : D) : Prop := ∃ W dd, d = .tuple [.list (W.map wdD), dd] ∧ Wds N W ∧ (dd = .none ∨ dd = pt (cnt W))
theorem counts_told_eq {N : List (List Nat)} {W : List Wd} (H : Wds N W) (hW : W.length ≤ 1000) {j : List D} (hj : Jar j) : ∃ j', Jar j' ∧ d__law_counts_told [.bor (.lst j), .val (.list (W.map wdD))] = .ok (.val (.bool true)) [.bor (.lst j'), .val (.list (W.map wdD))] := by
  refine mkF_exB (n := 2) (m := 9) (ds := [.list (W.map wdD)]) (φ := Jar) (f := fun _ => .val (.bool true)) (g := fun j => .lst j) rfl ?_
  show ExB 1 _ _ _ (b__law_counts_told [.bor (.lst j), .val (.list (W.map wdD)), .emp, .emp, .emp, .emp, .emp, .emp, .emp])
  unfold b__law_counts_told
  obtain ⟨⟨ct, j1⟩, ⟨bct, hj1⟩, e1⟩ := draw_eq hj (1 + (W.length : Int)) (by omega) (by omega)
  dsimp only at bct hj1 e1
  obtain ⟨c, hc⟩ : ∃ c : Nat, ct = c := ⟨ct.toNat, by omega⟩
  subst hc
  have el : fLen (.list (W.map wdD)) = some (.val (.int (W.length : Int))) := by rw [fLen_list, List.length_map]
  have s1 : fSl (.list (W.map wdD)) (some (c : Int)) none = some (.fresh (.lst ((W.drop c).map wdD))) := by
    rw [fSl_list, cut_lo (by omega), Int.toNat_natCast, List.map_drop]
  have s2 : fSl (.list (W.map wdD)) none (some (c : Int)) = some (.fresh (.lst ((W.take c).map wdD))) := by
    rw [fSl_list, cut_hi (by omega), Int.toNat_natCast, List.map_take]
  have a1 : fAdd (.list ((W.drop c).map wdD)) (.list ((W.take c).map wdD)) = some (.fresh (.lst ((W.drop c ++ W.take c).map wdD))) := by
    rw [fAdd_list (by simp only [List.length_map, List.length_drop, List.length_take]; omega), List.map_append]
  have r1 : fRev (.list ((W.drop c ++ W.take c).map wdD)) = some (.fresh (.lst (((W.drop c ++ W.take c).reverse).map wdD))) := by
    rw [fRev_list, List.map_reverse]
  have ei : ∀ s2 s3 s4 s5 s6 s7 s8 : Sl, eIt (toV (eVar 1)) [.bor (.lst j1), .val (.list (W.map wdD)), s2, s3, s4, s5, s6, s7, s8] = .ok (W.map wdD) [.bor (.lst j1), .val (.list (W.map wdD)), s2, s3, s4, s5, s6, s7, s8] := fun _ _ _ _ _ _ _ => by simp
  have w1 := law_counted_eq H
  have pT : (W.drop c ++ W.take c).reverse.Perm W := (List.reverse_perm _).trans (List.perm_append_comm.trans (by rw [List.take_append_drop]))
  have HT := H.perm (flat_perm pT)
  have cT := cnt_perm (flat_perm pT)
  have HL : Wds N [W.flatten] := H.perm (by simp)
  have cL : cnt [W.flatten] = cnt W := cnt_perm (by simp)
  have H1 := H.take c
  have H2 := H.drop c
  have hg : ∀ d ∈ ([.tuple [.list (W.map wdD), pt (cnt W)], .tuple [.list (((W.drop c ++ W.take c).reverse).map wdD), pt (cnt W)], .tuple [.list [wdD W.flatten], pt (cnt W)], .tuple [.list ((W.take c).map wdD), .none], .tuple [.list ((W.drop c).map wdD), .none]] : List D), GoodR N d := by
    intro d hd
    simp only [List.mem_cons, List.not_mem_nil, or_false] at hd
    rcases hd with rfl | rfl | rfl | rfl | rfl
    · exact ⟨W, _, rfl, H, .inr rfl⟩
    · exact ⟨_, _, rfl, HT, .inr (by rw [cT])⟩
    · exact ⟨[W.flatten], _, rfl, HL, .inr (by rw [cL])⟩
    · exact ⟨_, _, rfl, H1, .inl rfl⟩
    · exact ⟨_, _, rfl, H2, .inl rfl⟩
  have hfl := H.len
  have eLt : (PyData.tuple (W.flatten.map nmD)) = wdD W.flatten := rfl
  obtain ⟨T, hT⟩ : ∃ T : D, T = .list (W.map wdD) := ⟨_, rfl⟩
  rw [← hT] at el s1 s2 w1 hg ⊢
  simp only [← hT] at ei
  clear hT
  generalize (W.drop c ++ W.take c).map wdD = TL at *
  generalize ((W.drop c ++ W.take c).reverse).map wdD = RL at *
  generalize (W.drop c).map wdD = DL at *
  generalize (W.take c).map wdD = KL at *
  generalize pt (cnt W) = PW at *
  refine seq_nx (ρ1 := [.bor (.lst j1), .val T, .val (.int c), .emp, .emp, .emp, .emp, .emp, .emp]) (by simp [el, e1]) ?_
  refine seq_nx (ρ1 := [.bor (.lst j1), .val T, .val (.int c), .own (.lst RL), .emp, .emp, .emp, .emp, .emp]) (by simp [s1, s2, a1, r1]) ?_
  refine seq_nx (ρ1 := [.bor (.lst j1), .val T, .val (.int c), .own (.lst RL), .own (.lst []), .emp, .emp, .emp, .emp]) (by simp) ?_
  refine seq_for (ei _ _ _ _ _ _ _) ?_
  refine for_ty (fun A ρ => ∃ s5, isBor s5 = false ∧ ρ = [.bor (.lst j1), .val T, .val (.int c), .own (.lst RL), .own (.lst (A.flatten.map nmD)), s5, .emp, .emp, .emp]) ⟨.emp, rfl, rfl⟩ ?_ ?_
  · rintro A x B ρ eL ⟨s5, n5, rfl⟩
    have hl := flat_le eL (u := x) (v := []) (by simp)
    have e : (A ++ [x]).flatten.map nmD = A.flatten.map nmD ++ x.map nmD := by rw [List.flatten_append, List.map_append]; simp
    have hlen : (A.flatten.map nmD).length + (x.map nmD).length ≤ 1000 := by rw [List.length_map, List.length_map]; rw [List.length_append] at hl; omega
    refine ⟨[.bor (.lst j1), .val T, .val (.int c), .own (.lst RL), .own (.lst (A.flatten.map nmD)), .val (wdD x), .emp, .emp, .emp], by simp [gNmS_nb, n5], ?_⟩
    refine FL_of (ρ := [.bor (.lst j1), .val T, .val (.int c), .own (.lst RL), .own (.lst ((A ++ [x]).flatten.map nmD)), .val (wdD x), .emp, .emp, .emp]) ?_ ⟨_, rfl, rfl⟩
    rw [e]
    have el2 : fList (wdD x) = some (.fresh (.lst (x.map nmD))) := rfl
    generalize A.flatten.map nmD = Z at *
    generalize x.map nmD = Z2 at *
    generalize wdD x = Z3 at *
    simp [el2]
    omega
  · rintro ρ ⟨s5, n5, rfl⟩
    refine seq_nx (ρ1 := [.bor (.lst j1), .val T, .val (.int c), .own (.lst RL), .own (.lst (W.flatten.map nmD)), s5, .val PW, .emp, .emp]) (by simp [w1]) ?_
    refine seq_for (ρ1 := [.bor (.lst j1), .val T, .val (.int c), .val (.list RL), .own (.lst (W.flatten.map nmD)), s5, .val PW, .emp, .emp]) (ds := [.tuple [T, PW], .tuple [.list RL, PW], .tuple [.list [wdD W.flatten], PW], .tuple [.list KL, .none], .tuple [.list DL, .none]]) (by
      generalize W.flatten.map nmD = Z at *
      simp [s1, s2, eLt]) ?_
    refine for_rule (fun r ρ => (∀ d ∈ r, GoodR N d) ∧ ∃ s7 s8, isBor s7 = false ∧ isBor s8 = false ∧ ρ = [.bor (.lst j1), .val T, .val (.int c), .val (.list RL), .own (.lst (W.flatten.map nmD)), s5, .val PW, s7, s8]) ⟨hg, .emp, .emp, rfl, rfl, rfl⟩ ?_ ?_
    · rintro d r ρ ⟨hg, s7, s8, n7, n8, rfl⟩
      have hg' : ∀ d ∈ r, GoodR N d := fun d hd => hg d (List.mem_cons_of_mem _ hd)
      obtain ⟨W', dd, rfl, H', hdd⟩ := hg d (List.mem_cons_self ..)
      have x1 := law_counted_eq H'
      have x2 := letter_counts_eq H'
      have x3 := same_pt (cnt W') (by have := cnt_len H'; omega)
      generalize W.flatten.map nmD = Z at *
      generalize pt (cnt W') = P' at *
      generalize W'.map wdD = WL at *
      refine ⟨[.bor (.lst j1), .val T, .val (.int c), .val (.list RL), .own (.lst Z), s5, .val PW, .val (.list WL), .val dd], by simp [gNmS_nb, n7, n8], ?_⟩
      refine seq_nx (ρ1 := [.bor (.lst j1), .val T, .val (.int c), .val (.list RL), .own (.lst Z), s5, .val PW, .val (.list WL), .val P']) ?_ ?_
      · by_cases q : dd = .none
        · subst q
          simp [isNon, x1]
        · have e : dd = P' := hdd.resolve_left q
          have en : isNon dd = false := by cases dd <;> first | rfl | exact absurd rfl q
          rw [e] at en ⊢
          simp [en]
      · exact FL_of (ρ := [.bor (.lst j1), .val T, .val (.int c), .val (.list RL), .own (.lst Z), s5, .val PW, .val (.list WL), .val P']) (by simp [x2, x3]) ⟨hg', _, _, rfl, rfl, rfl⟩
    · rintro ρ ⟨_, s7, s8, n7, n8, rfl⟩
      exact ExB_ret (r := .val (.bool true)) (c := .lst j1) (ρ := [.val T, .val (.int c), .val (.list RL), .own (.lst (W.flatten.map nmD)), s5, .val PW, s7, s8]) (by simp) j1 hj1 rfl rfl (by simp)
end Law
set_option Elab.async false
set_option linter.all false
set_option maxRecDepth 100000
set_option maxHeartbeats 4000000
namespace Law
open Dn PySem
open L2 (Key)
def WOk (N : List (List Nat)) (W : List Wd) : Prop := ∀ w ∈ W, w.length ≤ 12 ∧ ∀ o ∈ w, o ∈ N
theorem flat12 : ∀ {W : List Wd}, (∀ w ∈ W, w.length ≤ 12) → W.flatten.length ≤ 12 * W.length
  | [], _ => by simp
  | w :: W, h => by
    have := flat12 (W := W) fun w hw => h w (List.mem_cons_of_mem _ hw)
    have := h w (List.mem_cons_self ..)
    rw [List.flatten_cons, List.length_append, List.length_cons]
    omega
theorem WOk.wds {N : List (List Nat)} {W : List Wd} (H : WOk N W) (hW : W.length ≤ 60) (nm : ∀ o ∈ N, isNm o = true) (few : N.length ≤ 63) : Wds N W := ⟨by have := flat12 fun w hw => (H w hw).1; omega, fun o ho => by
    obtain ⟨w, hw, h⟩ := List.mem_flatten.mp ho
    exact (H w hw).2 o h, nm, few⟩
theorem rgD_nat (n : Nat) : rgD 0 n = (List.range n).map fun k => .int (k : Nat) := by
  apply List.ext_getElem
  · simp [rgD_len]
  · intro i h1 h2
    rw [rgD_get h1]
    simp
theorem nm_ix {N : List (List Nat)} {k : Int} (h0 : 0 ≤ k) (h1 : k < N.length) : ∃ o, o ∈ N ∧ fIx (.list (N.map nmD)) (.int k) = some (.val (nmD o)) := by
  refine ⟨nth N k.toNat [], nth_mem (by omega), ?_⟩
  rw [fIx_list h0 (by rw [List.length_map]; exact h1), nth_map (d := []) (by omega)]
theorem words_eq (ns : List Int) {N : List (List Nat)} (hN : N.length = 20) : ∃ W : List Wd, (WOk N W ∧ W.length ≤ 60) ∧ d__law_words [.val (script ns), .val (.list (N.map nmD))] = .ok (.val (.list (W.map wdD))) [.val (script ns), .val (.list (N.map nmD))] := by
  refine mkF_ex (ds := [script ns, .list (N.map nmD)]) (f := fun W : List Wd => .val (.list (W.map wdD))) rfl ?_
  obtain ⟨j0, hj0, e0⟩ := jar_eq ns 1 (by decide) (by decide)
  have hown : ∀ k : Int, 0 ≤ k → k ≤ 1000 → ∃ j, Jar j ∧ d__law_jar [.val (script ns), .val (.int k)] = .ok (.fresh (.lst j)) [.val (script ns), .val (.int k)] := fun k h0 h1 => jar_eq ns k h0 h1
  have iN : ∀ k : Int, 0 ≤ k → k < 20 → ∃ o, o ∈ N ∧ fIx (.list (N.map nmD)) (.int k) = some (.val (nmD o)) := fun k h0 h1 => nm_ix h0 (by omega)
  obtain ⟨S, hS⟩ : ∃ S, S = script ns := ⟨_, rfl⟩
  rw [← hS] at e0 ⊢
  simp only [← hS] at hown
  clear hS
  show ExRet 2 _ _ (b__law_words [.val S, .val (.list (N.map nmD)), .emp, .emp, .emp, .emp, .emp, .emp, .emp])
  generalize N.map nmD = NN at *
  unfold b__law_words
  refine seq_nx (ρ1 := [.val S, .val (.list NN), .own (.lst j0), .emp, .emp, .emp, .emp, .emp, .emp]) (by simp [e0]) ?_
  refine seq_nx (ρ1 := [.val S, .val (.list NN), .own (.lst j0), .own (.lst []), .emp, .emp, .emp, .emp, .emp]) (by simp) ?_
  obtain ⟨⟨d1, j1⟩, ⟨b1, hj1⟩, e1⟩ := draw_eq hj0 5 (by decide) (by decide)
  dsimp only at b1 hj1 e1
  obtain ⟨⟨d2, j2⟩, ⟨b2, hj2⟩, e2⟩ := draw_eq hj1 48 (by decide) (by decide)
  dsimp only at b2 hj2 e2
  obtain ⟨⟨d3, j3⟩, ⟨b3, hj3⟩, e3⟩ := draw_eq hj2 3 (by decide) (by decide)
  dsimp only at b3 hj3 e3
  have hr : ∃ r : Nat, r ≤ 60 ∧ fIx (.list [.int d1, .int (13 + d2), .int 60]) (.int d3) = some (.val (.int (r : Int))) := by
    have : d3 = 0 ∨ d3 = 1 ∨ d3 = 2 := by omega
    rcases this with rfl | rfl | rfl
    · exact ⟨d1.toNat, by omega, by simp; omega⟩
    · exact ⟨(13 + d2).toNat, by omega, by simp; omega⟩
    · exact ⟨60, by decide, by simp⟩
  obtain ⟨r, hr, ir⟩ := hr
  have er := rg1_ok (n := (r : Int)) (by omega) (by omega)
  rw [Int.toNat_natCast] at er
  refine seq_for (ρ1 := [.val S, .val (.list NN), .own (.lst j3), .own (.lst []), .emp, .emp, .emp, .emp, .emp]) (ds := rgD 0 r) (by simp [e1, e2, e3, ir, er]) ?_
  refine for_rg (fun i ρ => ∃ (W : List Wd) (s4 s5 s6 s7 : Sl), isBor s4 = false ∧ isBor s5 = false ∧ isBor s6 = false ∧ isBor s7 = false ∧ WOk N W ∧ W.length = i ∧ ρ = [.val S, .val (.list NN), .own (.lst j3), .own (.lst (W.map wdD)), s4, s5, s6, s7, .emp]) ⟨[], .emp, .emp, .emp, .emp, rfl, rfl, rfl, rfl, by intro w hw; simp at hw, rfl, rfl⟩ ?_ ?_
  · rintro i hi ρ ⟨W, s4, s5, s6, s7, n4, n5, n6, n7, hW, hWl, rfl⟩
    have hlen : (W.map wdD).length < 16777216 := by rw [List.length_map]; omega
    have hprev : 0 < i → ∃ w : Wd, (w.length ≤ 12 ∧ ∀ o ∈ w, o ∈ N) ∧ fIx (.list (W.map wdD)) (.int ((i : Int) - 1)) = some (.val (wdD w)) := fun h => by
      refine ⟨nth W (i - 1) [], hW _ (nth_mem (by omega)), ?_⟩
      rw [fIx_list (by omega) (by rw [List.length_map]; omega), nth_map (d := []) (by omega)]
      have : ((i : Int) - 1).toNat = i - 1 := by omega
      rw [this]
    have happ : ∀ w : Wd, (W ++ [w]).map wdD = W.map wdD ++ [wdD w] := fun w => by rw [List.map_append]; rfl
    have hWw : ∀ w : Wd, w.length ≤ 12 → (∀ o ∈ w, o ∈ N) → WOk N (W ++ [w]) := fun w h1 h2 v hv => by
      rcases List.mem_append.mp hv with hv | hv
      · exact hW v hv
      · simp at hv; rw [hv]; exact ⟨h1, h2⟩
    obtain ⟨WL, hWL⟩ : ∃ WL, WL = W.map wdD := ⟨_, rfl⟩
    simp only [← hWL] at hlen hprev happ ⊢
    refine ⟨[.val S, .val (.list NN), .own (.lst j3), .own (.lst WL), .val (.int i), s5, s6, s7, .emp], by simp; rw [gNmS_nb n4]; simp, ?_⟩
    have m40 := fMod_pos (p := (i : Int)) (q := 40) (by decide)
    obtain ⟨jo, hjo, eo⟩ := hown (2 + (i : Int) % 40) (by omega) (by omega)
    refine seq_nx (ρ1 := [.val S, .val (.list NN), .own (.lst j3), .own (.lst WL), .val (.int i), .own (.lst jo), s6, s7, .emp]) (by simp [m40, eo, putS_nb, n5]) ?_
    -- skip
    have f40 := fFdiv_pos (p := (i : Int)) (q := 40) (by decide) (by decide)
    have er4 := rg1_ok (n := (i : Int) / 40) (by omega) (by omega)
    obtain ⟨q, hq⟩ : ∃ q : Nat, (i : Int) / 40 = q := ⟨((i : Int) / 40).toNat, by omega⟩
    rw [hq, Int.toNat_natCast, rgD_nat] at er4
    rw [hq] at f40
    obtain ⟨acc, ρ', ⟨jp, hjp, rfl⟩, hal, e6⟩ := lc_inv (vs := [8]) (g := gNm 8) (e := eCallB 5 2 d__law_draw (aCons (toV (eC (.int 20))) (aNil))) (mi := eRg1 (toV (eOp2 fFdiv (toV (eVar 4)) (toV (eC (.int 40)))))) (inj := fun k : Nat => PyData.int (k : Int)) (L := List.range q)
      (ρ := [.val S, .val (.list NN), .own (.lst j3), .own (.lst WL), .val (.int i), .own (.lst jo), s6, s7, .emp]) (ρ1 := [.val S, .val (.list NN), .own (.lst j3), .own (.lst WL), .val (.int i), .own (.lst jo), s6, s7, .emp]) (fun _ ρ => ∃ j, Jar j ∧ ρ = [.val S, .val (.list NN), .own (.lst j3), .own (.lst WL), .val (.int i), .own (.lst j), s6, s7, .emp]) (by simp [f40, er4]) (by simp) ⟨jo, hjo, by simp⟩ (fun k _ acc ρ ⟨j, hj, eρ⟩ => by
        subst eρ
        obtain ⟨⟨v, j'⟩, ⟨_, hj'⟩, ed⟩ := draw_eq hj 20 (by decide) (by decide)
        dsimp only at hj' ed
        exact ⟨[.val S, .val (.list NN), .own (.lst j3), .own (.lst WL), .val (.int i), .own (.lst j), s6, s7, .val (.int k)], .val (.int v), [.val S, .val (.list NN), .own (.lst j3), .own (.lst WL), .val (.int i), .own (.lst j'), s6, s7, .val (.int k)], by simp, by simp [ed], j', hj', by simp⟩) (by simp; omega)
    rw [List.length_range] at hal
    refine seq_nx (ρ1 := [.val S, .val (.list NN), .own (.lst j3), .own (.lst WL), .val (.int i), .own (.lst jp), .own (.lst acc), s7, .emp]) (by simp [e6, putS_nb, n6]) ?_
    clear e6
    -- word
    obtain ⟨⟨ln, jq⟩, ⟨bln, hjq⟩, e7⟩ := draw_eq hjp 13 (by decide) (by decide)
    dsimp only at bln hjq e7
    have er7 := rg1_ok (n := ln) (by omega) (by omega)
    rw [rgD_nat] at er7
    have ela : fLen (.list acc) = some (.val (.int (q : Int))) := by rw [fLen_list, hal]
    have f7 := fMul_l (p := (q : Int)) (q := 7) (by omega) (by omega)
    obtain ⟨acc2, ρ', ⟨jr, w, hjr, hw, hacc, rfl⟩, hal2, e8⟩ := lc_inv (vs := [8]) (g := gNm 8) (e := eIxV 1 (toV (eOp2 fMod (toV (eOp1 fInt (toV (eOp2 fAdd (toV (eCallB 5 2 d__law_draw (aCons (toV (eC (.int 400))) (aNil)))) (toV (eOp2 fMul (toV (eOp1 fLen (ePk 6))) (toV (eC (.int 7))))))))) (toV (eC (.int 20)))))) (mi := eRg1 (toV (eCallB 5 2 d__law_draw (aCons (toV (eC (.int 13))) (aNil))))) (inj := fun k : Nat => PyData.int (k : Int)) (L := List.range ln.toNat)
      (ρ := [.val S, .val (.list NN), .own (.lst j3), .own (.lst WL), .val (.int i), .own (.lst jp), .own (.lst acc), s7, .emp]) (ρ1 := [.val S, .val (.list NN), .own (.lst j3), .own (.lst WL), .val (.int i), .own (.lst jq), .own (.lst acc), s7, .emp]) (fun a ρ => ∃ (j : List D) (w : Wd), Jar j ∧ (∀ o ∈ w, o ∈ N) ∧ a = w.map nmD ∧ ρ = [.val S, .val (.list NN), .own (.lst j3), .own (.lst WL), .val (.int i), .own (.lst j), .own (.lst acc), s7, .emp]) (by simp [e7, er7]) (by simp) ⟨jq, [], hjq, by simp, rfl, by simp⟩ (fun k _ a ρ ⟨j, w, hj, hw, ha, eρ⟩ => by
        subst eρ
        obtain ⟨⟨v, j'⟩, ⟨bv, hj'⟩, ed⟩ := draw_eq hj 400 (by decide) (by decide)
        dsimp only at bv hj' ed
        have m20 := fMod_pos (p := v + q * 7) (q := 20) (by decide)
        obtain ⟨o, ho, io⟩ := iN ((v + q * 7) % 20) (by omega) (by omega)
        exact ⟨[.val S, .val (.list NN), .own (.lst j3), .own (.lst WL), .val (.int i), .own (.lst j), .own (.lst acc), s7, .val (.int k)], .val (nmD o), [.val S, .val (.list NN), .own (.lst j3), .own (.lst WL), .val (.int i), .own (.lst j'), .own (.lst acc), s7, .val (.int k)], by simp, by simp [ed, ela, f7, m20, io], j', w ++ [o], hj', fun x hx => by
          rcases List.mem_append.mp hx with hx | hx
          · exact hw x hx
          · simp at hx; rw [hx]; exact ho, by rw [ha, List.map_append]; rfl, by simp⟩) (by simp; omega)
    have hwl : w.length ≤ 12 := by
      rw [hacc, List.length_map, List.length_range] at hal2
      omega
    refine seq_nx (ρ1 := [.val S, .val (.list NN), .own (.lst j3), .own (.lst WL), .val (.int i), .own (.lst jr), .own (.lst acc), .own (.lst acc2), .emp]) (by simp [e8, putS_nb, n7]) ?_
    clear e8
    have s1 : ∃ (v : Wd) (jz : List D), (v.length ≤ 12 ∧ ∀ o ∈ v, o ∈ N) ∧ sIf (tAndD (tBoolD (eOp2 fGt (toV (eVar 4)) (toV (eC (.int 0))))) (tBoolD (eOp2 fEq (toV (eCallB 5 2 d__law_draw (aCons (toV (eC (.int 4))) (aNil)))) (toV (eC (.int 0)))))) (sAsg 7 (eOp1 fList (toV (eIxV 3 (toV (eOp2 fSub (toV (eVar 4)) (toV (eC (.int 1))))))))) (sNil) [.val S, .val (.list NN), .own (.lst j3), .own (.lst WL), .val (.int i), .own (.lst jr), .own (.lst acc), .own (.lst acc2), .emp] = .nx [.val S, .val (.list NN), .own (.lst j3), .own (.lst WL), .val (.int i), .own (.lst jz), .own (.lst acc), .own (.lst (v.map nmD)), .emp] := by
      by_cases c1 : 0 < i
      · obtain ⟨⟨x, jz⟩, ⟨bx, hjz⟩, ex⟩ := draw_eq hjr 4 (by decide) (by decide)
        dsimp only at bx hjz ex
        by_cases c2 : x = 0
        · obtain ⟨v, hv, iv⟩ := hprev c1
          have ev : fList (wdD v) = some (.fresh (.lst (v.map nmD))) := rfl
          exact ⟨v, jz, hv, by simp [c1, ex, c2, iv, ev]⟩
        · exact ⟨w, jz, ⟨hwl, hw⟩, by rw [hacc]; simp [c1, ex, c2]⟩
      · exact ⟨w, jr, ⟨hwl, hw⟩, by rw [hacc]; simp [c1]⟩
    obtain ⟨v, jz, ⟨hv1, hv2⟩, s1⟩ := s1
    refine seq_nx s1 ?_
    clear s1
    have ev : (PyData.tuple (v.map nmD)) = wdD v := rfl
    refine FL_of (ρ := [.val S, .val (.list NN), .own (.lst j3), .own (.lst ((W ++ [v]).map wdD)), .val (.int i), .own (.lst jz), .own (.lst acc), .own (.lst (v.map nmD)), .emp]) ?_ ⟨W ++ [v], _, _, _, _, rfl, rfl, rfl, rfl, hWw v hv1 hv2, by simp [hWl], rfl⟩
    rw [happ]
    generalize v.map nmD = VV at *
    simp [hlen, ev]
  · rintro ρ ⟨W, s4, s5, s6, s7, n4, n5, n6, n7, hW, hWl, rfl⟩
    refine ExRet_ret (r := .val (.list (W.map wdD))) (ρ := [.val S, .val (.list NN), .own (.lst j3), .val (.list (W.map wdD)), s4, s5, s6, s7, .emp]) ?_ W ⟨hW, by omega⟩ rfl (by simp)
    generalize W.map wdD = Z
    simp
end Law
set_option Elab.async false
set_option linter.all false
set_option maxRecDepth 100000
set_option maxHeartbeats 2000000
namespace Law
open Dn PySem
open L2 (Key)
def isRat : D → Bool
  | .tuple [.int n, .int m] => decide (1 ≤ m) && decide (Nat.gcd n.natAbs m.natAbs = 1)
  | _ => false
theorem gcd_1 {n m : Int} : fGcd [.int n, .int m] = some (.val (.int ((Nat.gcd n.natAbs m.natAbs : Nat) : Int))) := rfl
theorem is_ratio_eq (d : D) : d_is_ratio [.val d] = .ok (.val (.bool (isRat d))) [.val d] := by
  refine mkF_ret (ds := [d]) rfl ?_
  have e := is_tuple_of_eq d 2 2
  cases d with
  | tuple ds =>
    dsimp only at e
    by_cases h : ds.length = 2
    · match ds, h with
      | [a, b], _ =>
        have e0 : fIx (.tuple [a, b]) (.int 0) = some (.val a) := rfl
        have e1 : fIx (.tuple [a, b]) (.int 1) = some (.val b) := rfl
        have wa := is_whole_eq a
        have wb := is_whole_eq b
        simp at e
        cases a with
        | int n =>
          cases b with
          | int m =>
            simp [isInt, isBool] at wa wb
            by_cases c : m < 1
            · have q : isRat (.tuple [.int n, .int m]) = false := by simp [isRat]; omega
              rw [q]
              simp [b_is_ratio, e, e0, e1, wa, wb, c]
            · have q : isRat (.tuple [.int n, .int m]) = decide (Nat.gcd n.natAbs m.natAbs = 1) := by simp [isRat]; omega
              rw [q]
              simp [b_is_ratio, e, e0, e1, wa, wb, c, gcd_1]
              omega
          | _ =>
            simp [isInt, isBool] at wa wb
            simp [b_is_ratio, e, e0, e1, wa, wb, isRat]
        | _ =>
          simp [isInt, isBool] at wa
          simp [b_is_ratio, e, e0, e1, wa, isRat]
    · have q : isRat (.tuple ds) = false := by
        unfold isRat
        split
        · rename_i heq
          cases heq
          exact absurd rfl h
        · rfl
      rw [q]
      have e' : (decide ((2 : Int) ≤ ds.length) && decide ((ds.length : Int) ≤ 2)) = false := by simp; omega
      rw [e'] at e
      simp [b_is_ratio, e]
  | _ => simp [b_is_ratio, e, isRat]
def dq (q : Rat) : D := .tuple [.int q.num, .int q.den]
theorem isRat_dq (q : Rat) : isRat (dq q) = true := by
  have a := q.den_pos
  have b := q.reduced
  unfold Nat.Coprime at b
  simp [isRat, dq, b]
  omega
theorem check_ok (q : Rat) : d_check_ratio [.val (dq q)] = .ok (.val .none) [.val (dq q)] := by
  refine mkF_nxt (ds := [dq q]) rfl ?_
  have e := is_ratio_eq (dq q)
  rw [isRat_dq] at e
  simp [b_check_ratio, e]
theorem ratio_eq (n m : Int) (hm : m ≠ 0) (hb : Bd 9000 ((Nat.gcd n.natAbs m.natAbs : Nat) : Int)) (hn : m < 0 → Nat.gcd n.natAbs m.natAbs < 1073741824) : d_ratio [.val (.int n), .val (.int m)] = .ok (.val (dq (Rat.divInt n m))) [.val (.int n), .val (.int m)] := by
  refine mkF_ret (ds := [.int n, .int m]) rfl ?_
  have wn := is_whole_eq (.int n)
  have wm := is_whole_eq (.int m)
  simp [isInt, isBool] at wn wm
  have hg : 0 < Nat.gcd n.natAbs m.natAbs := Nat.gcd_pos_of_pos_right _ (by omega)
  have dn : ((Nat.gcd n.natAbs m.natAbs : Nat) : Int) ∣ n := Int.ofNat_dvd_left.mpr (Nat.gcd_dvd_left _ _)
  have dm : ((Nat.gcd n.natAbs m.natAbs : Nat) : Int) ∣ m := Int.ofNat_dvd_left.mpr (Nat.gcd_dvd_right _ _)
  have eg : m.gcd n = Nat.gcd n.natAbs m.natAbs := Nat.gcd_comm _ _
  have e1 : (Rat.divInt n m).num = m.sign * n / (Nat.gcd n.natAbs m.natAbs : Nat) := by rw [Rat.num_divInt, eg]
  have e2 : ((Rat.divInt n m).den : Int) = (m.natAbs / Nat.gcd n.natAbs m.natAbs : Nat) := by rw [Rat.den_divInt, if_neg hm, eg]
  have g0 := gcd_1 (n := n) (m := m)
  generalize hG : Nat.gcd n.natAbs m.natAbs = g at *
  by_cases c : m < 0
  · have f1 := fFdiv_neg (p := n) (q := -(g : Int)) (by omega) (by have := hn c; omega)
    have f2 := fFdiv_neg (p := m) (q := -(g : Int)) (by omega) (by have := hn c; omega)
    have r1 : n.fdiv (-(g : Int)) = (Rat.divInt n m).num := by
      rw [e1, Int.sign_eq_neg_one_of_neg c, Int.fdiv_eq_ediv_of_dvd (Int.neg_dvd.mpr dn), Int.ediv_neg, Int.neg_one_mul, Int.neg_ediv_of_dvd dn]
    have r2 : m.fdiv (-(g : Int)) = (Rat.divInt n m).den := by
      rw [e2, Int.fdiv_eq_ediv_of_dvd (Int.neg_dvd.mpr dm), Int.ediv_neg, Int.natCast_ediv, ← Int.neg_ediv_of_dvd dm]
      congr 1
      omega
    rw [r1] at f1
    rw [r2] at f2
    simp [b_ratio, wn, wm, hm, g0, c, f1, f2, dq]
  · have f1 := fFdiv_bd (p := n) (q := (g : Int)) (by omega) hb (Nat.le_refl _)
    have f2 := fFdiv_bd (p := m) (q := (g : Int)) (by omega) hb (Nat.le_refl _)
    have r1 : n / (g : Int) = (Rat.divInt n m).num := by
      rw [e1, Int.sign_eq_one_of_pos (by omega), Int.one_mul]
    have r2 : m / (g : Int) = (Rat.divInt n m).den := by
      rw [e2, Int.natCast_ediv]
      congr 1
      omega
    rw [r1] at f1
    rw [r2] at f2
    simp [b_ratio, wn, wm, hm, g0, c, f1, f2, dq]
def Sm (k : Nat) (q : Rat) : Prop := Bd k q.num ∧ Bd k (q.den : Int)
theorem Sm.mono {a b : Nat} {q : Rat} (h : Sm a q) (hab : a ≤ b) : Sm b q := ⟨h.1.mono hab, h.2.mono hab⟩
theorem gcd_bd {k : Nat} {n m : Int} (h : Bd k m) (hm : m ≠ 0) : Bd k ((Nat.gcd n.natAbs m.natAbs : Nat) : Int) := by
  refine h.le ?_
  have := Nat.gcd_le_right n.natAbs (n := m.natAbs) (by omega)
  rw [Int.natAbs_natCast]
  exact this
theorem pos_nn {q : Rat} : ¬ ((q.den : Int) < 0) := by have := q.den_pos; omega
theorem ix_dq0 (q : Rat) : fIx (dq q) (.int 0) = some (.val (.int q.num)) := rfl
theorem ix_dq1 (q : Rat) : fIx (dq q) (.int 1) = some (.val (.int q.den)) := rfl
theorem plus_eq (a b : Rat) (ha : Sm 4400 a) (hb : Sm 4400 b) : d_plus [.val (dq a), .val (dq b)] = .ok (.val (dq (a + b))) [.val (dq a), .val (dq b)] := by
  refine mkF_ret (ds := [dq a, dq b]) rfl ?_
  have pa := a.den_pos
  have pb := b.den_pos
  have hm : (a.den : Int) * b.den ≠ 0 := Int.mul_ne_zero (by omega) (by omega)
  have e := ratio_eq (a.num * b.den + b.num * a.den) (a.den * b.den) hm ((gcd_bd (ha.2.mul hb.2) hm).mono (by decide)) (fun h => absurd h (by have := Int.mul_pos (a := (a.den : Int)) (b := b.den) (by omega) (by omega); omega))
  have e2 : Rat.divInt (a.num * b.den + b.num * a.den) (a.den * b.den) = a + b := by rw [Rat.add_def', ← Rat.divInt_ofNat, Int.natCast_mul]
  rw [e2] at e
  have f1 := fMul_bd ha.1 hb.2 (by decide)
  have f2 := fMul_bd hb.1 ha.2 (by decide)
  have f3 := fMul_bd ha.2 hb.2 (by decide)
  simp [b_plus, check_ok, ix_dq0, ix_dq1, f1, f2, f3, e]
theorem times_eq (a b : Rat) (ha : Sm 4400 a) (hb : Sm 4400 b) : d_times [.val (dq a), .val (dq b)] = .ok (.val (dq (a * b))) [.val (dq a), .val (dq b)] := by
  refine mkF_ret (ds := [dq a, dq b]) rfl ?_
  have pa := a.den_pos
  have pb := b.den_pos
  have hm : (a.den : Int) * b.den ≠ 0 := Int.mul_ne_zero (by omega) (by omega)
  have e := ratio_eq (a.num * b.num) (a.den * b.den) hm ((gcd_bd (ha.2.mul hb.2) hm).mono (by decide)) (fun h => absurd h (by have := Int.mul_pos (a := (a.den : Int)) (b := b.den) (by omega) (by omega); omega))
  have e2 : Rat.divInt (a.num * b.num) (a.den * b.den) = a * b := by rw [Rat.mul_def', ← Rat.divInt_ofNat, Int.natCast_mul]
  rw [e2] at e
  have f1 := fMul_bd ha.1 hb.1 (by decide)
  have f3 := fMul_bd ha.2 hb.2 (by decide)
  simp [b_times, check_ok, ix_dq0, ix_dq1, f1, f3, e]
theorem ceil_eq (a : Rat) (ha : Sm 4400 a) : d_ceil_of [.val (dq a)] = .ok (.val (.int (-(-a).floor))) [.val (dq a)] := by
  refine mkF_ret (ds := [dq a]) rfl ?_
  have pa := a.den_pos
  have f1 := fFdiv_bd (p := -a.num) (by omega) ha.2 (by decide)
  rw [Rat.floor_def, Rat.neg_num, Rat.neg_den]
  simp [b_ceil_of, check_ok, ix_dq0, ix_dq1, f1]
theorem dq_pos (n d : Int) (hd : 0 < d) : dq (Rat.divInt n d) = .tuple [.int (n / (Nat.gcd n.natAbs d.natAbs : Nat)), .int (d / (Nat.gcd n.natAbs d.natAbs : Nat))] := by
  have eg : d.gcd n = Nat.gcd n.natAbs d.natAbs := Nat.gcd_comm _ _
  have e1 : (Rat.divInt n d).num = n / (Nat.gcd n.natAbs d.natAbs : Nat) := by rw [Rat.num_divInt, eg, Int.sign_eq_one_of_pos hd, Int.one_mul]
  have e2 : ((Rat.divInt n d).den : Int) = d / (Nat.gcd n.natAbs d.natAbs : Nat) := by
    rw [Rat.den_divInt, if_neg (by omega), eg, Int.natCast_ediv]
    congr 1
    omega
  unfold dq
  rw [e1, e2]
def Ph (T i a b : Nat) : Prop := (i = 0 ∧ b < T) ∨ (∃ j, i = 2 * j + 1 ∧ b < a ∧ a * 2 ^ j < T) ∨ (∃ j, i = 2 * j + 2 ∧ b < a ∧ b * 2 ^ (j + 1) < T)
theorem Ph.step {T i a b : Nat} (h : Ph T i a b) (hb : 0 < b) : Ph T (i + 1) b (a % b) := by
  have hr := Nat.mod_lt a hb
  rcases h with ⟨rfl, h⟩ | ⟨j, rfl, h1, h2⟩ | ⟨j, rfl, h1, h2⟩
  · exact .inr (.inl ⟨0, rfl, hr, by simpa using h⟩)
  · refine .inr (.inr ⟨j, rfl, hr, ?_⟩)
    have h3 : a % b * 2 ≤ a := by
      have e := Nat.div_add_mod a b
      have : 1 ≤ a / b := Nat.div_pos (by omega) hb
      have : b * 1 ≤ b * (a / b) := Nat.mul_le_mul_left _ this
      omega
    calc a % b * 2 ^ (j + 1) = (a % b * 2) * 2 ^ j := by rw [Nat.pow_succ]; ac_rfl
      _ ≤ a * 2 ^ j := Nat.mul_le_mul_right _ h3
      _ < T := h2
  · exact .inr (.inl ⟨j + 1, by omega, hr, h2⟩)
end Law
set_option Elab.async false
set_option linter.all false
set_option maxRecDepth 100000
set_option maxHeartbeats 2000000
namespace Law
open Dn PySem
open L2 (Key)
theorem Ph.few {i a b : Nat} (h : Ph (2 ^ 100) i a b) (hb : 0 < b) : i ≤ 201 := by
  rcases h with ⟨rfl, _⟩ | ⟨j, rfl, h1, h2⟩ | ⟨j, rfl, h1, h2⟩
  · omega
  · have : 2 ^ j < 2 ^ 100 := by
      have : 1 * 2 ^ j ≤ a * 2 ^ j := Nat.mul_le_mul_right _ (by omega)
      omega
    have := (Nat.pow_lt_pow_iff_right (by decide : 1 < 2)).mp this
    omega
  · have : 2 ^ (j + 1) < 2 ^ 100 := by
      have : 1 * 2 ^ (j + 1) ≤ b * 2 ^ (j + 1) := Nat.mul_le_mul_right _ hb
      omega
    have := (Nat.pow_lt_pow_iff_right (by decide : 1 < 2)).mp this
    omega
theorem q_eq (n d : Int) (n0 : 0 ≤ n) (n1 : n < 1000000000000) (hd : 0 < d) (d1 : d < 1000000000) : d__law_q [.val (.int n), .val (.int d)] = .ok (.val (dq (Rat.divInt n d))) [.val (.int n), .val (.int d)] := by
  refine mkF_ret (ds := [.int n, .int d]) rfl ?_
  have ed := dq_pos n d hd
  have hG : 0 < Nat.gcd n.natAbs d.natAbs := Nat.gcd_pos_of_pos_right _ (by omega)
  have hGle : Nat.gcd n.natAbs d.natAbs ≤ d.natAbs := Nat.gcd_le_right _ (by omega)
  rw [ed]
  obtain ⟨g, hg⟩ : ∃ g, g = Nat.gcd n.natAbs d.natAbs := ⟨_, rfl⟩
  rw [← hg] at hG hGle ⊢
  have f1 := fFdiv_pos (p := n) (q := (g : Int)) (by omega) (by omega)
  have f2 := fFdiv_pos (p := d) (q := (g : Int)) (by omega) (by omega)
  have e1 := rg1_ok (n := 3000) (by decide) (by decide)
  show Ret 2 _ (b__law_q [.val (.int n), .val (.int d), .emp, .emp, .emp, .emp])
  unfold b__law_q
  refine seq_nx (ρ1 := [.val (.int n), .val (.int d), .val (.int n), .emp, .emp, .emp]) (by simp; omega) ?_
  refine seq_nx (ρ1 := [.val (.int n), .val (.int d), .val (.int n), .val (.int d), .emp, .emp]) (by simp) ?_
  refine seq_for (ρ1 := [.val (.int n), .val (.int d), .val (.int n), .val (.int d), .emp, .emp]) (ds := rgD 0 3000) (by simp [e1]) ?_
  refine for_rg (fun i ρ => ∃ (a b : Nat) (s4 s5 : Sl), Nat.gcd a b = g ∧ Ph (2 ^ 100) i a b ∧ i ≤ 202 ∧ isBor s4 = false ∧ isBor s5 = false ∧ ρ = [.val (.int n), .val (.int d), .val (.int (b : Int)), .val (.int (a : Int)), s4, s5]) ⟨d.natAbs, n.natAbs, .emp, .emp, by rw [hg, Nat.gcd_comm], .inl ⟨rfl, Nat.lt_of_lt_of_le (show n.natAbs < 1000000000000 by omega) (by decide)⟩, by omega, rfl, rfl, by
    have h1 : ((n.natAbs : Nat) : Int) = n := by omega
    have h2 : ((d.natAbs : Nat) : Int) = d := by omega
    rw [h1, h2]⟩ ?_ ?_
  · rintro i hi ρ ⟨a, b, s4, s5, hgc, hph, _, n4, n5, rfl⟩
    refine ⟨_, by simp; exact gNmS_nb n4, ?_⟩
    by_cases c : b = 0
    · subst c
      rw [Nat.gcd_zero_right] at hgc
      subst hgc
      simp [f1, f2]
    · have em := fMod_pos (p := (a : Int)) (q := (b : Int)) (by omega)
      rw [← Int.natCast_emod] at em
      have hf := hph.few (by omega)
      refine FL_of (ρ := [.val (.int n), .val (.int d), .val (.int ((a % b : Nat) : Int)), .val (.int (b : Int)), .val (.int (i : Int)), .val (.int ((a % b : Nat) : Int))]) ?_ ⟨b, a % b, _, _, ?_, hph.step (by omega), by omega, rfl, rfl, rfl⟩
      · have em' : fMod (.int (a : Int)) (.int (b : Int)) = some (.val (.int ((a % b : Nat) : Int))) := em
        generalize ((a % b : Nat) : Int) = w at *
        simp [c, em', putS_nb, n5]
      · rw [← hgc, Nat.gcd_comm b, Nat.gcd_comm a b]
        exact (Nat.gcd_rec b a).symm
  · rintro ρ ⟨a, b, s4, s5, _, _, h, _⟩
    omega
end Law
set_option Elab.async false
set_option linter.all false
set_option maxRecDepth 100000
set_option maxHeartbeats 2000000
namespace Law
open Dn PySem
open L2 (Key)
/-! ### counts, reserves -/
def vals01 (C : List Pr) : Prop := ∀ p ∈ C, 0 ≤ p.2 ∧ p.2 ≤ 100000
structure Cts (C : List Pr) : Prop where
  vn : ∀ p ∈ C, isNm p.1 = true
  nd : (nms C).Nodup
  len : C.length ≤ 100
theorem tup2 (ds : List D) (h : ds.length = 2) : d_is_tuple_of [.val (.tuple ds), .val (.int 2), .val (.int 2)] = .ok (.val (.bool true)) [.val (.tuple ds), .val (.int 2), .val (.int 2)] := by
  rw [is_tuple_of_eq]
  simp [h]
def trs (A : List (List Nat)) : List (Key × D) := A.map fun o => (.inr (mk o), .bool true)
theorem any_tr (A : List (List Nat)) (o : List Nat) : ((trs A).any fun p => decide (p.1 = (.inr (mk o) : Key))) = decide (o ∈ A) := by
  unfold trs
  rw [List.any_map, Bool.eq_iff_iff, List.any_eq_true, decide_eq_true_iff]
  constructor
  · rintro ⟨a, ha, e⟩
    have e : (Sum.inr (mk a) : Key) = .inr (mk o) := of_decide_eq_true e
    rw [← kv_eq.mp e]
    exact ha
  · intro h
    exact ⟨o, h, decide_eq_true rfl⟩
theorem is_count_eq {C : List Pr} (H : Cts C) : d_is_count [.val (pt C)] = .ok (.val (.bool (C.all fun p => decide (0 ≤ p.2) && decide (p.2 ≤ 100000)))) [.val (pt C)] := by
  refine mkF_ret (ds := [pt C]) rfl ?_
  show Ret 1 _ (b_is_count [.val (pt C), .emp, .emp])
  have ei : eIt (toV (eVar 0)) [.val (pt C), .own (.dic []), .emp] = .ok (C.map fun p => pr2 p.1 p.2) [.val (pt C), .own (.dic []), .emp] := by simp [pt_iter]
  have et : isTup (pt C) = true := rfl
  generalize pt C = T at *
  unfold b_is_count
  refine seq_nx (ρ1 := [.val T, .emp, .emp]) (by simp [et]) ?_
  refine seq_nx (ρ1 := [.val T, .own (.dic []), .emp]) (by simp) ?_
  refine seq_for ei ?_
  refine for_ty (fun A ρ => ∃ s2, isBor s2 = false ∧ (A.all fun p => decide (0 ≤ p.2) && decide (p.2 ≤ 100000)) = true ∧ ρ = [.val T, .own (.dic (trs (nms A))), s2]) ⟨.emp, rfl, by simp, rfl⟩ ?_ ?_
  · rintro A ⟨o, x⟩ B ρ eL ⟨s2, n2, hall, rfl⟩
    have hin : (o, x) ∈ C := by rw [eL]; simp
    have eN : nms (A ++ [(o, x)]) = nms A ++ [o] := by simp [nms]
    have eP : nms C = nms A ++ o :: nms B := by rw [eL]; simp [nms]
    have hno : o ∉ nms A := fun h => by
      have := H.nd
      rw [eP, List.nodup_append] at this
      exact this.2.2 o h o (by simp) rfl
    have hl : (trs (nms A)).length < 16777216 := by
      have : A.length ≤ C.length := by rw [eL]; simp
      have := H.len
      simp [trs, nms]; omega
    have e2 := tup2 [.str (mk o), .int x] rfl
    have e3 := name_ok (H.vn _ hin)
    have e5 := is_whole_in_int x 0 100000
    have a1 := any_tr (nms A) o
    rw [decide_eq_false hno] at a1
    have a2 := look_some (kvs := trs (nms A)) (q := .inr (mk o))
    rw [a1] at a2
    have a3 := put_new (d := .bool true) a1
    have a4 : trs (nms (A ++ [(o, x)])) = trs (nms A) ++ [(.inr (mk o), .bool true)] := by rw [eN]; unfold trs; rw [List.map_append]; rfl
    rw [a4]
    generalize trs (nms A) = Z at *
    refine ⟨[.val T, .own (.dic Z), .val (pr2 o x)], by simp [gNmS_nb, n2], ?_⟩
    cases hq : (decide (0 ≤ x) && decide (x ≤ 100000)) with
    | true =>
      rw [hq] at e5
      refine FL_of (ρ := [.val T, .own (.dic (Z ++ [(.inr (mk o), .bool true)])), .val (pr2 o x)]) ?_ ⟨_, rfl, by rw [List.all_append, hall]; simpa using hq, rfl⟩
      simp [pr2, e2, e3, e5, a2, a3, hl]
    | false =>
      rw [hq] at e5
      have : (C.all fun p => decide (0 ≤ p.2) && decide (p.2 ≤ 100000)) = false := by
        cases e : (C.all fun p => decide (0 ≤ p.2) && decide (p.2 ≤ 100000)) with
        | false => rfl
        | true =>
          have := List.all_eq_true.mp e (o, x) hin
          rw [hq] at this
          cases this
      rw [this]
      simp [pr2, e2, e3, e5]
  · rintro ρ ⟨s2, n2, hall, rfl⟩
    rw [hall]
    simp
end Law
set_option Elab.async false
set_option linter.all false
set_option maxRecDepth 100000
set_option maxHeartbeats 2000000
namespace Law
open Dn PySem
open L2 (Key)
/-! ### the least whole number that is no less -/
def cl (q : Rat) : Int := -(-q).floor
def Rs (r : Rat) : Prop := 0 ≤ r.num ∧ r.num ≤ 1000000 ∧ r.den ≤ 1000
theorem cl_le_iff (q : Rat) (m : Int) : cl q ≤ m ↔ q ≤ (m : Rat) := by
  unfold cl
  have h : (-m ≤ (-q).floor) ↔ (((-m : Int) : Rat) ≤ -q) := Rat.le_floor_iff
  have h2 : (((-m : Int) : Rat) ≤ -q) ↔ q ≤ (m : Rat) := by
    rw [Rat.intCast_neg]
    exact Rat.neg_le_neg_iff
  rw [← h2, ← h]
  omega
theorem cl_ge (q : Rat) : q ≤ (cl q : Rat) := (cl_le_iff q _).mp (Int.le_refl _)
theorem cl_def (q : Rat) : q.num ≤ cl q * q.den ∧ (cl q - 1) * q.den < q.num := by
  have pd := q.den_pos
  have e : cl q = -(-q.num / (q.den : Int)) := by unfold cl; rw [Rat.floor_def, Rat.neg_num, Rat.neg_den]
  rw [e]
  have h1 := Int.mul_ediv_add_emod (-q.num) (q.den : Int)
  have h2 := Int.emod_nonneg (-q.num) (show (q.den : Int) ≠ 0 by omega)
  have h3 := Int.emod_lt_of_pos (-q.num) (show 0 < (q.den : Int) by omega)
  rw [Int.mul_comm] at h1
  generalize -q.num / (q.den : Int) = k at *
  rw [Int.neg_mul, Int.sub_mul, Int.neg_mul, Int.one_mul]
  omega
theorem one_add (r : Rat) : 1 + r = Rat.divInt (r.num + r.den) r.den := by
  have hd : (r.den : Int) ≠ 0 := by have := r.den_pos; omega
  have h1 : (1 : Rat) = Rat.divInt 1 1 := (Rat.divInt_self' (by decide)).symm
  have h2 : r = Rat.divInt r.num r.den := (Rat.num_divInt_den r).symm
  conv => lhs; rw [h1, h2]
  rw [Rat.divInt_add_divInt _ _ (by decide) hd]
  congr 1 <;> omega
theorem cross (x : Int) (r : Rat) : ((x : Rat) * (1 + r)).num * r.den = x * (r.num + r.den) * ((x : Rat) * (1 + r)).den := by
  have hd : (r.den : Int) ≠ 0 := by have := r.den_pos; omega
  have hq : (((x : Rat) * (1 + r)).den : Int) ≠ 0 := by have := ((x : Rat) * (1 + r)).den_pos; omega
  have hx : (x : Rat) = Rat.divInt x 1 := by
    have := (Rat.num_divInt_den (x : Rat)).symm
    simpa using this
  have e : Rat.divInt ((x : Rat) * (1 + r)).num ((x : Rat) * (1 + r)).den = Rat.divInt (x * (r.num + r.den)) r.den := by
    rw [Rat.num_divInt_den, one_add]
    conv => lhs; rw [hx]
    rw [Rat.divInt_mul_divInt, Int.one_mul]
  exact (Rat.divInt_eq_divInt_iff hq hd).mp e
theorem cl_fits (x : Int) (r : Rat) : x * (r.num + r.den) ≤ cl ((x : Rat) * (1 + r)) * r.den ∧ (cl ((x : Rat) * (1 + r)) - 1) * r.den < x * (r.num + r.den) := by
  have hc := cross x r
  obtain ⟨h1, h2⟩ := cl_def ((x : Rat) * (1 + r))
  have pd := r.den_pos
  have pq := ((x : Rat) * (1 + r)).den_pos
  generalize (x : Rat) * (1 + r) = a at *
  have pD : 0 < (r.den : Int) := by omega
  have pM : 0 < (a.den : Int) := by omega
  generalize x * (r.num + (r.den : Int)) = y at *
  generalize cl a = k at *
  generalize (r.den : Int) = D at *
  generalize (a.den : Int) = M at *
  constructor
  · have : a.num * D ≤ k * M * D := Int.mul_le_mul_of_nonneg_right h1 (by omega)
    rw [hc, Int.mul_right_comm] at this
    exact Int.le_of_mul_le_mul_right this pM
  · have : (k - 1) * M * D < a.num * D := Int.mul_lt_mul_of_pos_right h2 pD
    rw [hc, Int.mul_right_comm] at this
    exact Int.lt_of_mul_lt_mul_right this (by omega)
theorem sm_div {k : Nat} {n d : Int} (hn : Bd k n) (hd : Bd k d) (h0 : 0 < d) : Sm k (Rat.divInt n d) := by
  have eg : d.gcd n = Nat.gcd n.natAbs d.natAbs := Nat.gcd_comm _ _
  constructor
  · refine hn.le ?_
    rw [Rat.num_divInt, Int.sign_eq_one_of_pos h0, Int.one_mul, Int.natAbs_ediv_of_dvd (by rw [eg]; exact Int.ofNat_dvd_left.mpr (Nat.gcd_dvd_left _ _))]
    exact Nat.div_le_self _ _
  · refine hd.le ?_
    rw [Rat.den_divInt, if_neg (by omega)]
    show (Int.natAbs ((d.natAbs / d.gcd n : Nat) : Int)) ≤ _
    rw [Int.natAbs_natCast]
    exact Nat.div_le_self _ _
end Law
set_option Elab.async false
set_option linter.all false
set_option maxRecDepth 100000
set_option maxHeartbeats 2000000
namespace Law
open Dn PySem
open L2 (Key)
theorem bd_of {k : Nat} {p : Int} {B : Nat} (h : p.natAbs ≤ B) (hB : B < 2 ^ k) : Bd k p := Nat.lt_of_le_of_lt h hB
theorem rs_sm {r : Rat} (h : Rs r) : Sm 20 r := ⟨bd_of (B := 1000000) (by have := h.1; have := h.2.1; omega) (by decide), bd_of (B := 1000) (by have := h.2.2; omega) (by decide)⟩
theorem one_add_sm {r : Rat} (h : Rs r) : Sm 30 (1 + r) := by
  rw [one_add]
  have pd := r.den_pos
  have h1 := h.1
  have h2 := h.2.1
  have h3 := h.2.2
  exact sm_div (bd_of (B := 1001000) (by omega) (by decide)) (bd_of (B := 1000) (by omega) (by decide)) (by omega)
theorem int_sm {x : Int} (h0 : 0 ≤ x) (h1 : x ≤ 100000) : Sm 20 (x : Rat) := ⟨bd_of (B := 100000) (by simp; omega) (by decide), bd_of (B := 1) (by simp) (by decide)⟩
theorem mul_sm {a b : Rat} {k l : Nat} (ha : Sm k a) (hb : Sm l b) : Sm (k + l) (a * b) := by
  have e : a * b = Rat.divInt (a.num * b.num) (a.den * b.den) := by rw [Rat.mul_def', ← Rat.divInt_ofNat, Int.natCast_mul]
  rw [e]
  exact sm_div (ha.1.mul hb.1) (ha.2.mul hb.2) (Int.mul_pos (by have := a.den_pos; omega) (by have := b.den_pos; omega))
theorem dq_int (x : Int) : dq (x : Rat) = .tuple [.int x, .int 1] := rfl
theorem small_eq {r : Rat} (h : Rs r) : d_is_small_ratio [.val (dq r)] = .ok (.val (.bool true)) [.val (dq r)] := by
  refine mkF_ret (ds := [dq r]) rfl ?_
  have e := is_ratio_eq (dq r)
  rw [isRat_dq] at e
  have i0 := ix_dq0 r
  have i1 := ix_dq1 r
  have h1 := h.1
  have h2 := h.2.1
  have h3 := h.2.2
  generalize dq r = T at *
  simp [b_is_small_ratio, e, i0, i1]
  omega
def wr (C : List Pr) (r : Rat) : List Pr := C.map fun p => (p.1, cl ((p.2 : Rat) * (1 + r)))
theorem all_vals (C : List Pr) : (C.all fun p => decide (0 ≤ p.2) && decide (p.2 ≤ 100000)) = true ↔ vals01 C := by
  rw [List.all_eq_true]
  unfold vals01
  simp
theorem reserve_yes {C : List Pr} (H : Cts C) (hv : vals01 C) {r : Rat} (hr : Rs r) : d_with_reserve [.val (pt C), .val (dq r)] = .ok (.val (pt (wr C r))) [.val (pt C), .val (dq r)] := by
  refine mkF_ret (ds := [pt C, dq r]) rfl ?_
  have c1 := is_count_eq H
  rw [(all_vals C).mpr hv] at c1
  have c2 := small_eq hr
  have i0 := ix_dq0 r
  have hr0 := hr.1
  have c3 := plus_eq 1 r ⟨bd_of (B := 1) (by decide) (Nat.lt_of_lt_of_le (by decide : 1 < 2 ^ 10) (Nat.pow_le_pow_right (by decide) (by decide))), bd_of (B := 1) (by decide) (Nat.lt_of_lt_of_le (by decide : 1 < 2 ^ 10) (Nat.pow_le_pow_right (by decide) (by decide)))⟩ ((rs_sm hr).mono (by decide))
  have d1 : dq 1 = .tuple [.int 1, .int 1] := rfl
  rw [d1] at c3
  have s1 := one_add_sm hr
  have el : ∀ s2 s3 s4 : Sl, eIt (toV (eVar 0)) [.val (pt C), .val (dq r), s2, s3, s4] = .ok (C.map fun p => pr2 p.1 p.2) [.val (pt C), .val (dq r), s2, s3, s4] := fun _ _ _ => by simp [pt_iter]
  have ew : pt (wr C r) = .tuple (C.map fun p => pr2 p.1 (cl ((p.2 : Rat) * (1 + r)))) := by
    unfold pt wr
    rw [List.map_map]
    rfl
  have hl := H.len
  show Ret 2 _ (b_with_reserve [.val (pt C), .val (dq r), .emp, .emp, .emp])
  rw [ew]
  obtain ⟨T, hT⟩ : ∃ T, T = pt C := ⟨_, rfl⟩
  obtain ⟨R0, hR⟩ : ∃ R0, R0 = dq r := ⟨_, rfl⟩
  obtain ⟨FF, hF⟩ : ∃ F, F = dq (1 + r) := ⟨_, rfl⟩
  rw [← hR] at c2 c3 i0
  rw [← hF] at c3
  rw [← hT] at c1
  simp only [← hT, ← hR] at el ⊢
  unfold b_with_reserve
  have hn : ¬ r.num < 0 := by omega
  refine seq_nx (ρ1 := [.val T, .val R0, .emp, .emp, .emp]) (by simp [c1]) ?_
  refine seq_nx (ρ1 := [.val T, .val R0, .emp, .emp, .emp]) (by simp [c2, i0, hn]) ?_
  refine seq_nx (ρ1 := [.val T, .val R0, .val FF, .emp, .emp]) (by simp [c3]) ?_
  have e4 := lc_t0 (vs := [3, 4]) (f := fun p : Pr => pr2 p.1 (cl ((p.2 : Rat) * (1 + r)))) (g := gTp 2 (gsCons (gNm 3) (gsCons (gNm 4) (gsNil)))) (e := eOpN fTup (aCons (toV (eVar 3)) (aCons (toV (eCall 1 d_ceil_of (aCons (toV (eCall 2 d_times (aCons (toV (eOpN fTup (aCons (toV (eVar 4)) (aCons (toV (eC (.int 1))) (aNil))))) (aCons (toV (eVar 2)) (aNil))))) (aNil)))) (aNil)))) (el (.val FF) .emp .emp) (by simp) (fun p hp => ⟨[.val T, .val R0, .val FF, .val (.str (mk p.1)), .val (.int p.2)], by simp [pr2], (by
    have hx := hv p hp
    have t1 := times_eq (p.2 : Rat) (1 + r) ((int_sm hx.1 hx.2).mono (by decide)) (s1.mono (by decide))
    have t2 := ceil_eq ((p.2 : Rat) * (1 + r)) ((mul_sm (int_sm hx.1 hx.2) s1).mono (by decide))
    rw [← hF, dq_int] at t1
    have t3 : (.tuple [.str (mk p.1), .int (-(-((p.2 : Rat) * (1 + r))).floor)] : D) = pr2 p.1 (cl ((p.2 : Rat) * (1 + r))) := rfl
    rw [← t3]
    generalize dq ((p.2 : Rat) * (1 + r)) = W at *
    simp [t1, t2]), by simp⟩) (by omega) rfl
  generalize (C.map fun p => pr2 p.1 (cl ((p.2 : Rat) * (1 + r)))) = Y at *
  simp [e4]
theorem reserve_no {C : List Pr} (H : Cts C) (hv : ¬ vals01 C) (d : D) : d_with_reserve [.val (pt C), .val d] = .exc "BadBill" [.val (pt C), .val d] := by
  refine mkF_exc (ds := [pt C, d]) rfl ?_
  have c1 := is_count_eq H
  have : (C.all fun p => decide (0 ≤ p.2) && decide (p.2 ≤ 100000)) = false := by
    cases e : (C.all fun p => decide (0 ≤ p.2) && decide (p.2 ≤ 100000)) with
    | false => rfl
    | true => exact absurd ((all_vals C).mp e) hv
  rw [this] at c1
  show Exc 2 _ (b_with_reserve [.val (pt C), .val d, .emp, .emp, .emp])
  generalize pt C = T at *
  simp [b_with_reserve, c1]
theorem refuses_eq {C : List Pr} (H : Cts C) (hv : ¬ vals01 C) (d : D) : d__law_reserve_refuses [.val (pt C), .val d] = .ok (.val (.bool true)) [.val (pt C), .val d] := by
  refine mkF_ret (ds := [pt C, d]) rfl ?_
  have j := reserve_no H hv d
  show Ret 2 _ (b__law_reserve_refuses [.val (pt C), .val d, .emp])
  generalize pt C = T at *
  have e : sTryR 2 (sDrop (eCall 2 d_with_reserve (aCons (toV (eVar 0)) (aCons (toV (eVar 1)) (aNil))))) (h1 "BadBill" (.bool true)) [.val T, .val d, .emp] = .ret (.val (.bool true)) [.val T, .val d, .emp] := by
    rw [sTryR_ap]
    have e : sDrop (eCall 2 d_with_reserve (aCons (toV (eVar 0)) (aCons (toV (eVar 1)) (aNil)))) [.val T, .val d, .emp] = .exc "BadBill" [.val T, .val d, .emp] := by simp [j]
    rw [e]
    exact tryK_h1 rfl (by simp)
  unfold b__law_reserve_refuses
  rw [sSeq_ap, e]
  simp
end Law
set_option Elab.async false
set_option linter.all false
set_option maxRecDepth 100000
set_option maxHeartbeats 2000000
namespace Law
open Dn PySem
open L2 (Key)
theorem pt_ix {P : List Pr} {k : Nat} (h : k < P.length) : fIx (pt P) (.int (k : Int)) = some (.val (pr2 (nth P k ([], 0)).1 (nth P k ([], 0)).2)) := by
  unfold pt
  rw [fIx_tuple (by omega) (by rw [List.length_map]; omega), Int.toNat_natCast, nth_map (f := fun p : Pr => pr2 p.1 p.2) (d := ([], 0)) h]
theorem pt_len (P : List Pr) : fLen (pt P) = some (.val (.int (P.length : Int))) := by simp [pt]
theorem wr_len (C : List Pr) (r : Rat) : (wr C r).length = C.length := by simp [wr]
theorem wr_nth {C : List Pr} {r : Rat} {k : Nat} (h : k < C.length) : nth (wr C r) k ([], 0) = ((nth C k ([], 0)).1, cl (((nth C k ([], 0)).2 : Rat) * (1 + r))) := by
  rw [nth_lt (by rw [wr_len]; exact h), nth_lt h]
  simp [wr]
theorem fits_eq {C : List Pr} (hl : C.length ≤ 1000) {r : Rat} (hr : Rs r) : d__law_fits [.val (pt (wr C r)), .val (pt C), .val (dq r)] = .ok (.val (.bool true)) [.val (pt (wr C r)), .val (pt C), .val (dq r)] := by
  refine mkF_ret (ds := [pt (wr C r), pt C, dq r]) rfl ?_
  have l1 := pt_len (wr C r)
  rw [wr_len] at l1
  have l2 := pt_len C
  have i0 := ix_dq0 r
  have i1 := ix_dq1 r
  have t1 : isTup (pt (wr C r)) = true := rfl
  have er := rg1_ok (n := (C.length : Int)) (by omega) (by omega)
  rw [Int.toNat_natCast] at er
  have ix1 : ∀ k, k < C.length → fIx (pt (wr C r)) (.int (k : Int)) = some (.val (pr2 (nth C k ([], 0)).1 (cl (((nth C k ([], 0)).2 : Rat) * (1 + r))))) := fun k hk => by
    rw [pt_ix (by rw [wr_len]; exact hk), wr_nth hk]
  have ix2 : ∀ k, k < C.length → fIx (pt C) (.int (k : Int)) = some (.val (pr2 (nth C k ([], 0)).1 (nth C k ([], 0)).2)) := fun k hk => pt_ix hk
  have h1 := hr.1
  have h2 := hr.2.1
  have h3 := hr.2.2
  show Ret 3 _ (b__law_fits [.val (pt (wr C r)), .val (pt C), .val (dq r), .emp, .emp, .emp])
  generalize pt (wr C r) = A at *
  generalize pt C = B at *
  generalize dq r = R0 at *
  unfold b__law_fits
  refine seq_nx (ρ1 := [.val A, .val B, .val R0, .emp, .emp, .emp]) (by simp [t1, l1, l2]) ?_
  refine seq_nx (ρ1 := [.val A, .val B, .val R0, .val (.int (r.num + r.den)), .emp, .emp]) (by simp [i0, i1]) ?_
  refine seq_for (ρ1 := [.val A, .val B, .val R0, .val (.int (r.num + r.den)), .emp, .emp]) (ds := rgD 0 C.length) (by simp [l2, er]) ?_
  refine for_rg (fun i ρ => ∃ s4 s5, isBor s4 = false ∧ isBor s5 = false ∧ ρ = [.val A, .val B, .val R0, .val (.int (r.num + r.den)), s4, s5]) ⟨.emp, .emp, rfl, rfl, rfl⟩ ?_ ?_
  · rintro k hk ρ ⟨s4, s5, n4, n5, rfl⟩
    have x1 := ix1 k hk
    have x2 := ix2 k hk
    obtain ⟨f1, f2⟩ := cl_fits (nth C k ([], 0)).2 r
    generalize cl (((nth C k ([], 0)).2 : Rat) * (1 + r)) = K at *
    generalize (nth C k ([], 0)).2 = x at *
    generalize (nth C k ([], 0)).1 = o at *
    have y0 : fIx (pr2 o K) (.int 0) = some (.val (.str (mk o))) := by simp [pr2]
    have y1 : fIx (pr2 o K) (.int 1) = some (.val (.int K)) := by simp [pr2]
    have z0 : fIx (pr2 o x) (.int 0) = some (.val (.str (mk o))) := by simp [pr2]
    have z1 : fIx (pr2 o x) (.int 1) = some (.val (.int x)) := by simp [pr2]
    have yl : fLen (pr2 o K) = some (.val (.int 2)) := rfl
    have yt : isTup (pr2 o K) = true := rfl
    have m1 := fMul_r (p := K) (q := (r.den : Int)) (by omega) (by omega)
    have m2 := fMul_r (p := x) (q := r.num + r.den) (by omega) (by omega)
    have m3 := fMul_r (p := K - 1) (q := (r.den : Int)) (by omega) (by omega)
    refine ⟨_, by simp; exact gNmS_nb n4, ?_⟩
    generalize pr2 o K = PK at *
    generalize pr2 o x = PX at *
    refine seq_nx (ρ1 := [.val A, .val B, .val R0, .val (.int (r.num + r.den)), .val (.int k), .val PK]) (by simp [x1, putS_nb, n5]) ?_
    refine seq_nx (ρ1 := [.val A, .val B, .val R0, .val (.int (r.num + r.den)), .val (.int k), .val PK]) (by simp [yt, yl, y0, x2, z0]) ?_
    refine seq_nx (ρ1 := [.val A, .val B, .val R0, .val (.int (r.num + r.den)), .val (.int k), .val PK]) (by simp [y1, isInt, isBool]) ?_
    exact FL_of (ρ := [.val A, .val B, .val R0, .val (.int (r.num + r.den)), .val (.int k), .val PK]) (by
      have g1 : ¬ K * (r.den : Int) < x * (r.num + r.den) := by omega
      have g2 : ¬ x * (r.num + r.den) ≤ (K - 1) * (r.den : Int) := by omega
      simp [y1, i1, x2, z1, m1, m2, m3, g1, g2]) ⟨_, _, rfl, rfl, rfl⟩
  · rintro ρ ⟨s4, s5, n4, n5, rfl⟩
    simp
/-! ### draws of reserves -/
theorem rs_div {n d : Int} (n0 : 0 ≤ n) (n1 : n ≤ 1000000) (hd : 0 < d) (d1 : d ≤ 1000) : Rs (Rat.divInt n d) := by
  have eg : d.gcd n = Nat.gcd n.natAbs d.natAbs := Nat.gcd_comm _ _
  have hG : 0 < Nat.gcd n.natAbs d.natAbs := Nat.gcd_pos_of_pos_right _ (by omega)
  have e1 : (Rat.divInt n d).num = n / (Nat.gcd n.natAbs d.natAbs : Nat) := by rw [Rat.num_divInt, eg, Int.sign_eq_one_of_pos hd, Int.one_mul]
  refine ⟨?_, ?_, ?_⟩
  · rw [e1]; exact Int.ediv_nonneg n0 (by omega)
  · rw [e1]
    exact Int.le_trans (Int.ediv_le_self _ n0) n1
  · rw [Rat.den_divInt, if_neg (by omega)]
    have := Nat.div_le_self d.natAbs (d.gcd n)
    omega
theorem rs_zero : Rs 0 := ⟨by decide, by decide, by decide⟩
theorem reserve_eq {j : List D} (hj : Jar j) : ∃ x : Rat × List D, (Rs x.1 ∧ Jar x.2) ∧ d__law_reserve [.bor (.lst j)] = .ok (.val (dq x.1)) [.bor (.lst x.2)] := by
  refine mkF_exB (n := 1) (m := 2) (ds := []) (f := fun x : Rat × List D => .val (dq x.1)) (g := fun x => .lst x.2) rfl ?_
  show ExB 0 _ _ _ (b__law_reserve [.bor (.lst j), .emp])
  unfold b__law_reserve
  obtain ⟨⟨kd, j1⟩, ⟨bk, hj1⟩, e1⟩ := draw_eq hj 4 (by decide) (by decide)
  dsimp only at bk hj1 e1
  refine seq_nx (ρ1 := [.bor (.lst j1), .val (.int kd)]) (by simp [e1]) ?_
  have : kd = 0 ∨ kd = 1 ∨ kd = 2 ∨ kd = 3 := by omega
  rcases this with rfl | rfl | rfl | rfl
  · exact ExB_ret (r := .val (dq 0)) (c := .lst j1) (ρ := [.val (.int 0)]) (by
      have : dq 0 = .tuple [.int 0, .int 1] := rfl
      rw [this]
      simp) (0, j1) ⟨rs_zero, hj1⟩ rfl rfl (by simp)
  · obtain ⟨⟨n, j2⟩, ⟨bn, hj2⟩, e2⟩ := draw_eq hj1 10 (by decide) (by decide)
    obtain ⟨⟨d, j3⟩, ⟨bd, hj3⟩, e3⟩ := draw_eq hj2 9 (by decide) (by decide)
    dsimp only at bn hj2 e2 bd hj3 e3
    have q := q_eq n (1 + d) bn.1 (by omega) (by omega) (by omega)
    exact ExB_ret (r := .val (dq (Rat.divInt n (1 + d)))) (c := .lst j3) (ρ := [.val (.int 1)]) (by
      generalize dq (Rat.divInt n (1 + d)) = W at *
      simp [e2, e3, q]) (Rat.divInt n (1 + d), j3) ⟨rs_div bn.1 (by omega) (by omega) (by omega), hj3⟩ rfl rfl (by simp)
  · obtain ⟨⟨n, j2⟩, ⟨bn, hj2⟩, e2⟩ := draw_eq hj1 1000001 (by decide) (by decide)
    dsimp only at bn hj2 e2
    have q := q_eq n 1000 bn.1 (by omega) (by omega) (by omega)
    exact ExB_ret (r := .val (dq (Rat.divInt n 1000))) (c := .lst j2) (ρ := [.val (.int 2)]) (by
      generalize dq (Rat.divInt n 1000) = W at *
      simp [e2, q]) (Rat.divInt n 1000, j2) ⟨rs_div bn.1 (by omega) (by omega) (by omega), hj2⟩ rfl rfl (by simp)
  · obtain ⟨⟨n, j2⟩, ⟨bn, hj2⟩, e2⟩ := draw_eq hj1 2000 (by decide) (by decide)
    obtain ⟨⟨d, j3⟩, ⟨bd, hj3⟩, e3⟩ := draw_eq hj2 1000 (by decide) (by decide)
    dsimp only at bn hj2 e2 bd hj3 e3
    have q := q_eq n (1 + d) bn.1 (by omega) (by omega) (by omega)
    exact ExB_ret (r := .val (dq (Rat.divInt n (1 + d)))) (c := .lst j3) (ρ := [.val (.int 3)]) (by
      generalize dq (Rat.divInt n (1 + d)) = W at *
      simp [e2, e3, q]) (Rat.divInt n (1 + d), j3) ⟨rs_div bn.1 (by omega) (by omega) (by omega), hj3⟩ rfl rfl (by simp)
end Law
set_option Elab.async false
set_option linter.all false
set_option maxRecDepth 100000
set_option maxHeartbeats 2000000
namespace Law
open Dn PySem
open L2 (Key)
theorem cl_nn {x : Int} {r : Rat} (hx : 0 ≤ x) (hr : Rs r) : 0 ≤ cl ((x : Rat) * (1 + r)) := by
  have h := (cl_fits x r).1
  have pd := r.den_pos
  have h0 := hr.1
  have h1 : 0 ≤ x * (r.num + r.den) := Int.mul_nonneg hx (by omega)
  have h2 : 0 * (r.den : Int) ≤ cl ((x : Rat) * (1 + r)) * r.den := by omega
  exact Int.le_of_mul_le_mul_right h2 (by omega)
theorem rat_nn {r : Rat} (hr : Rs r) : 0 ≤ r := Rat.num_nonneg.mp hr.1
theorem twice_ge {x : Int} (hx : 0 ≤ x) {r s : Rat} (hr : Rs r) (hs : Rs s) : cl ((x : Rat) * (1 + (r + s))) ≤ cl ((cl ((x : Rat) * (1 + r)) : Rat) * (1 + s)) := by
  rw [cl_le_iff]
  have r0 := rat_nn hr
  have s0 := rat_nn hs
  have x0 : (0 : Rat) ≤ (x : Rat) := by
    have : ((0 : Int) : Rat) ≤ (x : Rat) := Rat.intCast_le_intCast.mpr hx
    simpa using this
  have h1 := cl_ge ((x : Rat) * (1 + r))
  have h2 := cl_ge ((cl ((x : Rat) * (1 + r)) : Rat) * (1 + s))
  generalize (cl ((cl ((x : Rat) * (1 + r)) : Rat) * (1 + s)) : Rat) = T at *
  generalize (cl ((x : Rat) * (1 + r)) : Rat) = K at *
  generalize (x : Rat) = X at *
  have s1 : (0 : Rat) ≤ 1 + s := by grind
  have h3 : X * (1 + r) * (1 + s) ≤ K * (1 + s) := Rat.mul_le_mul_of_nonneg_right h1 s1
  have h4 : (0 : Rat) ≤ X * (r * s) := Rat.mul_nonneg x0 (Rat.mul_nonneg r0 s0)
  have h5 : X * (1 + r) * (1 + s) = X * (1 + (r + s)) + X * (r * s) := by grind
  grind
theorem wr_cts {C : List Pr} (H : Cts C) (r : Rat) : Cts (wr C r) := ⟨fun p hp => by
    obtain ⟨q, hq, rfl⟩ := List.mem_map.mp hp
    exact H.vn q hq, by
    have : nms (wr C r) = nms C := by unfold nms wr; rw [List.map_map]; rfl
    rw [this]; exact H.nd, by rw [wr_len]; exact H.len⟩
theorem max_wr (C : List Pr) : ∃ M : Int, (100000 < M → ∃ p ∈ C, 100000 < p.2) ∧ (∀ p ∈ C, p.2 ≤ M) ∧ fMax1 (.list (.int 0 :: C.map fun p => .int p.2)) = some (.val (.int M)) := by
  have e : (PyData.int 0 :: C.map fun p => .int p.2) = (0 :: C.map (·.2)).map .int := by rw [List.map_cons, List.map_map]; rfl
  have sp := maxL_spec (ns := 0 :: C.map (·.2)) (by simp)
  refine ⟨maxL (0 :: C.map (·.2)), fun h => ?_, fun p hp => sp.2 _ (List.mem_cons_of_mem _ (List.mem_map.mpr ⟨p, hp, rfl⟩)), ?_⟩
  · have h1 := sp.1
    generalize maxL (0 :: C.map (·.2)) = M at *
    rcases List.mem_cons.mp h1 with h1 | h1
    · omega
    · obtain ⟨p, hp, rfl⟩ := List.mem_map.mp h1
      exact ⟨p, hp, h⟩
  · rw [e]
    show (intsD _).bind _ = _
    rw [intsD_map]
    show (if 0 < (0 :: C.map (·.2)).length then some (R.val (.int (maxL (0 :: C.map (·.2))))) else none) = _
    rw [if_pos (by simp)]
theorem told_eq {C : List Pr} (H : Cts C) (hv : vals01 C) {j : List D} (hj : Jar j) : ∃ j', Jar j' ∧ d__law_reserves_told [.bor (.lst j), .val (pt C)] = .ok (.val (.bool true)) [.bor (.lst j'), .val (pt C)] := by
  refine mkF_exB (n := 2) (m := 10) (ds := [pt C]) (φ := Jar) (f := fun _ => .val (.bool true)) (g := fun j => .lst j) rfl ?_
  show ExB 1 _ _ _ (b__law_reserves_told [.bor (.lst j), .val (pt C), .emp, .emp, .emp, .emp, .emp, .emp, .emp, .emp])
  obtain ⟨⟨r, j1⟩, ⟨hr, hj1⟩, e1⟩ := reserve_eq hj
  obtain ⟨⟨s, j2⟩, ⟨hs, hj2⟩, e2⟩ := reserve_eq hj1
  dsimp only at hr hj1 e1 hs hj2 e2
  have hl := H.len
  have w1 := reserve_yes H hv hr
  have w2 := reserve_yes H hv hs
  have f1 := fits_eq (C := C) (by omega) hr
  have f2 := fits_eq (C := C) (by omega) hs
  have ir0 := ix_dq0 r
  have ir1 := ix_dq1 r
  have is0 := ix_dq0 s
  have is1 := ix_dq1 s
  have r0 := hr.1
  have r1 := hr.2.1
  have r2 := hr.2.2
  have s0 := hs.1
  have s1 := hs.2.1
  have s2 := hs.2.2
  have pr := r.den_pos
  have ps := s.den_pos
  have m1 := fMul_r (p := r.num) (q := (s.den : Int)) (by omega) (by omega)
  have m2 := fMul_r (p := s.num) (q := (r.den : Int)) (by omega) (by omega)
  have m3 := fMul_r (p := (r.den : Int)) (q := (s.den : Int)) (by omega) (by omega)
  have b1 : 0 ≤ r.num * (s.den : Int) ∧ r.num * (s.den : Int) ≤ 1000000000 := ⟨Int.mul_nonneg r0 (by omega), Int.le_trans (Int.mul_le_mul r1 (show (s.den : Int) ≤ 1000 by omega) (by omega) (by decide)) (by decide)⟩
  have b2 : 0 ≤ s.num * (r.den : Int) ∧ s.num * (r.den : Int) ≤ 1000000000 := ⟨Int.mul_nonneg s0 (by omega), Int.le_trans (Int.mul_le_mul s1 (show (r.den : Int) ≤ 1000 by omega) (by omega) (by decide)) (by decide)⟩
  have b3 : 0 < (r.den : Int) * (s.den : Int) ∧ (r.den : Int) * (s.den : Int) ≤ 1000000 := ⟨Int.mul_pos (by omega) (by omega), Int.le_trans (Int.mul_le_mul (show (r.den : Int) ≤ 1000 by omega) (show (s.den : Int) ≤ 1000 by omega) (by omega) (by decide)) (by decide)⟩
  have q1 := q_eq (r.num * (s.den : Int) + s.num * (r.den : Int)) ((r.den : Int) * (s.den : Int)) (by omega) (by omega) b3.1 (by omega)
  have eb : Rat.divInt (r.num * s.den + s.num * r.den) (r.den * s.den) = r + s := by rw [Rat.add_def', ← Rat.divInt_ofNat, Int.natCast_mul]
  have n0 : 0 ≤ (r + s).num := by
    have := rat_nn hr
    have := rat_nn hs
    exact Rat.num_nonneg.mpr (by grind)
  rw [eb] at q1
  have ib0 := ix_dq0 (r + s)
  have ib1 := ix_dq1 (r + s)
  obtain ⟨M, M1, M2, M3⟩ := max_wr (wr C r)
  have em : fAdd (.list [.int 0]) (.list ((wr C r).map fun p => .int p.2)) = some (.fresh (.lst (.int 0 :: (wr C r).map fun p => .int p.2))) := by
    rw [fAdd_list (by rw [List.length_map, wr_len]; simp; omega)]
    rfl
  have ei : ∀ (T0 A B E : D) (s6 s7 s8 : Sl), eIt (toV (eVar 5)) [.bor (.lst j2), .val T0, .val A, .val B, .val E, .val (pt (wr C r)), s6, s7, s8, .emp] = .ok ((wr C r).map fun p => pr2 p.1 p.2) [.bor (.lst j2), .val T0, .val A, .val B, .val E, .val (pt (wr C r)), s6, s7, s8, .emp] := fun _ _ _ _ _ _ _ => by simp [pt_iter]
  have HW := wr_cts H r
  have no := fun h => refuses_eq HW h (dq s)
  have tw := fun h => reserve_yes HW h hs
  have ft := fits_eq (C := wr C r) (by rw [wr_len]; omega) hs
  have vw : M ≤ 100000 → vals01 (wr C r) := fun h p hp => by
    have h2 := M2 p hp
    obtain ⟨q, hq, rfl⟩ := List.mem_map.mp hp
    exact ⟨cl_nn (hv q hq).1 hr, by omega⟩
  have nw : 100000 < M → ¬ vals01 (wr C r) := fun h z => by
    obtain ⟨p, hp, h1⟩ := M1 h
    have := (z p hp).2
    omega
  have tb := fun h : Rs (r + s) => reserve_yes H hv h
  have fb := fun h : Rs (r + s) => fits_eq (C := C) (by omega) h
  have x1 : ∀ k, k < C.length → fIx (pt (wr C (r + s))) (.int (k : Int)) = some (.val (pr2 (nth C k ([], 0)).1 (cl (((nth C k ([], 0)).2 : Rat) * (1 + (r + s)))))) := fun k hk => by
    rw [pt_ix (by rw [wr_len]; exact hk), wr_nth hk]
  have x2 : ∀ k, k < C.length → fIx (pt (wr (wr C r) s)) (.int (k : Int)) = some (.val (pr2 (nth C k ([], 0)).1 (cl ((cl (((nth C k ([], 0)).2 : Rat) * (1 + r)) : Rat) * (1 + s))))) := fun k hk => by
    rw [pt_ix (by rw [wr_len, wr_len]; exact hk), wr_nth (by rw [wr_len]; exact hk), wr_nth hk]
  have x3 : ∀ k, k < C.length → ¬ cl ((cl (((nth C k ([], 0)).2 : Rat) * (1 + r)) : Rat) * (1 + s)) < cl (((nth C k ([], 0)).2 : Rat) * (1 + (r + s))) := fun k hk => by
    have := twice_ge (hv _ (nth_mem (d := ([], 0)) hk)).1 hr hs
    omega
  have lb := pt_len (wr C (r + s))
  rw [wr_len] at lb
  have er := rg1_ok (n := (C.length : Int)) (by omega) (by omega)
  rw [Int.toNat_natCast, rgD_nat] at er
  obtain ⟨PC, hPC⟩ : ∃ X, X = pt C := ⟨_, rfl⟩
  obtain ⟨PW, hPW⟩ : ∃ X, X = pt (wr C r) := ⟨_, rfl⟩
  obtain ⟨PS, hPS⟩ : ∃ X, X = pt (wr C s) := ⟨_, rfl⟩
  obtain ⟨PT, hPT⟩ : ∃ X, X = pt (wr (wr C r) s) := ⟨_, rfl⟩
  obtain ⟨PB, hPB⟩ : ∃ X, X = pt (wr C (r + s)) := ⟨_, rfl⟩
  obtain ⟨R1, hR1⟩ : ∃ X, X = dq r := ⟨_, rfl⟩
  obtain ⟨R2, hR2⟩ : ∃ X, X = dq s := ⟨_, rfl⟩
  obtain ⟨R3, hR3⟩ : ∃ X, X = dq (r + s) := ⟨_, rfl⟩
  simp only [← hPC, ← hPW, ← hPS, ← hPT, ← hPB, ← hR1, ← hR2, ← hR3] at e1 e2 w1 w2 f1 f2 ir0 ir1 is0 is1 q1 ib0 ib1 ei no tw ft tb fb x1 x2 lb ⊢
  clear hPC hPW hPS hPT hPB hR1 hR2 hR3
  unfold b__law_reserves_told
  refine seq_nx (ρ1 := [.bor (.lst j1), .val PC, .val R1, .emp, .emp, .emp, .emp, .emp, .emp, .emp]) (by simp [e1]) ?_
  refine seq_nx (ρ1 := [.bor (.lst j2), .val PC, .val R1, .val R2, .emp, .emp, .emp, .emp, .emp, .emp]) (by simp [e2]) ?_
  refine seq_nx (ρ1 := [.bor (.lst j2), .val PC, .val R1, .val R2, .val R3, .emp, .emp, .emp, .emp, .emp]) (by simp [ir0, ir1, is0, is1, m1, m2, m3, q1]) ?_
  refine seq_nx (ρ1 := [.bor (.lst j2), .val PC, .val R1, .val R2, .val R3, .val PW, .emp, .emp, .emp, .emp]) (by simp [w1]) ?_
  refine seq_nx (ρ1 := [.bor (.lst j2), .val PC, .val R1, .val R2, .val R3, .val PW, .emp, .emp, .emp, .emp]) (by simp [f1, w2, f2]) ?_
  have e9 := lc_t0 (vs := [9]) (f := fun p : Pr => .int p.2) (g := gNm 9) (e := eIxV 9 (toV (eC (.int 1)))) (ei PC R1 R2 R3 .emp .emp .emp) (by simp) (fun p hp => ⟨_, by simp [pr2]; rfl, by simp, by simp⟩) (by rw [wr_len]; omega) rfl
  by_cases hM : 100000 < M
  · have no := no (nw hM)
    have es : sIf (tBoolD (eOp2 fGt (toV (eOp1 fMax1 (toV (eOp2 fAdd (toV (eOpN fLst (aCons (toV (eC (.int 0))) (aNil)))) (toV (eLc [9] (eIt (toV (eVar 5))) (gNm 9) (tTrue) (eIxV 9 (toV (eC (.int 1)))))))))) (toV (eC (.int 100000))))) (sRet (eCall 2 d__law_reserve_refuses (aCons (toV (eVar 5)) (aCons (toV (eVar 3)) (aNil))))) (sNil) [.bor (.lst j2), .val PC, .val R1, .val R2, .val R3, .val PW, .emp, .emp, .emp, .emp] = .ret (.val (.bool true)) [.bor (.lst j2), .val PC, .val R1, .val R2, .val R3, .val PW, .emp, .emp, .emp, .emp] := by
      generalize (wr C r).map (fun p => PyData.int p.2) = Z at *
      simp [e9, em, M3, hM, no]
    rw [sSeq_ap, es]
    exact ExB_ret (ρ := [.val PC, .val R1, .val R2, .val R3, .val PW, .emp, .emp, .emp, .emp]) rfl j2 hj2 rfl rfl (by simp)
  · have tw := tw (vw (by omega))
    refine seq_nx (ρ1 := [.bor (.lst j2), .val PC, .val R1, .val R2, .val R3, .val PW, .emp, .emp, .emp, .emp]) (by
      generalize (wr C r).map (fun p => PyData.int p.2) = Z at *
      simp [e9, em, M3, hM]) ?_
    refine seq_nx (ρ1 := [.bor (.lst j2), .val PC, .val R1, .val R2, .val R3, .val PW, .val PT, .emp, .emp, .emp]) (by simp [tw]) ?_
    refine seq_nx (ρ1 := [.bor (.lst j2), .val PC, .val R1, .val R2, .val R3, .val PW, .val PT, .emp, .emp, .emp]) (by simp [ft]) ?_
    by_cases hB : (r + s).num ≤ 1000000 ∧ (r + s).den ≤ 1000
    · have hRB : Rs (r + s) := ⟨n0, hB.1, hB.2⟩
      have tb := tb hRB
      have fb := fb hRB
      have g1 : ¬ 1000000 < (r + s).num := by omega
      have g2 : ¬ (1000 : Int) < ((r + s).den : Int) := by omega
      refine seq_nx (ρ1 := [.bor (.lst j2), .val PC, .val R1, .val R2, .val R3, .val PW, .val PT, .emp, .emp, .emp]) (by simp [ib0, ib1, g1, g2]) ?_
      refine seq_nx (ρ1 := [.bor (.lst j2), .val PC, .val R1, .val R2, .val R3, .val PW, .val PT, .val PB, .emp, .emp]) (by simp [tb]) ?_
      refine seq_nx (ρ1 := [.bor (.lst j2), .val PC, .val R1, .val R2, .val R3, .val PW, .val PT, .val PB, .emp, .emp]) (by simp [fb]) ?_
      have e8 := lc_f0 (vs := [8]) (L := List.range C.length) (inj := fun k => .int (k : Nat)) (f := fun k => .int (k : Nat)) (p := fun _ => false) (mi := eRg1 (toV (eOp1 fLen (ePk 7)))) (g := gNm 8) (t := tBoolD (eOp2 fGt (toV (eOp2 fIx (toV (eIxV 7 (toV (eVar 8)))) (toV (eC (.int 1))))) (toV (eOp2 fIx (toV (eIxV 6 (toV (eVar 8)))) (toV (eC (.int 1))))))) (e := eVar 8)
        (ρ := [.bor (.lst j2), .val PC, .val R1, .val R2, .val R3, .val PW, .val PT, .val PB, .emp, .emp]) (by simp [lb, er]) (by simp) (fun k hk => ⟨[.bor (.lst j2), .val PC, .val R1, .val R2, .val R3, .val PW, .val PT, .val PB, .val (.int k), .emp], by simp, (by
          have hk := List.mem_range.mp hk
          have y1 := x1 k hk
          have y2 := x2 k hk
          have y3 := x3 k hk
          generalize cl (((nth C k ([], 0)).2 : Rat) * (1 + (r + s))) = U at *
          generalize cl ((cl (((nth C k ([], 0)).2 : Rat) * (1 + r)) : Rat) * (1 + s)) = V at *
          simp [y1, y2, y3, pr2]), (fun h => by cases h), by simp⟩) (by simp; omega) rfl
      rw [List.filter_eq_nil_iff.mpr (by simp), List.map_nil] at e8
      exact ExB_ret (r := .val (.bool true)) (c := .lst j2) (ρ := [.val PC, .val R1, .val R2, .val R3, .val PW, .val PT, .val PB, .emp, .emp]) (by simp [e8]) j2 hj2 rfl rfl (by simp)
    · have es : sIf (tOrD (tBoolD (eOp2 fGt (toV (eIxV 4 (toV (eC (.int 0))))) (toV (eC (.int 1000000))))) (tBoolD (eOp2 fGt (toV (eIxV 4 (toV (eC (.int 1))))) (toV (eC (.int 1000)))))) (sRet (eC (.bool true))) (sNil) [.bor (.lst j2), .val PC, .val R1, .val R2, .val R3, .val PW, .val PT, .emp, .emp, .emp] = .ret (.val (.bool true)) [.bor (.lst j2), .val PC, .val R1, .val R2, .val R3, .val PW, .val PT, .emp, .emp, .emp] := by
        by_cases g1 : 1000000 < (r + s).num
        · simp [ib0, g1]
        · have g2 : (1000 : Int) < ((r + s).den : Int) := by omega
          simp [ib0, ib1, g1, g2]
      rw [sSeq_ap, es]
      exact ExB_ret (ρ := [.val PC, .val R1, .val R2, .val R3, .val PW, .val PT, .emp, .emp, .emp]) rfl j2 hj2 rfl rfl (by simp)
end Law
set_option Elab.async false
set_option linter.all false
set_option maxRecDepth 100000
set_option maxHeartbeats 2000000
namespace Law
open Dn PySem
open L2 (Key)
theorem nms_take_nodup {N : List (List Nat)} (h : N.Nodup) (m : Nat) : (N.take m).Nodup := (List.take_sublist _ _).nodup h
theorem count_eq (ns : List Int) {N : List (List Nat)} (hN : N.length = 20) (nd : N.Nodup) (hv : ∀ z ∈ N, isNm z = true) : ∃ C : List Pr, (Cts C ∧ vals01 C ∧ C.length ≤ 20) ∧ d__law_count [.val (script ns), .val (.list (N.map nmD))] = .ok (.val (pt C)) [.val (script ns), .val (.list (N.map nmD))] := by
  refine mkF_ex (ds := [script ns, .list (N.map nmD)]) (f := fun C : List Pr => .val (pt C)) rfl ?_
  obtain ⟨j0, hj0, e0⟩ := jar_eq ns 42 (by decide) (by decide)
  have hcut : ∀ m : Nat, fSl (.list (N.map nmD)) none (some (m : Int)) = some (.fresh (.lst ((N.take m).map nmD))) := fun m => by
    rw [fSl_list, cut_hi (by omega), Int.toNat_natCast, List.map_take]
  obtain ⟨S, hS⟩ : ∃ S, S = script ns := ⟨_, rfl⟩
  rw [← hS] at e0 ⊢
  clear hS
  show ExRet 2 _ _ (b__law_count [.val S, .val (.list (N.map nmD)), .emp, .emp, .emp, .emp])
  generalize N.map nmD = NN at *
  unfold b__law_count
  refine seq_nx (ρ1 := [.val S, .val (.list NN), .own (.lst j0), .emp, .emp, .emp]) (by simp [e0]) ?_
  obtain ⟨⟨d1, j1⟩, ⟨b1, hj1⟩, e1⟩ := draw_eq hj0 3 (by decide) (by decide)
  dsimp only at b1 hj1 e1
  have ht : ∃ t : Int, (0 < t ∧ t ≤ 100001) ∧ fIx (.list [.int 4, .int 60, .int 100001]) (.int d1) = some (.val (.int t)) := by
    have : d1 = 0 ∨ d1 = 1 ∨ d1 = 2 := by omega
    rcases this with rfl | rfl | rfl
    · exact ⟨4, by decide, by simp⟩
    · exact ⟨60, by decide, by simp⟩
    · exact ⟨100001, by decide, by simp⟩
  obtain ⟨t, bt, it⟩ := ht
  refine seq_nx (ρ1 := [.val S, .val (.list NN), .own (.lst j1), .val (.int t), .emp, .emp]) (by simp [e1, it]) ?_
  refine seq_nx (ρ1 := [.val S, .val (.list NN), .own (.lst j1), .val (.int t), .own (.lst []), .emp]) (by simp) ?_
  obtain ⟨⟨d2, j2⟩, ⟨b2, hj2⟩, e2⟩ := draw_eq hj1 21 (by decide) (by decide)
  dsimp only at b2 hj2 e2
  obtain ⟨⟨d3, j3⟩, ⟨b3, hj3⟩, e3⟩ := draw_eq hj2 3 (by decide) (by decide)
  dsimp only at b3 hj3 e3
  have hm : ∃ m : Nat, m ≤ 20 ∧ fIx (.list [.int 3, .int d2, .int 20]) (.int d3) = some (.val (.int (m : Int))) := by
    have : d3 = 0 ∨ d3 = 1 ∨ d3 = 2 := by omega
    rcases this with rfl | rfl | rfl
    · exact ⟨3, by decide, by simp⟩
    · exact ⟨d2.toNat, by omega, by simp; omega⟩
    · exact ⟨20, by decide, by simp⟩
  obtain ⟨m, hm, im⟩ := hm
  have hcut := hcut m
  refine seq_for (ρ1 := [.val S, .val (.list NN), .own (.lst j3), .val (.int t), .own (.lst []), .emp]) (ds := (N.take m).map nmD) (by simp [e2, e3, im, hcut]) ?_
  refine for_ty (fun A ρ => ∃ (C : List Pr) (j : List D) (s5 : Sl), isBor s5 = false ∧ nms C = A ∧ vals01 C ∧ Jar j ∧ ρ = [.val S, .val (.list NN), .own (.lst j), .val (.int t), .own (.lst (C.map fun p => pr2 p.1 p.2)), s5]) ⟨[], j3, .emp, rfl, rfl, by intro p hp; simp at hp, hj3, rfl⟩ ?_ ?_
  · rintro A o B ρ eL ⟨C, j, s5, n5, eC, hC, hj, rfl⟩
    obtain ⟨⟨x1, ja⟩, ⟨bx, hja⟩, ex⟩ := draw_eq hj t bt.1 (by omega)
    dsimp only at bx hja ex
    obtain ⟨⟨x2, jb⟩, ⟨bw, hjb⟩, ew⟩ := draw_eq hja 4 (by decide) (by decide)
    dsimp only at bw hjb ew
    have hx : ∃ v : Int, (0 ≤ v ∧ v ≤ 100000) ∧ fIx (.list [.int x1, .int 100000, .int 0, .int 1]) (.int x2) = some (.val (.int v)) := by
      have : x2 = 0 ∨ x2 = 1 ∨ x2 = 2 ∨ x2 = 3 := by omega
      rcases this with rfl | rfl | rfl | rfl
      · exact ⟨x1, by omega, by simp⟩
      · exact ⟨100000, by decide, by simp⟩
      · exact ⟨0, by decide, by simp⟩
      · exact ⟨1, by decide, by simp⟩
    obtain ⟨v, bv, iv⟩ := hx
    have hlA : A.length ≤ 20 := by
      have := congrArg List.length eL
      simp at this
      omega
    have hl : (C.map fun p => pr2 p.1 p.2).length < 16777216 := by
      have : (nms C).length = A.length := by rw [eC]
      simp [nms] at this
      rw [List.length_map]
      omega
    refine ⟨[.val S, .val (.list NN), .own (.lst j), .val (.int t), .own (.lst (C.map fun p => pr2 p.1 p.2)), .val (nmD o)], by simp [gNmS_nb, n5], ?_⟩
    refine FL_of (ρ := [.val S, .val (.list NN), .own (.lst jb), .val (.int t), .own (.lst ((C ++ [(o, v)]).map fun p => pr2 p.1 p.2)), .val (nmD o)]) ?_ ⟨C ++ [(o, v)], jb, _, rfl, by rw [← eC]; simp [nms], fun p hp => by
      rcases List.mem_append.mp hp with hp | hp
      · exact hC p hp
      · simp at hp; rw [hp]; exact bv, hjb, rfl⟩
    have ea : (C ++ [(o, v)]).map (fun p => pr2 p.1 p.2) = C.map (fun p => pr2 p.1 p.2) ++ [.tuple [nmD o, .int v]] := by rw [List.map_append]; rfl
    rw [ea]
    generalize C.map (fun p => pr2 p.1 p.2) = Z at *
    generalize nmD o = O at *
    simp [ex, ew, iv, hl]
  · rintro ρ ⟨C, j, s5, n5, eC, hC, hj, rfl⟩
    refine ExRet_ret (r := .val (pt C)) (ρ := [.val S, .val (.list NN), .own (.lst j), .val (.int t), .own (.lst (C.map fun p => pr2 p.1 p.2)), s5]) ?_ C ⟨⟨fun p hp => hv p.1 (List.mem_of_mem_take (i := m) (by rw [← eC]; exact List.mem_map.mpr ⟨p, hp, rfl⟩)), by rw [eC]; exact nms_take_nodup nd m, by
      have : (nms C).length = (N.take m).length := by rw [eC]
      simp [nms] at this
      omega⟩, hC, by
      have : (nms C).length = (N.take m).length := by rw [eC]
      simp [nms] at this
      omega⟩ rfl (by simp)
    show _ = SR.ret (.val (.tuple (C.map fun p => pr2 p.1 p.2))) _
    generalize C.map (fun p => pr2 p.1 p.2) = Z
    simp
theorem wr_zero (C : List Pr) : wr C 0 = C := by
  have : ∀ x : Int, cl ((x : Rat) * (1 + 0)) = x := fun x => by
    have e : (x : Rat) * (1 + 0) = (x : Rat) := by grind
    rw [e]
    have h := cl_def (x : Rat)
    simp at h
    omega
  unfold wr
  conv => rhs; rw [← List.map_id' C]
  apply List.map_congr_left
  rintro ⟨o, x⟩ _
  rw [this]
theorem tt_le (F : List (List Nat)) (o : List Nat) : 0 ≤ tt (ones F) o ∧ tt (ones F) o ≤ F.length := by
  induction F with
  | nil => exact ⟨Int.le_refl _, Int.le_refl _⟩
  | cons a F ih =>
    have e : tt (ones (a :: F)) o = tt [(a, 1)] o + tt (ones F) o := tt_app [(a, 1)] (ones F) o
    rw [e, tt_one, List.length_cons]
    split <;> omega
theorem cnt_cts {N : List (List Nat)} {W : List Wd} (H : Wds N W) : Cts (cnt W) ∧ vals01 (cnt W) := by
  have hl := H.len
  refine ⟨⟨fun p hp => ?_, SU_nodup _, by have := cnt_len H; omega⟩, fun p hp => ?_⟩
  · have : p.1 ∈ nms (SU (ones W.flatten)) := List.mem_map.mpr ⟨p, hp, rfl⟩
    rw [nms_SU, nms_ones] at this
    exact H.nm _ (H.src _ this)
  · obtain ⟨o, _, rfl⟩ := List.mem_map.mp hp
    have := tt_le W.flatten o
    show 0 ≤ tt (ones W.flatten) o ∧ tt (ones W.flatten) o ≤ 100000
    omega
theorem quarter : dq (Rat.divInt 1 4) = .tuple [.int 1, .int 4] := by rw [dq_pos 1 4 (by decide)]; rfl
theorem rs_quarter : Rs (Rat.divInt 1 4) := rs_div (by decide) (by decide) (by decide) (by decide)
end Law
set_option Elab.async false
set_option linter.all false
set_option maxRecDepth 100000
set_option maxHeartbeats 4000000
namespace Law
open Dn PySem
open L2 (Key)
theorem law_true (ns : List Int) (hns : ns.length ≤ 63) : ∃ ρ, d_law [.val (script ns)] = .ok (.val (.bool true)) ρ := by
  refine ⟨_, mkF_ret (ds := [script ns]) rfl ?_⟩
  show Ret 1 _ (b_law [.val (script ns), .emp, .emp, .emp, .emp, .emp, .emp, .emp, .emp, .emp])
  obtain ⟨j0, hj0, e0⟩ := jar_eq ns 0 (by decide) (by decide)
  obtain ⟨⟨N, j1⟩, ⟨⟨N1, N2, N3⟩, hj1⟩, e1⟩ := names_eq hj0 20 (by decide) (by decide)
  dsimp only at N1 N2 N3 hj1 e1
  have N1 : N.length = 20 := N1
  have eNN : (N.map fun z => PyData.str (mk z)) = N.map nmD := rfl
  rw [eNN] at e1
  obtain ⟨W, ⟨hW, hWl⟩, e2⟩ := words_eq ns N1
  have HW := hW.wds hWl N2 (by omega)
  obtain ⟨j2, hj2, e3⟩ := counts_told_eq HW (by omega) hj1
  obtain ⟨C, ⟨HC, hv, hC20⟩, e4⟩ := count_eq ns N1 N3 N2
  have htold : ∀ j, Jar j → ∃ j', Jar j' ∧ d__law_reserves_told [.bor (.lst j), .val (pt C)] = .ok (.val (.bool true)) [.bor (.lst j'), .val (pt C)] := fun j hj => told_eq HC hv hj
  have e5 := law_counted_eq HW
  obtain ⟨k1, k2⟩ := cnt_cts HW
  have q1 := reserve_yes k1 k2 rs_quarter
  have q2 := fits_eq (C := cnt W) (by have := k1.len; omega) rs_quarter
  rw [quarter] at q1 q2
  have er := rg1_ok (n := 3) (by decide) (by decide)
  have ei : ∀ (s0 s1 s2 s3 s5 s6 s7 s8 : Sl), eIt (toV (eVar 4)) [s0, s1, s2, s3, .val (pt C), s5, s6, s7, s8, .emp] = .ok (C.map fun p => pr2 p.1 p.2) [s0, s1, s2, s3, .val (pt C), s5, s6, s7, s8, .emp] := fun _ _ _ _ _ _ _ _ => by simp [pt_iter]
  -- others and one more
  have hoth : ∀ x : List Nat, isNm x = true → ∀ v : Int, Cts (C.filter (fun p => !decide (mk p.1 = mk x)) ++ [(x, v)]) := fun x hx v => by
    have hsub : ∀ p, p ∈ C.filter (fun p => !decide (mk p.1 = mk x)) → p ∈ C ∧ p.1 ≠ x := fun p hp => by
      have := List.mem_filter.mp hp
      refine ⟨this.1, fun e => ?_⟩
      have h2 := this.2
      rw [e] at h2
      simp at h2
    refine ⟨fun p hp => ?_, ?_, ?_⟩
    · rcases List.mem_append.mp hp with hp | hp
      · exact HC.vn p (hsub p hp).1
      · simp at hp; rw [hp]; exact hx
    · have e : nms (C.filter (fun p => !decide (mk p.1 = mk x)) ++ [(x, v)]) = nms (C.filter (fun p => !decide (mk p.1 = mk x))) ++ [x] := by simp [nms]
      rw [e, List.nodup_append]
      refine ⟨?_, by simp, fun a ha b hb e => ?_⟩
      · exact ((List.filter_sublist).map _).nodup HC.nd
      · simp at hb
        obtain ⟨p, hp, rfl⟩ := List.mem_map.mp ha
        exact (hsub p hp).2 (e.trans hb)
    · have h1 := List.length_filter_le (fun p : Pr => !decide (mk p.1 = mk x)) C
      rw [List.length_append, List.length_singleton]
      omega
  have hcl := HC.len
  obtain ⟨S, hS⟩ : ∃ S, S = script ns := ⟨_, rfl⟩
  rw [← hS] at e0 e2 e4 ⊢
  clear hS
  generalize N.map nmD = NN at *
  generalize W.map wdD = WL at *
  generalize pt (wr (cnt W) (Rat.divInt 1 4)) = PQ at *
  generalize pt (cnt W) = PW at *
  unfold b_law
  refine seq_nx (ρ1 := [.val S, .own (.lst j0), .emp, .emp, .emp, .emp, .emp, .emp, .emp, .emp]) (by simp [e0]) ?_
  refine seq_nx (ρ1 := [.val S, .own (.lst j1), .val (.list NN), .emp, .emp, .emp, .emp, .emp, .emp, .emp]) (by simp [e1]) ?_
  refine seq_nx (ρ1 := [.val S, .own (.lst j1), .val (.list NN), .val (.list WL), .emp, .emp, .emp, .emp, .emp, .emp]) (by simp [e2]) ?_
  refine seq_nx (ρ1 := [.val S, .own (.lst j2), .val (.list NN), .val (.list WL), .emp, .emp, .emp, .emp, .emp, .emp]) (by simp [e3]) ?_
  refine seq_nx (ρ1 := [.val S, .own (.lst j2), .val (.list NN), .val (.list WL), .val (pt C), .emp, .emp, .emp, .emp, .emp]) (by simp [e4]) ?_
  refine seq_for (ρ1 := [.val S, .own (.lst j2), .val (.list NN), .val (.list WL), .val (pt C), .emp, .emp, .emp, .emp, .emp]) (ds := rgD 0 3) (by simp [er]) ?_
  refine for_rg (fun i ρ => ∃ (j : List D) (s5 : Sl), Jar j ∧ isBor s5 = false ∧ ρ = [.val S, .own (.lst j), .val (.list NN), .val (.list WL), .val (pt C), s5, .emp, .emp, .emp, .emp]) ⟨j2, .emp, hj2, rfl, rfl⟩ ?_ ?_
  · rintro i hi ρ ⟨j, s5, hj, n5, rfl⟩
    obtain ⟨j', hj', ej⟩ := htold j hj
    refine ⟨[.val S, .own (.lst j), .val (.list NN), .val (.list WL), .val (pt C), .val (.int (0 + i)), .emp, .emp, .emp, .emp], gNmS_nb n5, ?_⟩
    exact FL_of (ρ := [.val S, .own (.lst j'), .val (.list NN), .val (.list WL), .val (pt C), .val (.int (0 + i)), .emp, .emp, .emp, .emp]) (by simp [ej]) ⟨j', _, hj', rfl, rfl⟩
  · rintro ρ ⟨j, s5, hj, n5, rfl⟩
    obtain ⟨⟨M, j3⟩, ⟨⟨M1, M2, M3⟩, hj3⟩, e6⟩ := names_eq hj 26 (by decide) (by decide)
    dsimp only at M1 M2 M3 hj3 e6
    have M1 : M.length = 26 := M1
    obtain ⟨x, hx, ix⟩ := nm_ix (N := M) (k := 25) (by decide) (by rw [M1]; decide)
    have eMM : (M.map fun z => PyData.str (mk z)) = M.map nmD := rfl
    rw [eMM] at e6
    have hxn := M2 x hx
    generalize M.map nmD = MM at *
    refine seq_nx (ρ1 := [.val S, .own (.lst j3), .val (.list NN), .val (.list WL), .val (pt C), s5, .val (nmD x), .emp, .emp, .emp]) (by simp [e6, ix]) ?_
    have e7 := lc_f0 (vs := [9]) (f := fun p : Pr => pr2 p.1 p.2) (p := fun p : Pr => !decide (mk p.1 = mk x)) (g := gNm 9) (t := tBoolD (eOp2 fNe (toV (eIxV 9 (toV (eC (.int 0))))) (toV (eVar 6)))) (e := eVar 9) (ei (.val S) (.own (.lst j3)) (.val (.list NN)) (.val (.list WL)) s5 (.val (nmD x)) .emp .emp) (by simp) (fun p hp => ⟨[.val S, .own (.lst j3), .val (.list NN), .val (.list WL), .val (pt C), s5, .val (nmD x), .emp, .emp, .val (pr2 p.1 p.2)], by simp, by simp [pr2, nmD], (fun _ => by simp), by simp⟩) (by omega) rfl
    have c1 := hoth x hxn 100001
    have c2 := hoth x hxn 100000
    obtain ⟨O, hO⟩ : ∃ O : List Pr, O = C.filter (fun p => !decide (mk p.1 = mk x)) := ⟨_, rfl⟩
    have hOv : vals01 O := fun p hp => hv p (by rw [hO] at hp; exact (List.mem_filter.mp hp).1)
    rw [← hO] at c1 c2 e7
    have r1 := refuses_eq c1 (fun z => by have h := (z (x, 100001) (by simp)).2; have h : (100001 : Int) ≤ 100000 := h; omega) (dq 0)
    have v2 : vals01 (O ++ [(x, 100000)]) := fun p hp => by
      rcases List.mem_append.mp hp with hp | hp
      · exact hOv p hp
      · simp at hp; rw [hp]; exact ⟨by show (0 : Int) ≤ 100000; decide, Int.le_refl _⟩
    have r2 := reserve_yes c2 v2 rs_zero
    rw [wr_zero] at r2
    have r3 := same_pt (O ++ [(x, 100000)]) (by have := c2.len; omega)
    have d0 : dq 0 = .tuple [.int 0, .int 1] := rfl
    rw [d0] at r1 r2
    have hOl : (O.map fun p => pr2 p.1 p.2).length ≤ 100 := by have := c2.len; simp at this ⊢; omega
    have a1 : ∀ v : Int, fAdd (.list (O.map fun p => pr2 p.1 p.2)) (.list [.tuple [nmD x, .int v]]) = some (.fresh (.lst ((O ++ [(x, v)]).map fun p => pr2 p.1 p.2))) := fun v => by
      rw [fAdd_list (by simp at hOl ⊢; omega), List.map_append]
      rfl
    have t1 : ∀ v : Int, (PyData.tuple ((O ++ [(x, v)]).map fun p => pr2 p.1 p.2)) = pt (O ++ [(x, v)]) := fun _ => rfl
    have a2 := a1 100001
    have a3 := a1 100000
    have t2 := t1 100001
    have t3 := t1 100000
    generalize pt (O ++ [(x, 100001)]) = P1 at *
    generalize pt (O ++ [(x, 100000)]) = P2 at *
    generalize (O ++ [(x, (100001 : Int))]).map (fun p => pr2 p.1 p.2) = L1 at *
    generalize (O ++ [(x, (100000 : Int))]).map (fun p => pr2 p.1 p.2) = L2 at *
    generalize O.map (fun p => pr2 p.1 p.2) = L0 at *
    generalize pt C = PC at *
    generalize nmD x = X at *
    refine seq_nx (ρ1 := [.val S, .own (.lst j3), .val (.list NN), .val (.list WL), .val PC, s5, .val X, .own (.lst L0), .emp, .emp]) (by simp [e7]) ?_
    refine seq_nx (ρ1 := [.val S, .own (.lst j3), .val (.list NN), .val (.list WL), .val PC, s5, .val X, .val (.list L0), .emp, .emp]) (by simp [a2, t2, r1]) ?_
    refine seq_nx (ρ1 := [.val S, .own (.lst j3), .val (.list NN), .val (.list WL), .val PC, s5, .val X, .val (.list L0), .val P2, .emp]) (by simp [a3, t3]) ?_
    simp [r2, r3, e5, q1, q2]
end Law
set_option Elab.async false
set_option linter.all false
set_option maxRecDepth 100000
namespace Law
open PySem L2 Dn
def topS (i : Nat) : Stmt := PySem.Challenge.pw_typefoundry_k54_letters_of_many_words.main.body.getD i (.Pass ⟨0, 0, 0, 0⟩)
abbrev s_is_whole : Stmt := topS 8
abbrev N_is_whole : List Str := ["value"]
theorem sc_is_whole : FnScope N_is_whole ["value"] (defScope s_is_whole) := ⟨rfl, rfl, rfl, by decide +kernel, rfl, by decide +kernel, by decide +kernel⟩
abbrev s_is_whole_in : Stmt := topS 9
abbrev N_is_whole_in : List Str := ["value", "low", "high"]
theorem sc_is_whole_in : FnScope N_is_whole_in ["value", "low", "high"] (defScope s_is_whole_in) := ⟨rfl, rfl, rfl, by decide +kernel, rfl, by decide +kernel, by decide +kernel⟩
abbrev s_is_name : Stmt := topS 10
abbrev N_is_name : List Str := ["value", "char"]
theorem sc_is_name : FnScope N_is_name ["value"] (defScope s_is_name) := ⟨rfl, rfl, rfl, by decide +kernel, rfl, by decide +kernel, by decide +kernel⟩
abbrev s_is_tuple_of : Stmt := topS 11
abbrev N_is_tuple_of : List Str := ["value", "low", "high"]
theorem sc_is_tuple_of : FnScope N_is_tuple_of ["value", "low", "high"] (defScope s_is_tuple_of) := ⟨rfl, rfl, rfl, by decide +kernel, rfl, by decide +kernel, by decide +kernel⟩
abbrev s_is_ratio : Stmt := topS 15
abbrev N_is_ratio : List Str := ["value"]
theorem sc_is_ratio : FnScope N_is_ratio ["value"] (defScope s_is_ratio) := ⟨rfl, rfl, rfl, by decide +kernel, rfl, by decide +kernel, by decide +kernel⟩
abbrev s_is_small_ratio : Stmt := topS 16
abbrev N_is_small_ratio : List Str := ["value"]
theorem sc_is_small_ratio : FnScope N_is_small_ratio ["value"] (defScope s_is_small_ratio) := ⟨rfl, rfl, rfl, by decide +kernel, rfl, by decide +kernel, by decide +kernel⟩
abbrev s_check_ratio : Stmt := topS 17
abbrev N_check_ratio : List Str := ["value"]
theorem sc_check_ratio : FnScope N_check_ratio ["value"] (defScope s_check_ratio) := ⟨rfl, rfl, rfl, by decide +kernel, rfl, by decide +kernel, by decide +kernel⟩
abbrev s_ratio : Stmt := topS 18
abbrev N_ratio : List Str := ["n", "d", "common"]
theorem sc_ratio : FnScope N_ratio ["n", "d"] (defScope s_ratio) := ⟨rfl, rfl, rfl, by decide +kernel, rfl, by decide +kernel, by decide +kernel⟩
abbrev s_plus : Stmt := topS 19
abbrev N_plus : List Str := ["a", "b"]
theorem sc_plus : FnScope N_plus ["a", "b"] (defScope s_plus) := ⟨rfl, rfl, rfl, by decide +kernel, rfl, by decide +kernel, by decide +kernel⟩
abbrev s_times : Stmt := topS 20
abbrev N_times : List Str := ["a", "b"]
theorem sc_times : FnScope N_times ["a", "b"] (defScope s_times) := ⟨rfl, rfl, rfl, by decide +kernel, rfl, by decide +kernel, by decide +kernel⟩
abbrev s_ceil_of : Stmt := topS 21
abbrev N_ceil_of : List Str := ["a"]
theorem sc_ceil_of : FnScope N_ceil_of ["a"] (defScope s_ceil_of) := ⟨rfl, rfl, rfl, by decide +kernel, rfl, by decide +kernel, by decide +kernel⟩
abbrev s_is_count : Stmt := topS 24
abbrev N_is_count : List Str := ["value", "seen", "item"]
theorem sc_is_count : FnScope N_is_count ["value"] (defScope s_is_count) := ⟨rfl, rfl, rfl, by decide +kernel, rfl, by decide +kernel, by decide +kernel⟩
abbrev s_letter_counts : Stmt := topS 25
abbrev N_letter_counts : List Str := ["words", "found", "word", "letter"]
theorem sc_letter_counts : FnScope N_letter_counts ["words"] (defScope s_letter_counts) := ⟨rfl, rfl, rfl, by decide +kernel, rfl, by decide +kernel, by decide +kernel⟩
abbrev s_with_reserve : Stmt := topS 26
abbrev N_with_reserve : List Str := ["counted", "reserve", "factor", "name", "number"]
theorem sc_with_reserve : FnScope N_with_reserve ["counted", "reserve"] (defScope s_with_reserve) := ⟨rfl, rfl, rfl, by decide +kernel, rfl, by decide +kernel, by decide +kernel⟩
abbrev s__law_jar : Stmt := topS 28
abbrev N__law_jar : List Str := ["script", "k", "own"]
theorem sc__law_jar : FnScope N__law_jar ["script", "k"] (defScope s__law_jar) := ⟨rfl, rfl, rfl, by decide +kernel, rfl, by decide +kernel, by decide +kernel⟩
abbrev s__law_draw : Stmt := topS 29
abbrev N__law_draw : List Str := ["jar", "size", "t", "digit"]
theorem sc__law_draw : FnScope N__law_draw ["jar", "size"] (defScope s__law_draw) := ⟨rfl, rfl, rfl, by decide +kernel, rfl, by decide +kernel, by decide +kernel⟩
abbrev s__law_same_one : Stmt := topS 30
abbrev N__law_same_one : List Str := ["one", "other"]
theorem sc__law_same_one : FnScope N__law_same_one ["one", "other"] (defScope s__law_same_one) := ⟨rfl, rfl, rfl, by decide +kernel, rfl, by decide +kernel, by decide +kernel⟩
abbrev s__law_same : Stmt := topS 31
abbrev N__law_same : List Str := ["first", "second", "waiting", "step", "pair", "one", "other", "at"]
theorem sc__law_same : FnScope N__law_same ["first", "second"] (defScope s__law_same) := ⟨rfl, rfl, rfl, by decide +kernel, rfl, by decide +kernel, by decide +kernel⟩
abbrev s__law_names : Stmt := topS 32
abbrev N__law_names : List Str := ["jar", "many", "letters", "signs", "shift", "step", "mode", "stem", "at", "place", "found", "sign"]
theorem sc__law_names : FnScope N__law_names ["jar", "many"] (defScope s__law_names) := ⟨rfl, rfl, rfl, by decide +kernel, rfl, by decide +kernel, by decide +kernel⟩
abbrev s__law_q : Stmt := topS 33
abbrev N__law_q : List Str := ["n", "d", "one", "two", "step", "rest"]
theorem sc__law_q : FnScope N__law_q ["n", "d"] (defScope s__law_q) := ⟨rfl, rfl, rfl, by decide +kernel, rfl, by decide +kernel, by decide +kernel⟩
abbrev s__law_words : Stmt := topS 34
abbrev N__law_words : List Str := ["script", "names", "jar", "words", "k", "own", "skip", "word", "at"]
theorem sc__law_words : FnScope N__law_words ["script", "names"] (defScope s__law_words) := ⟨rfl, rfl, rfl, by decide +kernel, rfl, by decide +kernel, by decide +kernel⟩
abbrev s__law_counted : Stmt := topS 35
abbrev N__law_counted : List Str := ["words", "found", "word", "letter"]
theorem sc__law_counted : FnScope N__law_counted ["words"] (defScope s__law_counted) := ⟨rfl, rfl, rfl, by decide +kernel, rfl, by decide +kernel, by decide +kernel⟩
abbrev s__law_counts_told : Stmt := topS 36
abbrev N__law_counts_told : List Str := ["jar", "words", "cut", "turned", "letters", "word", "whole", "rows", "due"]
theorem sc__law_counts_told : FnScope N__law_counts_told ["jar", "words"] (defScope s__law_counts_told) := ⟨rfl, rfl, rfl, by decide +kernel, rfl, by decide +kernel, by decide +kernel⟩
abbrev s__law_reserve : Stmt := topS 37
abbrev N__law_reserve : List Str := ["jar", "kind"]
theorem sc__law_reserve : FnScope N__law_reserve ["jar"] (defScope s__law_reserve) := ⟨rfl, rfl, rfl, by decide +kernel, rfl, by decide +kernel, by decide +kernel⟩
abbrev s__law_count : Stmt := topS 38
abbrev N__law_count : List Str := ["script", "names", "jar", "top", "found", "name"]
theorem sc__law_count : FnScope N__law_count ["script", "names"] (defScope s__law_count) := ⟨rfl, rfl, rfl, by decide +kernel, rfl, by decide +kernel, by decide +kernel⟩
abbrev s__law_fits : Stmt := topS 39
abbrev N__law_fits : List Str := ["told", "counted", "reserve", "n", "at", "item"]
theorem sc__law_fits : FnScope N__law_fits ["told", "counted", "reserve"] (defScope s__law_fits) := ⟨rfl, rfl, rfl, by decide +kernel, rfl, by decide +kernel, by decide +kernel⟩
abbrev s__law_reserve_refuses : Stmt := topS 40
abbrev N__law_reserve_refuses : List Str := ["counted", "reserve", "e"]
theorem sc__law_reserve_refuses : FnScope N__law_reserve_refuses ["counted", "reserve"] (defScope s__law_reserve_refuses) := ⟨rfl, rfl, rfl, by decide +kernel, rfl, by decide +kernel, by decide +kernel⟩
abbrev s__law_reserves_told : Stmt := topS 41
abbrev N__law_reserves_told : List Str := ["jar", "counted", "first", "second", "both", "once", "twice", "told", "at", "item"]
theorem sc__law_reserves_told : FnScope N__law_reserves_told ["jar", "counted"] (defScope s__law_reserves_told) := ⟨rfl, rfl, rfl, by decide +kernel, rfl, by decide +kernel, by decide +kernel⟩
abbrev s_law : Stmt := topS 42
abbrev N_law : List Str := ["script", "jar", "names", "words", "counted", "k", "extra", "others", "full", "item"]
theorem sc_law : FnScope N_law ["script"] (defScope s_law) := ⟨rfl, rfl, rfl, by decide +kernel, rfl, by decide +kernel, by decide +kernel⟩
section
variable {P : Program} {w : World} {K : PySem.W.Frag} {mg : Str → Option Value} {base : Heap}
set_option maxHeartbeats 4000000 in
theorem ok_is_whole {f : Addr} {fd : FuncData} (F : Fun K "is_whole" "is_whole" s_is_whole f fd) (m_isinstance : mg "isinstance" = none) (m_int : mg "int" = none) (m_bool : mg "bool" = none) : FnOk P w K mg base (L2.CX P w) 1 f fd ["value"] (spG K mg 1 d_is_whole) := by
  refine known F sc_is_whole (fun cdv A outer s H E C hr tk po => ?_)
  exact (js_one (js_ret (je_and (je_isi kit_int bt_int m_isinstance m_int (jp_var (pv 0)) rfl rfl) (je_one (je_not (je_isi kit_bool bt_bool m_isinstance m_bool (jp_var (pv 0)) rfl rfl))))))
set_option maxHeartbeats 4000000 in
theorem ok_is_whole_in {f : Addr} {fd : FuncData} (F : Fun K "is_whole_in" "is_whole_in" s_is_whole_in f fd) (G_is_whole : Known P w K mg base "is_whole" ["value"] 1 d_is_whole) : FnOk P w K mg base (L2.CX P w) 2 f fd ["value", "low", "high"] (spG K mg 3 d_is_whole_in) := by
  obtain ⟨a_is_whole, fd_is_whole, F_is_whole, m_is_whole, k_is_whole, b_is_whole⟩ := G_is_whole
  refine known F sc_is_whole_in (fun cdv A outer s H E C hr tk po => ?_)
  exact (js_one (js_ret (je_and (je_call F_is_whole (hr.mono (by decide)) m_is_whole k_is_whole b_is_whole tk (ja_cons (JE.v (je_var (pv 0))) (ja_nil)) rfl) (je_one (je_chain od_le od_le (JE.v (je_var (pv 1))) (JE.v (je_var (pv 0))) (JE.v (je_var (pv 2))))))))
set_option maxHeartbeats 4000000 in
theorem ok_is_name {f : Addr} {fd : FuncData} (F : Fun K "is_name" "is_name" s_is_name f fd) (m_len : mg "len" = none) (m_isinstance : mg "isinstance" = none) (m_str : mg "str" = none) {t_LETTERS : Tok} (c_LETTERS : mg "LETTERS" = some (.str "abcdefghijklmnopqrstuvwxyz" t_LETTERS)) {t_DIGITS : Tok} (c_DIGITS : mg "DIGITS" = some (.str "0123456789" t_DIGITS)) : FnOk P w K mg base (L2.CX P w) 1 f fd ["value"] (spG K mg 1 d_is_name) := by
  refine known F sc_is_name (fun cdv A outer s H E C hr tk po => ?_)
  exact (js_cons (js_if (jt_not (jt_tru (JE.p (je_isi kit_str bt_str m_isinstance m_str (jp_var (pv 0)) rfl rfl)))) (js_one (js_ret (je_bl))) (js_nil))
    (js_cons (js_if (JW.t (jw_or (jt_cmp od_lt (JE.v (je_b1 cr_len m_len bt_len (jp_var (pv 0)) rfl)) (JE.v (je_int)) (nomark _)) (jw_or1 (jt_cmp od_gt (JE.v (je_b1 cr_len m_len bt_len (jp_var (pv 0)) rfl)) (JE.v (je_int)) (nomark _))))) (js_one (js_ret (je_bl))) (js_nil))
    (js_cons (js_if (jt_cmp od_notin (JE.v (je_ixV (pv 0) (JE.v (je_int)) (fun _ _ => rfl))) (JE.v (je_gstr c_LETTERS rfl)) (by rfl)) (js_one (js_ret (je_bl))) (js_nil))
    (js_cons (js_for po rfl (ji_any (JE.v (je_var (pv 0)))) (jg_name (i := 1) sc_is_name.nd rfl (.inl rfl)) (js_one (js_if (JW.t (jw_and (jt_cmp od_notin (JE.v (je_var (pv 1))) (JE.v (je_gstr c_LETTERS rfl)) (by rfl)) (jw_and1 (jt_cmp od_notin (JE.v (je_var (pv 1))) (JE.v (je_gstr c_DIGITS rfl)) (by rfl))))) (js_one (js_ret (je_bl))) (js_nil))))
    (js_one (js_ret (je_bl)))))))
set_option maxHeartbeats 4000000 in
theorem ok_is_tuple_of {f : Addr} {fd : FuncData} (F : Fun K "is_tuple_of" "is_tuple_of" s_is_tuple_of f fd) (m_isinstance : mg "isinstance" = none) (m_tuple : mg "tuple" = none) (m_len : mg "len" = none) : FnOk P w K mg base (L2.CX P w) 1 f fd ["value", "low", "high"] (spG K mg 3 d_is_tuple_of) := by
  refine known F sc_is_tuple_of (fun cdv A outer s H E C hr tk po => ?_)
  exact (js_one (js_ret (je_and (je_isi kit_tuple bt_tuple m_isinstance m_tuple (jp_var (pv 0)) rfl rfl) (je_one (je_chain od_le od_le (JE.v (je_var (pv 1))) (JE.v (je_b1 cr_len m_len bt_len (jp_var (pv 0)) rfl)) (JE.v (je_var (pv 2))))))))
set_option maxHeartbeats 4000000 in
theorem ok_is_ratio {f : Addr} {fd : FuncData} (F : Fun K "is_ratio" "is_ratio" s_is_ratio f fd) (G_is_whole : Known P w K mg base "is_whole" ["value"] 1 d_is_whole) (G_is_tuple_of : Known P w K mg base "is_tuple_of" ["value", "low", "high"] 1 d_is_tuple_of) (c_gcd : mg "gcd" = some (.builtin "math.gcd")) : FnOk P w K mg base (L2.CX P w) 2 f fd ["value"] (spG K mg 1 d_is_ratio) := by
  obtain ⟨a_is_whole, fd_is_whole, F_is_whole, m_is_whole, k_is_whole, b_is_whole⟩ := G_is_whole
  obtain ⟨a_is_tuple_of, fd_is_tuple_of, F_is_tuple_of, m_is_tuple_of, k_is_tuple_of, b_is_tuple_of⟩ := G_is_tuple_of
  refine known F sc_is_ratio (fun cdv A outer s H E C hr tk po => ?_)
  exact (js_cons (js_if (jt_not (jt_tru (JE.p (je_call F_is_tuple_of (hr.mono (by decide)) m_is_tuple_of k_is_tuple_of b_is_tuple_of tk (ja_cons (JE.v (je_var (pv 0))) (ja_cons (JE.v (je_int)) (ja_cons (JE.v (je_int)) (ja_nil)))) rfl)))) (js_one (js_ret (je_bl))) (js_nil))
    (js_cons (js_if (JW.t (jw_or (jt_not (jt_tru (JE.p (je_call F_is_whole (hr.mono (by decide)) m_is_whole k_is_whole b_is_whole tk (ja_cons (JE.v (je_ixV (pv 0) (JE.v (je_int)) (fun _ _ => rfl))) (ja_nil)) rfl)))) (jw_or (jt_not (jt_tru (JE.p (je_call F_is_whole (hr.mono (by decide)) m_is_whole k_is_whole b_is_whole tk (ja_cons (JE.v (je_ixV (pv 0) (JE.v (je_int)) (fun _ _ => rfl))) (ja_nil)) rfl)))) (jw_or1 (jt_cmp od_lt (JE.v (je_ixV (pv 0) (JE.v (je_int)) (fun _ _ => rfl))) (JE.v (je_int)) (nomark _)))))) (js_one (js_ret (je_bl))) (js_nil))
    (js_one (js_ret (je_cmp (od_eq hr.units) (JE.v (je_bf cr_gcdD c_gcd (ja_cons (JE.v (je_ixV (pv 0) (JE.v (je_int)) (fun _ _ => rfl))) (ja_cons (JE.v (je_ixV (pv 0) (JE.v (je_int)) (fun _ _ => rfl))) (ja_nil))) rfl)) (JE.v (je_int)) (nomark _))))))
set_option maxHeartbeats 4000000 in
theorem ok_is_small_ratio {f : Addr} {fd : FuncData} (F : Fun K "is_small_ratio" "is_small_ratio" s_is_small_ratio f fd) (G_is_ratio : Known P w K mg base "is_ratio" ["value"] 2 d_is_ratio) {t_GREATEST_TOP : Tok} (c_GREATEST_TOP : mg "GREATEST_TOP" = some (.int (1000000) t_GREATEST_TOP)) {t_GREATEST_BOTTOM : Tok} (c_GREATEST_BOTTOM : mg "GREATEST_BOTTOM" = some (.int (1000) t_GREATEST_BOTTOM)) : FnOk P w K mg base (L2.CX P w) 3 f fd ["value"] (spG K mg 1 d_is_small_ratio) := by
  obtain ⟨a_is_ratio, fd_is_ratio, F_is_ratio, m_is_ratio, k_is_ratio, b_is_ratio⟩ := G_is_ratio
  refine known F sc_is_small_ratio (fun cdv A outer s H E C hr tk po => ?_)
  exact (js_cons (js_if (jt_not (jt_tru (JE.p (je_call F_is_ratio (hr.mono (by decide)) m_is_ratio k_is_ratio b_is_ratio tk (ja_cons (JE.v (je_var (pv 0))) (ja_nil)) rfl)))) (js_one (js_ret (je_bl))) (js_nil))
    (js_one (js_ret (je_and (je_chain od_le od_le (JE.v (je_un ud_neg (JE.v (je_gint c_GREATEST_TOP rfl)))) (JE.v (je_ixV (pv 0) (JE.v (je_int)) (fun _ _ => rfl))) (JE.v (je_gint c_GREATEST_TOP rfl))) (je_one (je_cmp od_le (JE.v (je_ixV (pv 0) (JE.v (je_int)) (fun _ _ => rfl))) (JE.v (je_gint c_GREATEST_BOTTOM rfl)) (nomark _)))))))
set_option maxHeartbeats 4000000 in
theorem ok_check_ratio {f : Addr} {fd : FuncData} (F : Fun K "check_ratio" "check_ratio" s_check_ratio f fd) (G_is_ratio : Known P w K mg base "is_ratio" ["value"] 2 d_is_ratio) (E_BadRatio : Err K mg "BadRatio") : FnOk P w K mg base (L2.CX P w) 3 f fd ["value"] (spG K mg 1 d_check_ratio) := by
  obtain ⟨a_is_ratio, fd_is_ratio, F_is_ratio, m_is_ratio, k_is_ratio, b_is_ratio⟩ := G_is_ratio
  obtain ⟨A_BadRatio, x_BadRatio, e_BadRatio, ke_BadRatio, r1_BadRatio, r2_BadRatio⟩ := E_BadRatio
  refine known F sc_check_ratio (fun cdv A outer s H E C hr tk po => ?_)
  have r_BadRatio : Raises (cxOf (L2.CX P w) P w K mg base N_check_ratio "check_ratio" (defScope s_check_ratio) f cdv A outer s H E) (.ref A_BadRatio) := raises_own r1_BadRatio r2_BadRatio
  exact (js_one (js_if (jt_not (jt_tru (JE.p (je_call F_is_ratio (hr.mono (by decide)) m_is_ratio k_is_ratio b_is_ratio tk (ja_cons (JE.v (je_var (pv 0))) (ja_nil)) rfl)))) (js_one (js_raise rfl tk PySem.F.excBase_ValueError x_BadRatio e_BadRatio ke_BadRatio r_BadRatio rfl)) (js_nil)))
set_option maxHeartbeats 4000000 in
theorem ok_ratio {f : Addr} {fd : FuncData} (F : Fun K "ratio" "ratio" s_ratio f fd) (G_is_whole : Known P w K mg base "is_whole" ["value"] 1 d_is_whole) (c_gcd : mg "gcd" = some (.builtin "math.gcd")) (E_BadRatio : Err K mg "BadRatio") : FnOk P w K mg base (L2.CX P w) 2 f fd ["n", "d"] (spG K mg 2 d_ratio) := by
  obtain ⟨a_is_whole, fd_is_whole, F_is_whole, m_is_whole, k_is_whole, b_is_whole⟩ := G_is_whole
  obtain ⟨A_BadRatio, x_BadRatio, e_BadRatio, ke_BadRatio, r1_BadRatio, r2_BadRatio⟩ := E_BadRatio
  refine known F sc_ratio (fun cdv A outer s H E C hr tk po => ?_)
  have r_BadRatio : Raises (cxOf (L2.CX P w) P w K mg base N_ratio "ratio" (defScope s_ratio) f cdv A outer s H E) (.ref A_BadRatio) := raises_own r1_BadRatio r2_BadRatio
  exact (js_cons (js_if (JW.t (jw_or (jt_not (jt_tru (JE.p (je_call F_is_whole (hr.mono (by decide)) m_is_whole k_is_whole b_is_whole tk (ja_cons (JE.v (je_var (pv 0))) (ja_nil)) rfl)))) (jw_or1 (jt_not (jt_tru (JE.p (je_call F_is_whole (hr.mono (by decide)) m_is_whole k_is_whole b_is_whole tk (ja_cons (JE.v (je_var (pv 1))) (ja_nil)) rfl))))))) (js_one (js_raise rfl tk PySem.F.excBase_ValueError x_BadRatio e_BadRatio ke_BadRatio r_BadRatio rfl)) (js_nil))
    (js_cons (js_if (jt_cmp (od_eq hr.units) (JE.v (je_var (pv 1))) (JE.v (je_int)) (nomark _)) (js_one (js_raise rfl tk PySem.F.excBase_ValueError x_BadRatio e_BadRatio ke_BadRatio r_BadRatio rfl)) (js_nil))
    (js_cons (js_set (i := 2) sc_ratio.nd rfl (.inl rfl) (je_bf cr_gcdD c_gcd (ja_cons (JE.v (je_var (pv 0))) (ja_cons (JE.v (je_var (pv 1))) (ja_nil))) rfl))
    (js_cons (js_if (jt_cmp od_lt (JE.v (je_var (pv 1))) (JE.v (je_int)) (nomark _)) (js_one (js_set (i := 2) sc_ratio.nd rfl (.inl rfl) (je_un ud_neg (JE.v (je_var (pv 2)))))) (js_nil))
    (js_one (js_ret (je_tup (ja_cons (JE.v (je_op od_fdiv (JE.v (je_var (pv 0))) (JE.v (je_var (pv 2))))) (ja_cons (JE.v (je_op od_fdiv (JE.v (je_var (pv 1))) (JE.v (je_var (pv 2))))) (ja_nil))))))))))
set_option maxHeartbeats 4000000 in
theorem ok_plus {f : Addr} {fd : FuncData} (F : Fun K "plus" "plus" s_plus f fd) (G_ratio : Known P w K mg base "ratio" ["n", "d"] 2 d_ratio) (G_check_ratio : Known P w K mg base "check_ratio" ["value"] 3 d_check_ratio) : FnOk P w K mg base (L2.CX P w) 4 f fd ["a", "b"] (spG K mg 2 d_plus) := by
  obtain ⟨a_ratio, fd_ratio, F_ratio, m_ratio, k_ratio, b_ratio⟩ := G_ratio
  obtain ⟨a_check_ratio, fd_check_ratio, F_check_ratio, m_check_ratio, k_check_ratio, b_check_ratio⟩ := G_check_ratio
  refine known F sc_plus (fun cdv A outer s H E C hr tk po => ?_)
  exact (js_cons (js_expr (je_call F_check_ratio (hr.mono (by decide)) m_check_ratio k_check_ratio b_check_ratio tk (ja_cons (JE.v (je_var (pv 0))) (ja_nil)) rfl))
    (js_cons (js_expr (je_call F_check_ratio (hr.mono (by decide)) m_check_ratio k_check_ratio b_check_ratio tk (ja_cons (JE.v (je_var (pv 1))) (ja_nil)) rfl))
    (js_one (js_ret (je_call F_ratio (hr.mono (by decide)) m_ratio k_ratio b_ratio tk (ja_cons (JE.v (je_op od_add (JE.v (je_op od_mul (JE.v (je_ixV (pv 0) (JE.v (je_int)) (fun _ _ => rfl))) (JE.v (je_ixV (pv 1) (JE.v (je_int)) (fun _ _ => rfl))))) (JE.v (je_op od_mul (JE.v (je_ixV (pv 1) (JE.v (je_int)) (fun _ _ => rfl))) (JE.v (je_ixV (pv 0) (JE.v (je_int)) (fun _ _ => rfl))))))) (ja_cons (JE.v (je_op od_mul (JE.v (je_ixV (pv 0) (JE.v (je_int)) (fun _ _ => rfl))) (JE.v (je_ixV (pv 1) (JE.v (je_int)) (fun _ _ => rfl))))) (ja_nil))) rfl)))))
set_option maxHeartbeats 4000000 in
theorem ok_times {f : Addr} {fd : FuncData} (F : Fun K "times" "times" s_times f fd) (G_ratio : Known P w K mg base "ratio" ["n", "d"] 2 d_ratio) (G_check_ratio : Known P w K mg base "check_ratio" ["value"] 3 d_check_ratio) : FnOk P w K mg base (L2.CX P w) 4 f fd ["a", "b"] (spG K mg 2 d_times) := by
  obtain ⟨a_ratio, fd_ratio, F_ratio, m_ratio, k_ratio, b_ratio⟩ := G_ratio
  obtain ⟨a_check_ratio, fd_check_ratio, F_check_ratio, m_check_ratio, k_check_ratio, b_check_ratio⟩ := G_check_ratio
  refine known F sc_times (fun cdv A outer s H E C hr tk po => ?_)
  exact (js_cons (js_expr (je_call F_check_ratio (hr.mono (by decide)) m_check_ratio k_check_ratio b_check_ratio tk (ja_cons (JE.v (je_var (pv 0))) (ja_nil)) rfl))
    (js_cons (js_expr (je_call F_check_ratio (hr.mono (by decide)) m_check_ratio k_check_ratio b_check_ratio tk (ja_cons (JE.v (je_var (pv 1))) (ja_nil)) rfl))
    (js_one (js_ret (je_call F_ratio (hr.mono (by decide)) m_ratio k_ratio b_ratio tk (ja_cons (JE.v (je_op od_mul (JE.v (je_ixV (pv 0) (JE.v (je_int)) (fun _ _ => rfl))) (JE.v (je_ixV (pv 1) (JE.v (je_int)) (fun _ _ => rfl))))) (ja_cons (JE.v (je_op od_mul (JE.v (je_ixV (pv 0) (JE.v (je_int)) (fun _ _ => rfl))) (JE.v (je_ixV (pv 1) (JE.v (je_int)) (fun _ _ => rfl))))) (ja_nil))) rfl)))))
set_option maxHeartbeats 4000000 in
theorem ok_ceil_of {f : Addr} {fd : FuncData} (F : Fun K "ceil_of" "ceil_of" s_ceil_of f fd) (G_check_ratio : Known P w K mg base "check_ratio" ["value"] 3 d_check_ratio) : FnOk P w K mg base (L2.CX P w) 4 f fd ["a"] (spG K mg 1 d_ceil_of) := by
  obtain ⟨a_check_ratio, fd_check_ratio, F_check_ratio, m_check_ratio, k_check_ratio, b_check_ratio⟩ := G_check_ratio
  refine known F sc_ceil_of (fun cdv A outer s H E C hr tk po => ?_)
  exact (js_cons (js_expr (je_call F_check_ratio (hr.mono (by decide)) m_check_ratio k_check_ratio b_check_ratio tk (ja_cons (JE.v (je_var (pv 0))) (ja_nil)) rfl))
    (js_one (js_ret (je_un ud_neg (JE.v (je_op od_fdiv (JE.v (je_un ud_neg (JE.v (je_ixV (pv 0) (JE.v (je_int)) (fun _ _ => rfl))))) (JE.v (je_ixV (pv 0) (JE.v (je_int)) (fun _ _ => rfl)))))))))
set_option maxHeartbeats 4000000 in
theorem ok_is_count {f : Addr} {fd : FuncData} (F : Fun K "is_count" "is_count" s_is_count f fd) (G_is_tuple_of : Known P w K mg base "is_tuple_of" ["value", "low", "high"] 1 d_is_tuple_of) (G_is_name : Known P w K mg base "is_name" ["value"] 1 d_is_name) (G_is_whole_in : Known P w K mg base "is_whole_in" ["value", "low", "high"] 2 d_is_whole_in) (m_isinstance : mg "isinstance" = none) (m_tuple : mg "tuple" = none) {t_MOST_NUMBER : Tok} (c_MOST_NUMBER : mg "MOST_NUMBER" = some (.int (100000) t_MOST_NUMBER)) : FnOk P w K mg base (L2.CX P w) 3 f fd ["value"] (spG K mg 1 d_is_count) := by
  obtain ⟨a_is_tuple_of, fd_is_tuple_of, F_is_tuple_of, m_is_tuple_of, k_is_tuple_of, b_is_tuple_of⟩ := G_is_tuple_of
  obtain ⟨a_is_name, fd_is_name, F_is_name, m_is_name, k_is_name, b_is_name⟩ := G_is_name
  obtain ⟨a_is_whole_in, fd_is_whole_in, F_is_whole_in, m_is_whole_in, k_is_whole_in, b_is_whole_in⟩ := G_is_whole_in
  refine known F sc_is_count (fun cdv A outer s H E C hr tk po => ?_)
  exact (js_cons (js_if (jt_not (jt_tru (JE.p (je_isi kit_tuple bt_tuple m_isinstance m_tuple (jp_var (pv 0)) rfl rfl)))) (js_one (js_ret (je_bl))) (js_nil))
    (js_cons (js_set (i := 1) sc_is_count.nd rfl (.inl rfl) (je_dic0))
    (js_cons (js_for po rfl (ji_any (JE.v (je_var (pv 0)))) (jg_name (i := 2) sc_is_count.nd rfl (.inl rfl)) (js_cons (js_if (JW.t (jw_or (jt_not (jt_tru (JE.p (je_call F_is_tuple_of (hr.mono (by decide)) m_is_tuple_of k_is_tuple_of b_is_tuple_of tk (ja_cons (JE.v (je_var (pv 2))) (ja_cons (JE.v (je_int)) (ja_cons (JE.v (je_int)) (ja_nil)))) rfl)))) (jw_or (jt_not (jt_tru (JE.p (je_call F_is_name (hr.mono (by decide)) m_is_name k_is_name b_is_name tk (ja_cons (JE.v (je_ixV (pv 2) (JE.v (je_int)) (fun _ _ => rfl))) (ja_nil)) rfl)))) (jw_or1 (jt_not (jt_tru (JE.p (je_call F_is_whole_in (hr.mono (by decide)) m_is_whole_in k_is_whole_in b_is_whole_in tk (ja_cons (JE.v (je_ixV (pv 2) (JE.v (je_int)) (fun _ _ => rfl))) (ja_cons (JE.v (je_int)) (ja_cons (JE.v (je_gint c_MOST_NUMBER rfl)) (ja_nil)))) rfl)))))))) (js_one (js_ret (je_bl))) (js_nil))
    (js_cons (js_if (jt_din (hu_of hr) (JE.v (je_ixV (pv 2) (JE.v (je_int)) (fun _ _ => rfl))) (pv 1)) (js_one (js_ret (je_bl))) (js_nil))
    (js_one (js_setD (hu_of hr) (JE.v (je_bl)) (pv 1) (JE.v (je_ixV (pv 2) (JE.v (je_int)) (fun _ _ => rfl))))))))
    (js_one (js_ret (je_bl))))))
set_option maxHeartbeats 4000000 in
theorem ok_letter_counts {f : Addr} {fd : FuncData} (F : Fun K "letter_counts" "letter_counts" s_letter_counts f fd) (G_is_name : Known P w K mg base "is_name" ["value"] 1 d_is_name) (m_sorted : mg "sorted" = none) (m_tuple : mg "tuple" = none) (m_isinstance : mg "isinstance" = none) (E_BadBill : Err K mg "BadBill") : FnOk P w K mg base (L2.CX P w) 2 f fd ["words"] (spG K mg 1 d_letter_counts) := by
  obtain ⟨a_is_name, fd_is_name, F_is_name, m_is_name, k_is_name, b_is_name⟩ := G_is_name
  obtain ⟨A_BadBill, x_BadBill, e_BadBill, ke_BadBill, r1_BadBill, r2_BadBill⟩ := E_BadBill
  refine known F sc_letter_counts (fun cdv A outer s H E C hr tk po => ?_)
  have r_BadBill : Raises (cxOf (L2.CX P w) P w K mg base N_letter_counts "letter_counts" (defScope s_letter_counts) f cdv A outer s H E) (.ref A_BadBill) := raises_own r1_BadBill r2_BadBill
  exact (js_cons (js_if (jt_not (jt_tru (JE.p (je_isi kit_tuple bt_tuple m_isinstance m_tuple (jp_var (pv 0)) rfl rfl)))) (js_one (js_raise rfl tk PySem.F.excBase_ValueError x_BadBill e_BadBill ke_BadBill r_BadBill rfl)) (js_nil))
    (js_cons (js_set (i := 1) sc_letter_counts.nd rfl (.inl rfl) (je_dic0))
    (js_cons (js_for po rfl (ji_any (JE.v (je_var (pv 0)))) (jg_name (i := 2) sc_letter_counts.nd rfl (.inl rfl)) (js_cons (js_if (jt_not (jt_tru (JE.p (je_isi kit_tuple bt_tuple m_isinstance m_tuple (jp_var (pv 2)) rfl rfl)))) (js_one (js_raise rfl tk PySem.F.excBase_ValueError x_BadBill e_BadBill ke_BadBill r_BadBill rfl)) (js_nil))
    (js_one (js_for po rfl (ji_any (JE.v (je_var (pv 2)))) (jg_name (i := 3) sc_letter_counts.nd rfl (.inl rfl)) (js_cons (js_if (jt_not (jt_tru (JE.p (je_call F_is_name (hr.mono (by decide)) m_is_name k_is_name b_is_name tk (ja_cons (JE.v (je_var (pv 3))) (ja_nil)) rfl)))) (js_one (js_raise rfl tk PySem.F.excBase_ValueError x_BadBill e_BadBill ke_BadBill r_BadBill rfl)) (js_nil))
    (js_one (js_setD (hu_of hr) (JE.v (je_op od_add (JE.v (je_dget (hu_of hr) (pv 1) (JE.v (je_var (pv 3))) (JE.v (je_int)) ⟨rfl, rfl, rfl, rfl⟩)) (JE.v (je_int)))) (pv 1) (JE.v (je_var (pv 3))))))))))
    (js_one (js_ret (je_t1 cr_tuple m_tuple bt_tuple (JE.p (je_sortIt rfl hr.units m_sorted (pv 1) rfl)) rfl))))))
set_option maxHeartbeats 4000000 in
theorem ok_with_reserve {f : Addr} {fd : FuncData} (F : Fun K "with_reserve" "with_reserve" s_with_reserve f fd) (G_ceil_of : Known P w K mg base "ceil_of" ["a"] 4 d_ceil_of) (G_times : Known P w K mg base "times" ["a", "b"] 4 d_times) (G_plus : Known P w K mg base "plus" ["a", "b"] 4 d_plus) (G_is_small_ratio : Known P w K mg base "is_small_ratio" ["value"] 3 d_is_small_ratio) (G_is_count : Known P w K mg base "is_count" ["value"] 3 d_is_count) (m_tuple : mg "tuple" = none) (E_BadBill : Err K mg "BadBill") : FnOk P w K mg base (L2.CX P w) 5 f fd ["counted", "reserve"] (spG K mg 2 d_with_reserve) := by
  obtain ⟨a_ceil_of, fd_ceil_of, F_ceil_of, m_ceil_of, k_ceil_of, b_ceil_of⟩ := G_ceil_of
  obtain ⟨a_times, fd_times, F_times, m_times, k_times, b_times⟩ := G_times
  obtain ⟨a_plus, fd_plus, F_plus, m_plus, k_plus, b_plus⟩ := G_plus
  obtain ⟨a_is_small_ratio, fd_is_small_ratio, F_is_small_ratio, m_is_small_ratio, k_is_small_ratio, b_is_small_ratio⟩ := G_is_small_ratio
  obtain ⟨a_is_count, fd_is_count, F_is_count, m_is_count, k_is_count, b_is_count⟩ := G_is_count
  obtain ⟨A_BadBill, x_BadBill, e_BadBill, ke_BadBill, r1_BadBill, r2_BadBill⟩ := E_BadBill
  refine known F sc_with_reserve (fun cdv A outer s H E C hr tk po => ?_)
  have r_BadBill : Raises (cxOf (L2.CX P w) P w K mg base N_with_reserve "with_reserve" (defScope s_with_reserve) f cdv A outer s H E) (.ref A_BadBill) := raises_own r1_BadBill r2_BadBill
  exact (js_cons (js_if (jt_not (jt_tru (JE.p (je_call F_is_count (hr.mono (by decide)) m_is_count k_is_count b_is_count tk (ja_cons (JE.v (je_var (pv 0))) (ja_nil)) rfl)))) (js_one (js_raise rfl tk PySem.F.excBase_ValueError x_BadBill e_BadBill ke_BadBill r_BadBill rfl)) (js_nil))
    (js_cons (js_if (JW.t (jw_or (jt_not (jt_tru (JE.p (je_call F_is_small_ratio (hr.mono (by decide)) m_is_small_ratio k_is_small_ratio b_is_small_ratio tk (ja_cons (JE.v (je_var (pv 1))) (ja_nil)) rfl)))) (jw_or1 (jt_cmp od_lt (JE.v (je_ixV (pv 1) (JE.v (je_int)) (fun _ _ => rfl))) (JE.v (je_int)) (nomark _))))) (js_one (js_raise rfl tk PySem.F.excBase_ValueError x_BadBill e_BadBill ke_BadBill r_BadBill rfl)) (js_nil))
    (js_cons (js_set (i := 2) sc_with_reserve.nd rfl (.inr rfl) (je_call F_plus (hr.mono (by decide)) m_plus k_plus b_plus tk (ja_cons (JE.v (je_tup (ja_cons (JE.v (je_int)) (ja_cons (JE.v (je_int)) (ja_nil))))) (ja_cons (JE.v (je_var (pv 1))) (ja_nil))) rfl))
    (js_one (js_ret (je_t1 cr_tuple m_tuple bt_tuple (JE.p (je_lc (own := [("name", 3), ("number", 4)]) rfl sc_with_reserve.nd (ji_any (JE.v (je_var (pv 0)))) (blkOk_by (own := [("name", 3), ("number", 4)]) (N := N_with_reserve) (sc := defScope s_with_reserve) (by decide +kernel)) (fun _ _ _ _ _ _ => jg_tup rfl (jgs_cons (jg_name (i := 3) sc_with_reserve.nd rfl (.inl rfl)) (jgs_cons (jg_name (i := 4) sc_with_reserve.nd rfl (.inl rfl)) (jgs_nil)))) (fun _ _ _ _ _ _ => jts_nil) (fun _ _ _ _ _ _ => je_tup (ja_cons (JE.v (je_var (pv 3))) (ja_cons (JE.v (je_call F_ceil_of (hr.mono (by decide)) m_ceil_of k_ceil_of b_ceil_of takes0 (ja_cons (JE.v (je_call F_times (hr.mono (by decide)) m_times k_times b_times takes0 (ja_cons (JE.v (je_tup (ja_cons (JE.v (je_var (pv 4))) (ja_cons (JE.v (je_int)) (ja_nil))))) (ja_cons (JE.v (je_var (pv 2))) (ja_nil))) rfl)) (ja_nil)) rfl)) (ja_nil)))))) rfl))))))
set_option maxHeartbeats 4000000 in
theorem ok__law_jar {f : Addr} {fd : FuncData} (F : Fun K "_law_jar" "_law_jar" s__law_jar f fd) (m_int : mg "int" = none) (m_len : mg "len" = none) (m_abs : mg "abs" = none) : FnOk P w K mg base (L2.CX P w) 1 f fd ["script", "k"] (spG K mg 2 d__law_jar) := by
  refine known F sc__law_jar (fun cdv A outer s H E C hr tk po => ?_)
  exact (js_cons (js_set (i := 2) sc__law_jar.nd rfl (.inl rfl) (je_int))
    (js_cons (js_if (jt_cmp od_lt (JE.v (je_var (pv 1))) (JE.v (je_b1 cr_len m_len bt_len (jp_var (pv 0)) rfl)) (nomark _)) (js_one (js_set (i := 2) sc__law_jar.nd rfl (.inl rfl) (je_b1 cr_abs m_abs bt_abs (JE.p (je_t1 cr_int m_int bt_int (JE.p (je_ixV (pv 0) (JE.v (je_var (pv 1))) (fun _ _ => rfl))) rfl)) rfl))) (js_nil))
    (js_one (js_ret (je_lst (ja_cons (JE.v (je_var (pv 2))) (ja_cons (JE.v (je_op od_add (JE.v (je_op od_mod (JE.v (je_t1 cr_int m_int bt_int (jp_var (pv 2)) rfl)) (JE.v (je_int)))) (JE.v (je_op od_mul (JE.v (je_int)) (JE.v (je_op od_add (JE.v (je_var (pv 1))) (JE.v (je_int)))))))) (ja_cons (JE.v (je_int)) (ja_cons (JE.v (je_t1 cr_int m_int bt_int (JE.p (je_cmp od_ge (JE.v (je_var (pv 2))) (JE.v (je_op od_pow (JE.v (je_int)) (JE.v (je_int)))) (nomark _))) rfl)) (ja_nil))))))))))
set_option maxHeartbeats 4000000 in
theorem ok__law_draw {f : Addr} {fd : FuncData} (F : Fun K "_law_draw" "_law_draw" s__law_draw f fd) (m_int : mg "int" = none) : FnOk P w K mg base (L2.CX P w) 1 f fd ["jar", "size"] (spG K mg 2 d__law_draw) := by
  refine known F sc__law_draw (fun cdv A outer s H E C hr tk po => ?_)
  exact (js_cons (js_if (JW.t (jw_and (jt_cmp (od_eq hr.units) (JE.v (je_ixV (pv 0) (JE.v (je_int)) (fun _ _ => rfl))) (JE.v (je_int)) (nomark _)) (jw_and1 (jt_cmp od_gt (JE.v (je_ixV (pv 0) (JE.v (je_int)) (fun _ _ => rfl))) (JE.v (je_int)) (nomark _))))) (js_cons (js_set (i := 3) sc__law_draw.nd rfl (.inl rfl) (je_op od_mod (JE.v (je_t1 cr_int m_int bt_int (JE.p (je_ixV (pv 0) (JE.v (je_int)) (fun _ _ => rfl))) rfl)) (JE.v (je_var (pv 1)))))
    (js_cons (js_setL (JE.v (je_op od_fdiv (JE.v (je_ixV (pv 0) (JE.v (je_int)) (fun _ _ => rfl))) (JE.v (je_var (pv 1))))) (pv 0) (JE.v (je_int)) (ps_asg (JE.v (je_op od_fdiv (JE.v (je_ixV (pv 0) (JE.v (je_int)) (fun _ _ => rfl))) (JE.v (je_var (pv 1))))) (pg_sub (pv 0) (JE.v (je_int)) set_list)))
    (js_one (js_ret (je_var (pv 3)))))) (js_nil))
    (js_cons (js_setL (JE.v (je_op od_add (JE.v (je_ixV (pv 0) (JE.v (je_int)) (fun _ _ => rfl))) (JE.v (je_int)))) (pv 0) (JE.v (je_int)) (ps_asg (JE.v (je_op od_add (JE.v (je_ixV (pv 0) (JE.v (je_int)) (fun _ _ => rfl))) (JE.v (je_int)))) (pg_sub (pv 0) (JE.v (je_int)) set_list)))
    (js_cons (js_set (i := 2) sc__law_draw.nd rfl (.inl rfl) (je_op od_mod (JE.v (je_t1 cr_int m_int bt_int (JE.p (je_op od_add (JE.v (je_ixV (pv 0) (JE.v (je_int)) (fun _ _ => rfl))) (JE.v (je_op od_mul (JE.v (je_int)) (JE.v (je_ixV (pv 0) (JE.v (je_int)) (fun _ _ => rfl))))))) rfl)) (JE.v (je_int))))
    (js_cons (js_set (i := 2) sc__law_draw.nd rfl (.inl rfl) (je_op od_mod (JE.v (je_t1 cr_int m_int bt_int (JE.p (je_op od_add (JE.v (je_op od_mul (JE.v (je_var (pv 2))) (JE.v (je_var (pv 2))))) (JE.v (je_op od_mul (JE.v (je_int)) (JE.v (je_ixV (pv 0) (JE.v (je_int)) (fun _ _ => rfl))))))) rfl)) (JE.v (je_int))))
    (js_cons (js_set (i := 2) sc__law_draw.nd rfl (.inl rfl) (je_op od_mod (JE.v (je_t1 cr_int m_int bt_int (JE.p (je_op od_add (JE.v (je_op od_fdiv (JE.v (je_op od_mul (JE.v (je_var (pv 2))) (JE.v (je_var (pv 2))))) (JE.v (je_int)))) (JE.v (je_var (pv 2))))) rfl)) (JE.v (je_int))))
    (js_one (js_ret (je_op od_mod (JE.v (je_t1 cr_int m_int bt_int (JE.p (je_op od_fdiv (JE.v (je_var (pv 2))) (JE.v (je_int)))) rfl)) (JE.v (je_var (pv 1)))))))))))
set_option maxHeartbeats 4000000 in
theorem ok__law_same_one {f : Addr} {fd : FuncData} (F : Fun K "_law_same_one" "_law_same_one" s__law_same_one f fd) (m_isinstance : mg "isinstance" = none) (m_str : mg "str" = none) (m_int : mg "int" = none) (m_bool : mg "bool" = none) : FnOk P w K mg base (L2.CX P w) 1 f fd ["one", "other"] (spG K mg 2 d__law_same_one) := by
  refine known F sc__law_same_one (fun cdv A outer s H E C hr tk po => ?_)
  exact (js_cons (js_if (JW.t (jw_or (jt_cmp od_is (JE.v (je_var (pv 0))) (JE.v (je_non)) (nomark _)) (jw_or1 (jt_cmp od_is (JE.v (je_var (pv 1))) (JE.v (je_non)) (nomark _))))) (js_one (js_ret (je_and (je_cmp od_is (JE.v (je_var (pv 0))) (JE.v (je_non)) (nomark _)) (je_one (je_cmp od_is (JE.v (je_var (pv 1))) (JE.v (je_non)) (nomark _)))))) (js_nil))
    (js_cons (js_if (JW.t (jw_or (jt_tru (JE.p (je_isi kit_bool bt_bool m_isinstance m_bool (jp_var (pv 0)) rfl rfl))) (jw_or1 (jt_tru (JE.p (je_isi kit_bool bt_bool m_isinstance m_bool (jp_var (pv 1)) rfl rfl)))))) (js_one (js_ret (je_and (je_isi kit_bool bt_bool m_isinstance m_bool (jp_var (pv 0)) rfl rfl) (je_and (je_isi kit_bool bt_bool m_isinstance m_bool (jp_var (pv 1)) rfl rfl) (je_one (je_cmp (od_eq hr.units) (JE.v (je_var (pv 0))) (JE.v (je_var (pv 1))) (nomark _))))))) (js_nil))
    (js_cons (js_if (JW.t (jw_and (jt_tru (JE.p (je_isi kit_int bt_int m_isinstance m_int (jp_var (pv 0)) rfl rfl))) (jw_and1 (jt_tru (JE.p (je_isi kit_int bt_int m_isinstance m_int (jp_var (pv 1)) rfl rfl)))))) (js_one (js_ret (je_cmp (od_eq hr.units) (JE.v (je_var (pv 0))) (JE.v (je_var (pv 1))) (nomark _)))) (js_nil))
    (js_one (js_ret (je_and (je_isi kit_str bt_str m_isinstance m_str (jp_var (pv 0)) rfl rfl) (je_and (je_isi kit_str bt_str m_isinstance m_str (jp_var (pv 1)) rfl rfl) (je_one (je_cmp (od_eq hr.units) (JE.v (je_var (pv 0))) (JE.v (je_var (pv 1))) (nomark _))))))))))
set_option maxHeartbeats 4000000 in
theorem ok__law_same {f : Addr} {fd : FuncData} (F : Fun K "_law_same" "_law_same" s__law_same f fd) (G__law_same_one : Known P w K mg base "_law_same_one" ["one", "other"] 1 d__law_same_one) (m_range : mg "range" = none) (m_isinstance : mg "isinstance" = none) (m_tuple : mg "tuple" = none) (m_len : mg "len" = none) : FnOk P w K mg base (L2.CX P w) 2 f fd ["first", "second"] (spG K mg 2 d__law_same) := by
  obtain ⟨a__law_same_one, fd__law_same_one, F__law_same_one, m__law_same_one, k__law_same_one, b__law_same_one⟩ := G__law_same_one
  refine known F sc__law_same (fun cdv A outer s H E C hr tk po => ?_)
  exact (js_cons (js_set (i := 2) sc__law_same.nd rfl (.inl rfl) (je_lst (ja_cons (JE.v (je_lst (ja_cons (JE.v (je_var (pv 0))) (ja_cons (JE.v (je_var (pv 1))) (ja_nil))))) (ja_nil))))
    (js_cons (js_for po rfl (ji_rg1 m_range (JE.v (je_int)) rfl) (jg_name (i := 3) sc__law_same.nd rfl (.inl rfl)) (js_cons (js_if (jt_cmp (od_eq hr.units) (JE.v (je_b1 cr_len m_len bt_len (jp_var (pv 2)) rfl)) (JE.v (je_int)) (nomark _)) (js_one (js_ret (je_bl))) (js_nil))
    (js_cons (js_set (i := 4) sc__law_same.nd rfl (.inl rfl) (je_pop (pe_bm0 PySem.F.plainAttrs_list PySem.F.slot_list_pop PySem.F.type_list_pop mt_pop (pv 2))))
    (js_cons (js_set (i := 5) sc__law_same.nd rfl (.inr rfl) (je_ixV (pv 4) (JE.v (je_int)) (fun _ _ => rfl)))
    (js_cons (js_set (i := 6) sc__law_same.nd rfl (.inr rfl) (je_ixV (pv 4) (JE.v (je_int)) (fun _ _ => rfl)))
    (js_one (js_if (JW.t (jw_and (jt_tru (JE.p (je_isi kit_tuple bt_tuple m_isinstance m_tuple (jp_var (pv 5)) rfl rfl))) (jw_and1 (jt_tru (JE.p (je_isi kit_tuple bt_tuple m_isinstance m_tuple (jp_var (pv 6)) rfl rfl)))))) (js_cons (js_if (jt_cmp (od_ne hr.units) (JE.v (je_b1 cr_len m_len bt_len (jp_var (pv 5)) rfl)) (JE.v (je_b1 cr_len m_len bt_len (jp_var (pv 6)) rfl)) (nomark _)) (js_one (js_ret (je_bl))) (js_nil))
    (js_one (js_ext (je_lc (own := [("at", 7)]) rfl sc__law_same.nd (ji_rg1 m_range (JE.v (je_b1 cr_len m_len bt_len (jp_var (pv 5)) rfl)) rfl) (blkOk_by (own := [("at", 7)]) (N := N__law_same) (sc := defScope s__law_same) (by decide +kernel)) (fun _ _ _ _ _ _ => jg_name (i := 7) sc__law_same.nd rfl (.inl rfl)) (fun _ _ _ _ _ _ => jts_nil) (fun _ _ _ _ _ _ => je_lst (ja_cons (JE.v (je_ixV (pv 5) (JE.v (je_var (pv 7))) (fun _ _ => rfl))) (ja_cons (JE.v (je_ixV (pv 6) (JE.v (je_var (pv 7))) (fun _ _ => rfl))) (ja_nil))))) (fun h => ps_expr (pe_bm PySem.F.plainAttrs_list PySem.F.slot_list_extend PySem.F.type_list_extend mt_extend (pv 2) (pa_cons h pa_nil)))))) (js_one (js_if (JW.t (jw_or (jt_tru (JE.p (je_isi kit_tuple bt_tuple m_isinstance m_tuple (jp_var (pv 5)) rfl rfl))) (jw_or (jt_tru (JE.p (je_isi kit_tuple bt_tuple m_isinstance m_tuple (jp_var (pv 6)) rfl rfl))) (jw_or1 (jt_not (jt_tru (JE.p (je_call F__law_same_one (hr.mono (by decide)) m__law_same_one k__law_same_one b__law_same_one tk (ja_cons (JE.v (je_var (pv 5))) (ja_cons (JE.v (je_var (pv 6))) (ja_nil))) rfl)))))))) (js_one (js_ret (je_bl))) (js_nil))))))))))
    (js_one (js_ret (je_bl)))))
set_option maxHeartbeats 4000000 in
theorem ok__law_names {f : Addr} {fd : FuncData} (F : Fun K "_law_names" "_law_names" s__law_names f fd) (G__law_draw : Known P w K mg base "_law_draw" ["jar", "size"] 1 d__law_draw) (m_range : mg "range" = none) (m_int : mg "int" = none) (m_len : mg "len" = none) : FnOk P w K mg base (L2.CX P w) 2 f fd ["jar", "many"] (spG K mg 2 d__law_names) := by
  obtain ⟨a__law_draw, fd__law_draw, F__law_draw, m__law_draw, k__law_draw, b__law_draw⟩ := G__law_draw
  refine known F sc__law_names (fun cdv A outer s H E C hr tk po => ?_)
  exact (js_cons (js_set (i := 2) sc__law_names.nd rfl (.inl rfl) (je_str))
    (js_cons (js_set (i := 3) sc__law_names.nd rfl (.inl rfl) (je_op od_add (JE.v (je_var (pv 2))) (JE.v (je_str))))
    (js_cons (js_set (i := 4) sc__law_names.nd rfl (.inl rfl) (je_callB F__law_draw (hr.mono (by decide)) m__law_draw k__law_draw b__law_draw tk (pv 0) (ja_cons (JE.v (je_int)) (ja_nil)) rfl))
    (js_cons (js_set (i := 5) sc__law_names.nd rfl (.inl rfl) (je_ix ix_d (JE.v (je_lst (ja_cons (JE.v (je_int)) (ja_cons (JE.v (je_int)) (ja_cons (JE.v (je_int)) (ja_cons (JE.v (je_int)) (ja_cons (JE.v (je_int)) (ja_cons (JE.v (je_int)) (ja_cons (JE.v (je_int)) (ja_cons (JE.v (je_int)) (ja_nil))))))))))) (JE.v (je_callB F__law_draw (hr.mono (by decide)) m__law_draw k__law_draw b__law_draw tk (pv 0) (ja_cons (JE.v (je_int)) (ja_nil)) rfl)) (fun _ _ => rfl)))
    (js_cons (js_set (i := 6) sc__law_names.nd rfl (.inl rfl) (je_callB F__law_draw (hr.mono (by decide)) m__law_draw k__law_draw b__law_draw tk (pv 0) (ja_cons (JE.v (je_int)) (ja_nil)) rfl))
    (js_cons (js_set (i := 7) sc__law_names.nd rfl (.inl rfl) (je_ixV (pv 2) (JE.v (je_callB F__law_draw (hr.mono (by decide)) m__law_draw k__law_draw b__law_draw tk (pv 0) (ja_cons (JE.v (je_int)) (ja_nil)) rfl)) (fun _ _ => rfl)))
    (js_cons (js_for po rfl (ji_rg1 m_range (JE.v (je_callB F__law_draw (hr.mono (by decide)) m__law_draw k__law_draw b__law_draw tk (pv 0) (ja_cons (JE.v (je_int)) (ja_nil)) rfl)) rfl) (jg_name (i := 8) sc__law_names.nd rfl (.inl rfl)) (js_one (js_set (i := 7) sc__law_names.nd rfl (.inl rfl) (je_op od_add (JE.v (je_var (pv 7))) (JE.v (je_ixV (pv 3) (JE.v (je_callB F__law_draw (hr.mono (by decide)) m__law_draw k__law_draw b__law_draw tk (pv 0) (ja_cons (JE.v (je_int)) (ja_nil)) rfl)) (fun _ _ => rfl)))))))
    (js_cons (js_set (i := 9) sc__law_names.nd rfl (.inl rfl) (je_callB F__law_draw (hr.mono (by decide)) m__law_draw k__law_draw b__law_draw tk (pv 0) (ja_cons (JE.v (je_op od_add (JE.v (je_b1 cr_len m_len bt_len (jp_var (pv 7)) rfl)) (JE.v (je_int)))) (ja_nil)) rfl))
    (js_cons (js_if (JW.t (jw_and (jt_cmp (od_eq hr.units) (JE.v (je_var (pv 6))) (JE.v (je_int)) (nomark _)) (jw_and1 (jt_cmp (od_eq hr.units) (JE.v (je_op od_mod (JE.v (je_t1 cr_int m_int bt_int (jp_var (pv 4)) rfl)) (JE.v (je_int)))) (JE.v (je_int)) (nomark _))))) (js_cons (js_set (i := 7) sc__law_names.nd rfl (.inl rfl) (je_sl (JE.v (je_op od_add (JE.v (je_var (pv 7))) (JE.v (je_str)))) (jo_none) (jo_some (JE.v (je_int)))))
    (js_one (js_set (i := 9) sc__law_names.nd rfl (.inl rfl) (je_int)))) (js_nil))
    (js_cons (js_set (i := 10) sc__law_names.nd rfl (.inl rfl) (je_lst (ja_nil)))
    (js_cons (js_for po rfl (ji_rg1 m_range (JE.v (je_var (pv 1))) rfl) (jg_name (i := 8) sc__law_names.nd rfl (.inl rfl)) (js_cons (js_set (i := 11) sc__law_names.nd rfl (.inl rfl) (je_ixV (pv 2) (JE.v (je_op od_mod (JE.v (je_t1 cr_int m_int bt_int (JE.p (je_op od_add (JE.v (je_var (pv 4))) (JE.v (je_op od_mul (JE.v (je_var (pv 8))) (JE.v (je_var (pv 5))))))) rfl)) (JE.v (je_int)))) (fun _ _ => rfl)))
    (js_one (js_if (jt_cmp (od_eq hr.units) (JE.v (je_var (pv 6))) (JE.v (je_int)) (nomark _)) (js_one (js_app (pv 10) (je_var (pv 11)) (fun h => ps_expr (pe_bm PySem.F.plainAttrs_list PySem.F.slot_list_append PySem.F.type_list_append mt_append (pv 10) (pa_cons h pa_nil))))) (js_one (js_if (jt_cmp (od_eq hr.units) (JE.v (je_var (pv 6))) (JE.v (je_int)) (nomark _)) (js_one (js_app (pv 10) (je_op od_add (JE.v (je_var (pv 11))) (JE.v (je_slV (pv 7) (jo_none) (jo_some (JE.v (je_op od_mod (JE.v (je_t1 cr_int m_int bt_int (JE.p (je_op od_add (JE.v (je_op od_mul (JE.v (je_var (pv 8))) (JE.v (je_int)))) (JE.v (je_var (pv 4))))) rfl)) (JE.v (je_int)))))))) (fun h => ps_expr (pe_bm PySem.F.plainAttrs_list PySem.F.slot_list_append PySem.F.type_list_append mt_append (pv 10) (pa_cons h pa_nil))))) (js_one (js_app (pv 10) (je_op od_add (JE.v (je_op od_add (JE.v (je_slV (pv 7) (jo_none) (jo_some (JE.v (je_var (pv 9)))))) (JE.v (je_var (pv 11))))) (JE.v (je_slV (pv 7) (jo_some (JE.v (je_var (pv 9)))) (jo_none)))) (fun h => ps_expr (pe_bm PySem.F.plainAttrs_list PySem.F.slot_list_append PySem.F.type_list_append mt_append (pv 10) (pa_cons h pa_nil)))))))))))
    (js_one (js_ret (je_var (pv 10)))))))))))))))
set_option maxHeartbeats 4000000 in
theorem ok__law_q {f : Addr} {fd : FuncData} (F : Fun K "_law_q" "_law_q" s__law_q f fd) (m_range : mg "range" = none) (m_int : mg "int" = none) (m_abs : mg "abs" = none) : FnOk P w K mg base (L2.CX P w) 1 f fd ["n", "d"] (spG K mg 2 d__law_q) := by
  refine known F sc__law_q (fun cdv A outer s H E C hr tk po => ?_)
  exact (js_cons (js_set (i := 2) sc__law_q.nd rfl (.inl rfl) (je_b1 cr_abs m_abs bt_abs (jp_var (pv 0)) rfl))
    (js_cons (js_set (i := 3) sc__law_q.nd rfl (.inl rfl) (je_var (pv 1)))
    (js_cons (js_for po rfl (ji_rg1 m_range (JE.v (je_int)) rfl) (jg_name (i := 4) sc__law_q.nd rfl (.inl rfl)) (js_cons (js_if (jt_cmp (od_eq hr.units) (JE.v (je_var (pv 2))) (JE.v (je_int)) (nomark _)) (js_one (js_ret (je_tup (ja_cons (JE.v (je_op od_fdiv (JE.v (je_var (pv 0))) (JE.v (je_var (pv 3))))) (ja_cons (JE.v (je_op od_fdiv (JE.v (je_var (pv 1))) (JE.v (je_var (pv 3))))) (ja_nil)))))) (js_nil))
    (js_cons (js_set (i := 5) sc__law_q.nd rfl (.inl rfl) (je_op od_mod (JE.v (je_t1 cr_int m_int bt_int (jp_var (pv 3)) rfl)) (JE.v (je_var (pv 2)))))
    (js_cons (js_set (i := 3) sc__law_q.nd rfl (.inl rfl) (je_var (pv 2)))
    (js_one (js_set (i := 2) sc__law_q.nd rfl (.inl rfl) (je_var (pv 5))))))))
    (js_one (js_ret (je_tup (ja_cons (JE.v (je_var (pv 0))) (ja_cons (JE.v (je_var (pv 1))) (ja_nil)))))))))
set_option maxHeartbeats 4000000 in
theorem ok__law_words {f : Addr} {fd : FuncData} (F : Fun K "_law_words" "_law_words" s__law_words f fd) (G__law_draw : Known P w K mg base "_law_draw" ["jar", "size"] 1 d__law_draw) (G__law_jar : Known P w K mg base "_law_jar" ["script", "k"] 1 d__law_jar) (m_range : mg "range" = none) (m_tuple : mg "tuple" = none) (m_list : mg "list" = none) (m_len : mg "len" = none) (m_int : mg "int" = none) : FnOk P w K mg base (L2.CX P w) 2 f fd ["script", "names"] (spG K mg 2 d__law_words) := by
  obtain ⟨a__law_draw, fd__law_draw, F__law_draw, m__law_draw, k__law_draw, b__law_draw⟩ := G__law_draw
  obtain ⟨a__law_jar, fd__law_jar, F__law_jar, m__law_jar, k__law_jar, b__law_jar⟩ := G__law_jar
  refine known F sc__law_words (fun cdv A outer s H E C hr tk po => ?_)
  exact (js_cons (js_set (i := 2) sc__law_words.nd rfl (.inl rfl) (je_call F__law_jar (hr.mono (by decide)) m__law_jar k__law_jar b__law_jar tk (ja_cons (JE.v (je_var (pv 0))) (ja_cons (JE.v (je_int)) (ja_nil))) rfl))
    (js_cons (js_set (i := 3) sc__law_words.nd rfl (.inl rfl) (je_lst (ja_nil)))
    (js_cons (js_for po rfl (ji_rg1 m_range (JE.v (je_ix ix_d (JE.v (je_lst (ja_cons (JE.v (je_callB F__law_draw (hr.mono (by decide)) m__law_draw k__law_draw b__law_draw tk (pv 2) (ja_cons (JE.v (je_int)) (ja_nil)) rfl)) (ja_cons (JE.v (je_op od_add (JE.v (je_int)) (JE.v (je_callB F__law_draw (hr.mono (by decide)) m__law_draw k__law_draw b__law_draw tk (pv 2) (ja_cons (JE.v (je_int)) (ja_nil)) rfl)))) (ja_cons (JE.v (je_int)) (ja_nil)))))) (JE.v (je_callB F__law_draw (hr.mono (by decide)) m__law_draw k__law_draw b__law_draw tk (pv 2) (ja_cons (JE.v (je_int)) (ja_nil)) rfl)) (fun _ _ => rfl))) rfl) (jg_name (i := 4) sc__law_words.nd rfl (.inl rfl)) (js_cons (js_set (i := 5) sc__law_words.nd rfl (.inr rfl) (je_call F__law_jar (hr.mono (by decide)) m__law_jar k__law_jar b__law_jar tk (ja_cons (JE.v (je_var (pv 0))) (ja_cons (JE.v (je_op od_add (JE.v (je_int)) (JE.v (je_op od_mod (JE.v (je_t1 cr_int m_int bt_int (jp_var (pv 4)) rfl)) (JE.v (je_int)))))) (ja_nil))) rfl))
    (js_cons (js_set (i := 6) sc__law_words.nd rfl (.inr rfl) (je_lc (own := [("at", 8)]) rfl sc__law_words.nd (ji_rg1 m_range (JE.v (je_op od_fdiv (JE.v (je_var (pv 4))) (JE.v (je_int)))) rfl) (blkOk_by (own := [("at", 8)]) (N := N__law_words) (sc := defScope s__law_words) (by decide +kernel)) (fun _ _ _ _ _ _ => jg_name (i := 8) sc__law_words.nd rfl (.inl rfl)) (fun _ _ _ _ _ _ => jts_nil) (fun _ _ _ _ _ _ => je_callB F__law_draw (hr.mono (by decide)) m__law_draw k__law_draw b__law_draw takes0 (pv 5) (ja_cons (JE.v (je_int)) (ja_nil)) rfl)))
    (js_cons (js_setLc (i := 7) (own := [("at", 8)]) rfl sc__law_words.nd rfl rfl (sw_true rfl rfl rfl (by decide +kernel)) (ji_rg1 m_range (JE.v (je_callB F__law_draw (hr.mono (by decide)) m__law_draw k__law_draw b__law_draw tk (pv 5) (ja_cons (JE.v (je_int)) (ja_nil)) rfl)) rfl) (blkOk_by (own := [("at", 8)]) (N := N__law_words) (sc := defScope s__law_words) (by decide +kernel)) (fun _ _ _ _ _ _ => jg_name (i := 8) sc__law_words.nd rfl (.inl rfl)) (fun _ _ _ _ _ _ => jts_nil) (fun _ _ _ _ _ _ => je_ixV (pv 1) (JE.v (je_op od_mod (JE.v (je_t1 cr_int m_int bt_int (JE.p (je_op od_add (JE.v (je_callB F__law_draw (hr.mono (by decide)) m__law_draw k__law_draw b__law_draw takes0 (pv 5) (ja_cons (JE.v (je_int)) (ja_nil)) rfl)) (JE.v (je_op od_mul (JE.v (je_b1 cr_len m_len bt_len (jp_var (pv 6)) rfl)) (JE.v (je_int)))))) rfl)) (JE.v (je_int)))) (fun _ _ => rfl)))
    (js_cons (js_if (JW.t (jw_and (jt_cmp od_gt (JE.v (je_var (pv 4))) (JE.v (je_int)) (nomark _)) (jw_and1 (jt_cmp (od_eq hr.units) (JE.v (je_callB F__law_draw (hr.mono (by decide)) m__law_draw k__law_draw b__law_draw tk (pv 5) (ja_cons (JE.v (je_int)) (ja_nil)) rfl)) (JE.v (je_int)) (nomark _))))) (js_one (js_set (i := 7) sc__law_words.nd rfl (.inl rfl) (je_t1 cr_list m_list bt_list (JE.p (je_ixV (pv 3) (JE.v (je_op od_sub (JE.v (je_var (pv 4))) (JE.v (je_int)))) (fun _ _ => rfl))) rfl))) (js_nil))
    (js_one (js_app (pv 3) (je_t1 cr_tuple m_tuple bt_tuple (jp_var (pv 7)) rfl) (fun h => ps_expr (pe_bm PySem.F.plainAttrs_list PySem.F.slot_list_append PySem.F.type_list_append mt_append (pv 3) (pa_cons h pa_nil))))))))))
    (js_one (js_ret (je_var (pv 3)))))))
set_option maxHeartbeats 4000000 in
theorem ok__law_counted {f : Addr} {fd : FuncData} (F : Fun K "_law_counted" "_law_counted" s__law_counted f fd) (m_sorted : mg "sorted" = none) (m_tuple : mg "tuple" = none) : FnOk P w K mg base (L2.CX P w) 1 f fd ["words"] (spG K mg 1 d__law_counted) := by
  refine known F sc__law_counted (fun cdv A outer s H E C hr tk po => ?_)
  exact (js_cons (js_set (i := 1) sc__law_counted.nd rfl (.inr rfl) (je_dic0))
    (js_cons (js_for po rfl (ji_any (JE.v (je_var (pv 0)))) (jg_name (i := 2) sc__law_counted.nd rfl (.inl rfl)) (js_one (js_for po rfl (ji_any (JE.v (je_var (pv 2)))) (jg_name (i := 3) sc__law_counted.nd rfl (.inl rfl)) (js_one (js_setD (hu_of hr) (JE.v (je_op od_add (JE.v (je_dget (hu_of hr) (pv 1) (JE.v (je_var (pv 3))) (JE.v (je_int)) ⟨rfl, rfl, rfl, rfl⟩)) (JE.v (je_int)))) (pv 1) (JE.v (je_var (pv 3))))))))
    (js_one (js_ret (je_t1 cr_tuple m_tuple bt_tuple (JE.p (je_lc (own := [("letter", 3)]) rfl sc__law_counted.nd (ji_any (JE.v (je_b1 (cr_sortedD rfl) m_sorted bt_sorted (jp_var (pv 1)) rfl))) (blkOk_by (own := [("letter", 3)]) (N := N__law_counted) (sc := defScope s__law_counted) (by decide +kernel)) (fun _ _ _ _ _ _ => jg_name (i := 3) sc__law_counted.nd rfl (.inl rfl)) (fun _ _ _ _ _ _ => jts_nil) (fun _ _ _ _ _ _ => je_tup (ja_cons (JE.v (je_var (pv 3))) (ja_cons (JE.v (je_dix (hu_of hr) (pv 1) (JE.v (je_var (pv 3))) (fun _ _ => rfl))) (ja_nil)))))) rfl)))))
set_option maxHeartbeats 4000000 in
theorem ok__law_counts_told {f : Addr} {fd : FuncData} (F : Fun K "_law_counts_told" "_law_counts_told" s__law_counts_told f fd) (G__law_same : Known P w K mg base "_law_same" ["first", "second"] 2 d__law_same) (G_letter_counts : Known P w K mg base "letter_counts" ["words"] 2 d_letter_counts) (G__law_counted : Known P w K mg base "_law_counted" ["words"] 1 d__law_counted) (G__law_draw : Known P w K mg base "_law_draw" ["jar", "size"] 1 d__law_draw) (m_tuple : mg "tuple" = none) (m_list : mg "list" = none) (m_len : mg "len" = none) : FnOk P w K mg base (L2.CX P w) 3 f fd ["jar", "words"] (spG K mg 2 d__law_counts_told) := by
  obtain ⟨a__law_same, fd__law_same, F__law_same, m__law_same, k__law_same, b__law_same⟩ := G__law_same
  obtain ⟨a_letter_counts, fd_letter_counts, F_letter_counts, m_letter_counts, k_letter_counts, b_letter_counts⟩ := G_letter_counts
  obtain ⟨a__law_counted, fd__law_counted, F__law_counted, m__law_counted, k__law_counted, b__law_counted⟩ := G__law_counted
  obtain ⟨a__law_draw, fd__law_draw, F__law_draw, m__law_draw, k__law_draw, b__law_draw⟩ := G__law_draw
  refine known F sc__law_counts_told (fun cdv A outer s H E C hr tk po => ?_)
  exact (js_cons (js_set (i := 2) sc__law_counts_told.nd rfl (.inl rfl) (je_callB F__law_draw (hr.mono (by decide)) m__law_draw k__law_draw b__law_draw tk (pv 0) (ja_cons (JE.v (je_op od_add (JE.v (je_int)) (JE.v (je_b1 cr_len m_len bt_len (jp_var (pv 1)) rfl)))) (ja_nil)) rfl))
    (js_cons (js_set (i := 3) sc__law_counts_told.nd rfl (.inl rfl) (je_rev (JE.p (je_op od_add (JE.v (je_slV (pv 1) (jo_some (JE.v (je_var (pv 2)))) (jo_none))) (JE.v (je_slV (pv 1) (jo_none) (jo_some (JE.v (je_var (pv 2))))))))))
    (js_cons (js_set (i := 4) sc__law_counts_told.nd rfl (.inl rfl) (je_lst (ja_nil)))
    (js_cons (js_for po rfl (ji_any (JE.v (je_var (pv 1)))) (jg_name (i := 5) sc__law_counts_told.nd rfl (.inl rfl)) (js_one (js_ext (je_t1 cr_list m_list bt_list (jp_var (pv 5)) rfl) (fun h => ps_expr (pe_bm PySem.F.plainAttrs_list PySem.F.slot_list_extend PySem.F.type_list_extend mt_extend (pv 4) (pa_cons h pa_nil))))))
    (js_cons (js_set (i := 6) sc__law_counts_told.nd rfl (.inl rfl) (je_call F__law_counted (hr.mono (by decide)) m__law_counted k__law_counted b__law_counted tk (ja_cons (JE.v (je_var (pv 1))) (ja_nil)) rfl))
    (js_cons (js_for po rfl (ji_any (JE.v (je_lst (ja_cons (JE.v (je_tup (ja_cons (JE.v (je_var (pv 1))) (ja_cons (JE.v (je_var (pv 6))) (ja_nil))))) (ja_cons (JE.v (je_tup (ja_cons (JE.v (je_var (pv 3))) (ja_cons (JE.v (je_var (pv 6))) (ja_nil))))) (ja_cons (JE.v (je_tup (ja_cons (JE.v (je_lst (ja_cons (JE.v (je_t1 cr_tuple m_tuple bt_tuple (jp_var (pv 4)) rfl)) (ja_nil)))) (ja_cons (JE.v (je_var (pv 6))) (ja_nil))))) (ja_cons (JE.v (je_tup (ja_cons (JE.v (je_slV (pv 1) (jo_none) (jo_some (JE.v (je_var (pv 2)))))) (ja_cons (JE.v (je_non)) (ja_nil))))) (ja_cons (JE.v (je_tup (ja_cons (JE.v (je_slV (pv 1) (jo_some (JE.v (je_var (pv 2)))) (jo_none))) (ja_cons (JE.v (je_non)) (ja_nil))))) (ja_nil))))))))) (jg_tup rfl (jgs_cons (jg_name (i := 7) sc__law_counts_told.nd rfl (.inl rfl)) (jgs_cons (jg_name (i := 8) sc__law_counts_told.nd rfl (.inl rfl)) (jgs_nil)))) (js_cons (js_if (jt_cmp od_is (JE.v (je_var (pv 8))) (JE.v (je_non)) (nomark _)) (js_one (js_set (i := 8) sc__law_counts_told.nd rfl (.inl rfl) (je_call F__law_counted (hr.mono (by decide)) m__law_counted k__law_counted b__law_counted tk (ja_cons (JE.v (je_var (pv 7))) (ja_nil)) rfl))) (js_nil))
    (js_one (js_if (jt_not (jt_tru (JE.p (je_call F__law_same (hr.mono (by decide)) m__law_same k__law_same b__law_same tk (ja_cons (JE.v (je_call F_letter_counts (hr.mono (by decide)) m_letter_counts k_letter_counts b_letter_counts tk (ja_cons (JE.v (je_t1 cr_tuple m_tuple bt_tuple (jp_var (pv 7)) rfl)) (ja_nil)) rfl)) (ja_cons (JE.v (je_var (pv 8))) (ja_nil))) rfl)))) (js_one (js_ret (je_bl))) (js_nil)))))
    (js_one (js_ret (je_bl)))))))))
set_option maxHeartbeats 4000000 in
theorem ok__law_reserve {f : Addr} {fd : FuncData} (F : Fun K "_law_reserve" "_law_reserve" s__law_reserve f fd) (G__law_q : Known P w K mg base "_law_q" ["n", "d"] 1 d__law_q) (G__law_draw : Known P w K mg base "_law_draw" ["jar", "size"] 1 d__law_draw) : FnOk P w K mg base (L2.CX P w) 2 f fd ["jar"] (spG K mg 1 d__law_reserve) := by
  obtain ⟨a__law_q, fd__law_q, F__law_q, m__law_q, k__law_q, b__law_q⟩ := G__law_q
  obtain ⟨a__law_draw, fd__law_draw, F__law_draw, m__law_draw, k__law_draw, b__law_draw⟩ := G__law_draw
  refine known F sc__law_reserve (fun cdv A outer s H E C hr tk po => ?_)
  exact (js_cons (js_set (i := 1) sc__law_reserve.nd rfl (.inl rfl) (je_callB F__law_draw (hr.mono (by decide)) m__law_draw k__law_draw b__law_draw tk (pv 0) (ja_cons (JE.v (je_int)) (ja_nil)) rfl))
    (js_cons (js_if (jt_cmp (od_eq hr.units) (JE.v (je_var (pv 1))) (JE.v (je_int)) (nomark _)) (js_one (js_ret (je_tup (ja_cons (JE.v (je_int)) (ja_cons (JE.v (je_int)) (ja_nil)))))) (js_nil))
    (js_cons (js_if (jt_cmp (od_eq hr.units) (JE.v (je_var (pv 1))) (JE.v (je_int)) (nomark _)) (js_one (js_ret (je_call F__law_q (hr.mono (by decide)) m__law_q k__law_q b__law_q tk (ja_cons (JE.v (je_callB F__law_draw (hr.mono (by decide)) m__law_draw k__law_draw b__law_draw tk (pv 0) (ja_cons (JE.v (je_int)) (ja_nil)) rfl)) (ja_cons (JE.v (je_op od_add (JE.v (je_int)) (JE.v (je_callB F__law_draw (hr.mono (by decide)) m__law_draw k__law_draw b__law_draw tk (pv 0) (ja_cons (JE.v (je_int)) (ja_nil)) rfl)))) (ja_nil))) rfl))) (js_nil))
    (js_cons (js_if (jt_cmp (od_eq hr.units) (JE.v (je_var (pv 1))) (JE.v (je_int)) (nomark _)) (js_one (js_ret (je_call F__law_q (hr.mono (by decide)) m__law_q k__law_q b__law_q tk (ja_cons (JE.v (je_callB F__law_draw (hr.mono (by decide)) m__law_draw k__law_draw b__law_draw tk (pv 0) (ja_cons (JE.v (je_int)) (ja_nil)) rfl)) (ja_cons (JE.v (je_int)) (ja_nil))) rfl))) (js_nil))
    (js_one (js_ret (je_call F__law_q (hr.mono (by decide)) m__law_q k__law_q b__law_q tk (ja_cons (JE.v (je_callB F__law_draw (hr.mono (by decide)) m__law_draw k__law_draw b__law_draw tk (pv 0) (ja_cons (JE.v (je_int)) (ja_nil)) rfl)) (ja_cons (JE.v (je_op od_add (JE.v (je_int)) (JE.v (je_callB F__law_draw (hr.mono (by decide)) m__law_draw k__law_draw b__law_draw tk (pv 0) (ja_cons (JE.v (je_int)) (ja_nil)) rfl)))) (ja_nil))) rfl)))))))
set_option maxHeartbeats 4000000 in
theorem ok__law_count {f : Addr} {fd : FuncData} (F : Fun K "_law_count" "_law_count" s__law_count f fd) (G__law_draw : Known P w K mg base "_law_draw" ["jar", "size"] 1 d__law_draw) (G__law_jar : Known P w K mg base "_law_jar" ["script", "k"] 1 d__law_jar) (m_tuple : mg "tuple" = none) : FnOk P w K mg base (L2.CX P w) 2 f fd ["script", "names"] (spG K mg 2 d__law_count) := by
  obtain ⟨a__law_draw, fd__law_draw, F__law_draw, m__law_draw, k__law_draw, b__law_draw⟩ := G__law_draw
  obtain ⟨a__law_jar, fd__law_jar, F__law_jar, m__law_jar, k__law_jar, b__law_jar⟩ := G__law_jar
  refine known F sc__law_count (fun cdv A outer s H E C hr tk po => ?_)
  exact (js_cons (js_set (i := 2) sc__law_count.nd rfl (.inl rfl) (je_call F__law_jar (hr.mono (by decide)) m__law_jar k__law_jar b__law_jar tk (ja_cons (JE.v (je_var (pv 0))) (ja_cons (JE.v (je_int)) (ja_nil))) rfl))
    (js_cons (js_set (i := 3) sc__law_count.nd rfl (.inl rfl) (je_ix ix_d (JE.v (je_lst (ja_cons (JE.v (je_int)) (ja_cons (JE.v (je_int)) (ja_cons (JE.v (je_int)) (ja_nil)))))) (JE.v (je_callB F__law_draw (hr.mono (by decide)) m__law_draw k__law_draw b__law_draw tk (pv 2) (ja_cons (JE.v (je_int)) (ja_nil)) rfl)) (fun _ _ => rfl)))
    (js_cons (js_set (i := 4) sc__law_count.nd rfl (.inl rfl) (je_lst (ja_nil)))
    (js_cons (js_for po rfl (ji_any (JE.v (je_slV (pv 1) (jo_none) (jo_some (JE.v (je_ix ix_d (JE.v (je_lst (ja_cons (JE.v (je_int)) (ja_cons (JE.v (je_callB F__law_draw (hr.mono (by decide)) m__law_draw k__law_draw b__law_draw tk (pv 2) (ja_cons (JE.v (je_int)) (ja_nil)) rfl)) (ja_cons (JE.v (je_int)) (ja_nil)))))) (JE.v (je_callB F__law_draw (hr.mono (by decide)) m__law_draw k__law_draw b__law_draw tk (pv 2) (ja_cons (JE.v (je_int)) (ja_nil)) rfl)) (fun _ _ => rfl))))))) (jg_name (i := 5) sc__law_count.nd rfl (.inl rfl)) (js_one (js_app (pv 4) (je_tup (ja_cons (JE.v (je_var (pv 5))) (ja_cons (JE.v (je_ix ix_d (JE.v (je_lst (ja_cons (JE.v (je_callB F__law_draw (hr.mono (by decide)) m__law_draw k__law_draw b__law_draw tk (pv 2) (ja_cons (JE.v (je_var (pv 3))) (ja_nil)) rfl)) (ja_cons (JE.v (je_int)) (ja_cons (JE.v (je_int)) (ja_cons (JE.v (je_int)) (ja_nil))))))) (JE.v (je_callB F__law_draw (hr.mono (by decide)) m__law_draw k__law_draw b__law_draw tk (pv 2) (ja_cons (JE.v (je_int)) (ja_nil)) rfl)) (fun _ _ => rfl))) (ja_nil)))) (fun h => ps_expr (pe_bm PySem.F.plainAttrs_list PySem.F.slot_list_append PySem.F.type_list_append mt_append (pv 4) (pa_cons h pa_nil))))))
    (js_one (js_ret (je_t1 cr_tuple m_tuple bt_tuple (jp_var (pv 4)) rfl)))))))
set_option maxHeartbeats 4000000 in
theorem ok__law_fits {f : Addr} {fd : FuncData} (F : Fun K "_law_fits" "_law_fits" s__law_fits f fd) (m_len : mg "len" = none) (m_range : mg "range" = none) (m_isinstance : mg "isinstance" = none) (m_int : mg "int" = none) (m_bool : mg "bool" = none) (m_tuple : mg "tuple" = none) : FnOk P w K mg base (L2.CX P w) 1 f fd ["told", "counted", "reserve"] (spG K mg 3 d__law_fits) := by
  refine known F sc__law_fits (fun cdv A outer s H E C hr tk po => ?_)
  exact (js_cons (js_if (JW.t (jw_or (jt_not (jt_tru (JE.p (je_isi kit_tuple bt_tuple m_isinstance m_tuple (jp_var (pv 0)) rfl rfl)))) (jw_or1 (jt_cmp (od_ne hr.units) (JE.v (je_b1 cr_len m_len bt_len (jp_var (pv 0)) rfl)) (JE.v (je_b1 cr_len m_len bt_len (jp_var (pv 1)) rfl)) (nomark _))))) (js_one (js_ret (je_bl))) (js_nil))
    (js_cons (js_set (i := 3) sc__law_fits.nd rfl (.inl rfl) (je_op od_add (JE.v (je_ixV (pv 2) (JE.v (je_int)) (fun _ _ => rfl))) (JE.v (je_ixV (pv 2) (JE.v (je_int)) (fun _ _ => rfl)))))
    (js_cons (js_for po rfl (ji_rg1 m_range (JE.v (je_b1 cr_len m_len bt_len (jp_var (pv 1)) rfl)) rfl) (jg_name (i := 4) sc__law_fits.nd rfl (.inl rfl)) (js_cons (js_set (i := 5) sc__law_fits.nd rfl (.inl rfl) (je_ixV (pv 0) (JE.v (je_var (pv 4))) (fun _ _ => rfl)))
    (js_cons (js_if (JW.t (jw_or (jt_not (jt_tru (JE.p (je_isi kit_tuple bt_tuple m_isinstance m_tuple (jp_var (pv 5)) rfl rfl)))) (jw_or (jt_cmp (od_ne hr.units) (JE.v (je_b1 cr_len m_len bt_len (jp_var (pv 5)) rfl)) (JE.v (je_int)) (nomark _)) (jw_or1 (jt_cmp (od_ne hr.units) (JE.v (je_ixV (pv 5) (JE.v (je_int)) (fun _ _ => rfl))) (JE.v (je_ix ix_d (JE.v (je_ixV (pv 1) (JE.v (je_var (pv 4))) (fun _ _ => rfl))) (JE.v (je_int)) (fun _ _ => rfl))) (nomark _)))))) (js_one (js_ret (je_bl))) (js_nil))
    (js_cons (js_if (JW.t (jw_or (jt_not (jt_tru (JE.p (je_isi kit_int bt_int m_isinstance m_int (JE.p (je_ixV (pv 5) (JE.v (je_int)) (fun _ _ => rfl))) rfl rfl)))) (jw_or1 (jt_tru (JE.p (je_isi kit_bool bt_bool m_isinstance m_bool (JE.p (je_ixV (pv 5) (JE.v (je_int)) (fun _ _ => rfl))) rfl rfl)))))) (js_one (js_ret (je_bl))) (js_nil))
    (js_one (js_if (JW.t (jw_or (jt_cmp od_lt (JE.v (je_op od_mul (JE.v (je_ixV (pv 5) (JE.v (je_int)) (fun _ _ => rfl))) (JE.v (je_ixV (pv 2) (JE.v (je_int)) (fun _ _ => rfl))))) (JE.v (je_op od_mul (JE.v (je_ix ix_d (JE.v (je_ixV (pv 1) (JE.v (je_var (pv 4))) (fun _ _ => rfl))) (JE.v (je_int)) (fun _ _ => rfl))) (JE.v (je_var (pv 3))))) (nomark _)) (jw_or1 (jt_cmp od_ge (JE.v (je_op od_mul (JE.v (je_op od_sub (JE.v (je_ixV (pv 5) (JE.v (je_int)) (fun _ _ => rfl))) (JE.v (je_int)))) (JE.v (je_ixV (pv 2) (JE.v (je_int)) (fun _ _ => rfl))))) (JE.v (je_op od_mul (JE.v (je_ix ix_d (JE.v (je_ixV (pv 1) (JE.v (je_var (pv 4))) (fun _ _ => rfl))) (JE.v (je_int)) (fun _ _ => rfl))) (JE.v (je_var (pv 3))))) (nomark _))))) (js_one (js_ret (je_bl))) (js_nil)))))))
    (js_one (js_ret (je_bl))))))
set_option maxHeartbeats 4000000 in
theorem ok__law_reserve_refuses {f : Addr} {fd : FuncData} (F : Fun K "_law_reserve_refuses" "_law_reserve_refuses" s__law_reserve_refuses f fd) (G_with_reserve : Known P w K mg base "with_reserve" ["counted", "reserve"] 5 d_with_reserve) (m_isinstance : mg "isinstance" = none) (m_ValueError : mg "ValueError" = none) {C_BadBill : Addr} (u_BadBill : mg "BadBill" = some (.ref C_BadBill)) (xc_BadBill : ExcC K C_BadBill) (xm_BadBill_BadBill : PySem.W.exmOne K (.ref C_BadBill) (.ref C_BadBill) = some true) (xk_BadBill_ValueError : PySem.W.kitOne K (.ref C_BadBill) (.type "ValueError") = some true) : FnOk P w K mg base (L2.CX P w) 6 f fd ["counted", "reserve"] (spG K mg 2 d__law_reserve_refuses) := by
  obtain ⟨a_with_reserve, fd_with_reserve, F_with_reserve, m_with_reserve, k_with_reserve, b_with_reserve⟩ := G_with_reserve
  refine known F sc__law_reserve_refuses (fun cdv A outer s H E C hr tk po => ?_)
  exact (js_cons (js_try1 rfl rfl sc__law_reserve_refuses.nd rfl rfl u_BadBill rfl tk u_BadBill xm_BadBill_BadBill (fun W1 pn1 xe1 tk1 po1 => js_one (js_expr (je_call F_with_reserve (hr.mono (by decide)) m_with_reserve k_with_reserve b_with_reserve tk1 (ja_cons (JE.v (je_var (pv 0))) (ja_cons (JE.v (je_var (pv 1))) (ja_nil))) rfl))) (fun a2 oe2 pn2 hz2 hf2 => ke_is xc_BadBill hz2 hf2 (pv 2) (ke_blt m_ValueError rfl bt_ValueError) (fun _ h => h) xk_BadBill_ValueError rfl m_isinstance))
    (js_one (js_ret (je_bl))))
set_option maxHeartbeats 4000000 in
theorem ok__law_reserves_told {f : Addr} {fd : FuncData} (F : Fun K "_law_reserves_told" "_law_reserves_told" s__law_reserves_told f fd) (G__law_fits : Known P w K mg base "_law_fits" ["told", "counted", "reserve"] 1 d__law_fits) (G_with_reserve : Known P w K mg base "with_reserve" ["counted", "reserve"] 5 d_with_reserve) (G__law_reserve_refuses : Known P w K mg base "_law_reserve_refuses" ["counted", "reserve"] 6 d__law_reserve_refuses) (G__law_q : Known P w K mg base "_law_q" ["n", "d"] 1 d__law_q) (G__law_reserve : Known P w K mg base "_law_reserve" ["jar"] 2 d__law_reserve) (m_len : mg "len" = none) (m_range : mg "range" = none) (m_max : mg "max" = none) : FnOk P w K mg base (L2.CX P w) 7 f fd ["jar", "counted"] (spG K mg 2 d__law_reserves_told) := by
  obtain ⟨a__law_fits, fd__law_fits, F__law_fits, m__law_fits, k__law_fits, b__law_fits⟩ := G__law_fits
  obtain ⟨a_with_reserve, fd_with_reserve, F_with_reserve, m_with_reserve, k_with_reserve, b_with_reserve⟩ := G_with_reserve
  obtain ⟨a__law_reserve_refuses, fd__law_reserve_refuses, F__law_reserve_refuses, m__law_reserve_refuses, k__law_reserve_refuses, b__law_reserve_refuses⟩ := G__law_reserve_refuses
  obtain ⟨a__law_q, fd__law_q, F__law_q, m__law_q, k__law_q, b__law_q⟩ := G__law_q
  obtain ⟨a__law_reserve, fd__law_reserve, F__law_reserve, m__law_reserve, k__law_reserve, b__law_reserve⟩ := G__law_reserve
  refine known F sc__law_reserves_told (fun cdv A outer s H E C hr tk po => ?_)
  exact (js_cons (js_set (i := 2) sc__law_reserves_told.nd rfl (.inl rfl) (je_callB F__law_reserve (hr.mono (by decide)) m__law_reserve k__law_reserve b__law_reserve tk (pv 0) (ja_nil) rfl))
    (js_cons (js_set (i := 3) sc__law_reserves_told.nd rfl (.inl rfl) (je_callB F__law_reserve (hr.mono (by decide)) m__law_reserve k__law_reserve b__law_reserve tk (pv 0) (ja_nil) rfl))
    (js_cons (js_set (i := 4) sc__law_reserves_told.nd rfl (.inl rfl) (je_call F__law_q (hr.mono (by decide)) m__law_q k__law_q b__law_q tk (ja_cons (JE.v (je_op od_add (JE.v (je_op od_mul (JE.v (je_ixV (pv 2) (JE.v (je_int)) (fun _ _ => rfl))) (JE.v (je_ixV (pv 3) (JE.v (je_int)) (fun _ _ => rfl))))) (JE.v (je_op od_mul (JE.v (je_ixV (pv 3) (JE.v (je_int)) (fun _ _ => rfl))) (JE.v (je_ixV (pv 2) (JE.v (je_int)) (fun _ _ => rfl))))))) (ja_cons (JE.v (je_op od_mul (JE.v (je_ixV (pv 2) (JE.v (je_int)) (fun _ _ => rfl))) (JE.v (je_ixV (pv 3) (JE.v (je_int)) (fun _ _ => rfl))))) (ja_nil))) rfl))
    (js_cons (js_set (i := 5) sc__law_reserves_told.nd rfl (.inl rfl) (je_call F_with_reserve (hr.mono (by decide)) m_with_reserve k_with_reserve b_with_reserve tk (ja_cons (JE.v (je_var (pv 1))) (ja_cons (JE.v (je_var (pv 2))) (ja_nil))) rfl))
    (js_cons (js_if (JW.t (jw_or (jt_not (jt_tru (JE.p (je_call F__law_fits (hr.mono (by decide)) m__law_fits k__law_fits b__law_fits tk (ja_cons (JE.v (je_var (pv 5))) (ja_cons (JE.v (je_var (pv 1))) (ja_cons (JE.v (je_var (pv 2))) (ja_nil)))) rfl)))) (jw_or1 (jt_not (jt_tru (JE.p (je_call F__law_fits (hr.mono (by decide)) m__law_fits k__law_fits b__law_fits tk (ja_cons (JE.v (je_call F_with_reserve (hr.mono (by decide)) m_with_reserve k_with_reserve b_with_reserve tk (ja_cons (JE.v (je_var (pv 1))) (ja_cons (JE.v (je_var (pv 3))) (ja_nil))) rfl)) (ja_cons (JE.v (je_var (pv 1))) (ja_cons (JE.v (je_var (pv 3))) (ja_nil)))) rfl))))))) (js_one (js_ret (je_bl))) (js_nil))
    (js_cons (js_if (jt_cmp od_gt (JE.v (je_b1 (cr_max1 rfl) m_max bt_max (JE.p (je_op od_add (JE.v (je_lst (ja_cons (JE.v (je_int)) (ja_nil)))) (JE.v (je_lc (own := [("item", 9)]) rfl sc__law_reserves_told.nd (ji_any (JE.v (je_var (pv 5)))) (blkOk_by (own := [("item", 9)]) (N := N__law_reserves_told) (sc := defScope s__law_reserves_told) (by decide +kernel)) (fun _ _ _ _ _ _ => jg_name (i := 9) sc__law_reserves_told.nd rfl (.inl rfl)) (fun _ _ _ _ _ _ => jts_nil) (fun _ _ _ _ _ _ => je_ixV (pv 9) (JE.v (je_int)) (fun _ _ => rfl)))))) rfl)) (JE.v (je_int)) (nomark _)) (js_one (js_ret (je_call F__law_reserve_refuses (hr.mono (by decide)) m__law_reserve_refuses k__law_reserve_refuses b__law_reserve_refuses tk (ja_cons (JE.v (je_var (pv 5))) (ja_cons (JE.v (je_var (pv 3))) (ja_nil))) rfl))) (js_nil))
    (js_cons (js_set (i := 6) sc__law_reserves_told.nd rfl (.inr rfl) (je_call F_with_reserve (hr.mono (by decide)) m_with_reserve k_with_reserve b_with_reserve tk (ja_cons (JE.v (je_var (pv 5))) (ja_cons (JE.v (je_var (pv 3))) (ja_nil))) rfl))
    (js_cons (js_if (jt_not (jt_tru (JE.p (je_call F__law_fits (hr.mono (by decide)) m__law_fits k__law_fits b__law_fits tk (ja_cons (JE.v (je_var (pv 6))) (ja_cons (JE.v (je_var (pv 5))) (ja_cons (JE.v (je_var (pv 3))) (ja_nil)))) rfl)))) (js_one (js_ret (je_bl))) (js_nil))
    (js_cons (js_if (JW.t (jw_or (jt_cmp od_gt (JE.v (je_ixV (pv 4) (JE.v (je_int)) (fun _ _ => rfl))) (JE.v (je_int)) (nomark _)) (jw_or1 (jt_cmp od_gt (JE.v (je_ixV (pv 4) (JE.v (je_int)) (fun _ _ => rfl))) (JE.v (je_int)) (nomark _))))) (js_one (js_ret (je_bl))) (js_nil))
    (js_cons (js_set (i := 7) sc__law_reserves_told.nd rfl (.inr rfl) (je_call F_with_reserve (hr.mono (by decide)) m_with_reserve k_with_reserve b_with_reserve tk (ja_cons (JE.v (je_var (pv 1))) (ja_cons (JE.v (je_var (pv 4))) (ja_nil))) rfl))
    (js_cons (js_if (jt_not (jt_tru (JE.p (je_call F__law_fits (hr.mono (by decide)) m__law_fits k__law_fits b__law_fits tk (ja_cons (JE.v (je_var (pv 7))) (ja_cons (JE.v (je_var (pv 1))) (ja_cons (JE.v (je_var (pv 4))) (ja_nil)))) rfl)))) (js_one (js_ret (je_bl))) (js_nil))
    (js_one (js_ret (je_cmp (od_eq hr.units) (JE.v (je_b1 cr_len m_len bt_len (JE.p (je_lc (own := [("at", 8)]) rfl sc__law_reserves_told.nd (ji_rg1 m_range (JE.v (je_b1 cr_len m_len bt_len (jp_var (pv 7)) rfl)) rfl) (blkOk_by (own := [("at", 8)]) (N := N__law_reserves_told) (sc := defScope s__law_reserves_told) (by decide +kernel)) (fun _ _ _ _ _ _ => jg_name (i := 8) sc__law_reserves_told.nd rfl (.inl rfl)) (fun _ _ _ _ _ _ => jts_one (jt_cmp od_gt (JE.v (je_ix ix_d (JE.v (je_ixV (pv 7) (JE.v (je_var (pv 8))) (fun _ _ => rfl))) (JE.v (je_int)) (fun _ _ => rfl))) (JE.v (je_ix ix_d (JE.v (je_ixV (pv 6) (JE.v (je_var (pv 8))) (fun _ _ => rfl))) (JE.v (je_int)) (fun _ _ => rfl))) (nomark _))) (fun _ _ _ _ _ _ => je_var (pv 8)))) rfl)) (JE.v (je_int)) (nomark _)))))))))))))))
set_option maxHeartbeats 4000000 in
theorem ok_law {f : Addr} {fd : FuncData} (F : Fun K "law" "law" s_law f fd) (G__law_same : Known P w K mg base "_law_same" ["first", "second"] 2 d__law_same) (G_with_reserve : Known P w K mg base "with_reserve" ["counted", "reserve"] 5 d_with_reserve) (G__law_fits : Known P w K mg base "_law_fits" ["told", "counted", "reserve"] 1 d__law_fits) (G__law_counted : Known P w K mg base "_law_counted" ["words"] 1 d__law_counted) (G__law_reserve_refuses : Known P w K mg base "_law_reserve_refuses" ["counted", "reserve"] 6 d__law_reserve_refuses) (G__law_names : Known P w K mg base "_law_names" ["jar", "many"] 2 d__law_names) (G__law_reserves_told : Known P w K mg base "_law_reserves_told" ["jar", "counted"] 7 d__law_reserves_told) (G__law_count : Known P w K mg base "_law_count" ["script", "names"] 2 d__law_count) (G__law_counts_told : Known P w K mg base "_law_counts_told" ["jar", "words"] 3 d__law_counts_told) (G__law_words : Known P w K mg base "_law_words" ["script", "names"] 2 d__law_words) (G__law_jar : Known P w K mg base "_law_jar" ["script", "k"] 1 d__law_jar) (m_tuple : mg "tuple" = none) (m_range : mg "range" = none) : FnOk P w K mg base (L2.CX P w) 8 f fd ["script"] (spG K mg 1 d_law) := by
  obtain ⟨a__law_same, fd__law_same, F__law_same, m__law_same, k__law_same, b__law_same⟩ := G__law_same
  obtain ⟨a_with_reserve, fd_with_reserve, F_with_reserve, m_with_reserve, k_with_reserve, b_with_reserve⟩ := G_with_reserve
  obtain ⟨a__law_fits, fd__law_fits, F__law_fits, m__law_fits, k__law_fits, b__law_fits⟩ := G__law_fits
  obtain ⟨a__law_counted, fd__law_counted, F__law_counted, m__law_counted, k__law_counted, b__law_counted⟩ := G__law_counted
  obtain ⟨a__law_reserve_refuses, fd__law_reserve_refuses, F__law_reserve_refuses, m__law_reserve_refuses, k__law_reserve_refuses, b__law_reserve_refuses⟩ := G__law_reserve_refuses
  obtain ⟨a__law_names, fd__law_names, F__law_names, m__law_names, k__law_names, b__law_names⟩ := G__law_names
  obtain ⟨a__law_reserves_told, fd__law_reserves_told, F__law_reserves_told, m__law_reserves_told, k__law_reserves_told, b__law_reserves_told⟩ := G__law_reserves_told
  obtain ⟨a__law_count, fd__law_count, F__law_count, m__law_count, k__law_count, b__law_count⟩ := G__law_count
  obtain ⟨a__law_counts_told, fd__law_counts_told, F__law_counts_told, m__law_counts_told, k__law_counts_told, b__law_counts_told⟩ := G__law_counts_told
  obtain ⟨a__law_words, fd__law_words, F__law_words, m__law_words, k__law_words, b__law_words⟩ := G__law_words
  obtain ⟨a__law_jar, fd__law_jar, F__law_jar, m__law_jar, k__law_jar, b__law_jar⟩ := G__law_jar
  refine known F sc_law (fun cdv A outer s H E C hr tk po => ?_)
  exact (js_cons (js_set (i := 1) sc_law.nd rfl (.inl rfl) (je_call F__law_jar (hr.mono (by decide)) m__law_jar k__law_jar b__law_jar tk (ja_cons (JE.v (je_var (pv 0))) (ja_cons (JE.v (je_int)) (ja_nil))) rfl))
    (js_cons (js_set (i := 2) sc_law.nd rfl (.inl rfl) (je_callB F__law_names (hr.mono (by decide)) m__law_names k__law_names b__law_names tk (pv 1) (ja_cons (JE.v (je_int)) (ja_nil)) rfl))
    (js_cons (js_set (i := 3) sc_law.nd rfl (.inl rfl) (je_call F__law_words (hr.mono (by decide)) m__law_words k__law_words b__law_words tk (ja_cons (JE.v (je_var (pv 0))) (ja_cons (JE.v (je_var (pv 2))) (ja_nil))) rfl))
    (js_cons (js_if (jt_not (jt_tru (JE.p (je_callB F__law_counts_told (hr.mono (by decide)) m__law_counts_told k__law_counts_told b__law_counts_told tk (pv 1) (ja_cons (JE.v (je_var (pv 3))) (ja_nil)) rfl)))) (js_one (js_ret (je_bl))) (js_nil))
    (js_cons (js_set (i := 4) sc_law.nd rfl (.inl rfl) (je_call F__law_count (hr.mono (by decide)) m__law_count k__law_count b__law_count tk (ja_cons (JE.v (je_var (pv 0))) (ja_cons (JE.v (je_var (pv 2))) (ja_nil))) rfl))
    (js_cons (js_for po rfl (ji_rg1 m_range (JE.v (je_int)) rfl) (jg_name (i := 5) sc_law.nd rfl (.inl rfl)) (js_one (js_if (jt_not (jt_tru (JE.p (je_callB F__law_reserves_told (hr.mono (by decide)) m__law_reserves_told k__law_reserves_told b__law_reserves_told tk (pv 1) (ja_cons (JE.v (je_var (pv 4))) (ja_nil)) rfl)))) (js_one (js_ret (je_bl))) (js_nil))))
    (js_cons (js_set (i := 6) sc_law.nd rfl (.inr rfl) (je_ix ix_d (JE.v (je_callB F__law_names (hr.mono (by decide)) m__law_names k__law_names b__law_names tk (pv 1) (ja_cons (JE.v (je_int)) (ja_nil)) rfl)) (JE.v (je_int)) (fun _ _ => rfl)))
    (js_cons (js_setLc (i := 7) (own := [("item", 9)]) rfl sc_law.nd rfl rfl (sw_true rfl rfl rfl (by decide +kernel)) (ji_any (JE.v (je_var (pv 4)))) (blkOk_by (own := [("item", 9)]) (N := N_law) (sc := defScope s_law) (by decide +kernel)) (fun _ _ _ _ _ _ => jg_name (i := 9) sc_law.nd rfl (.inl rfl)) (fun _ _ _ _ _ _ => jts_one (jt_cmp (od_ne hr.units) (JE.v (je_ixV (pv 9) (JE.v (je_int)) (fun _ _ => rfl))) (JE.v (je_var (pv 6))) (nomark _))) (fun _ _ _ _ _ _ => je_var (pv 9)))
    (js_cons (js_if (jt_not (jt_tru (JE.p (je_call F__law_reserve_refuses (hr.mono (by decide)) m__law_reserve_refuses k__law_reserve_refuses b__law_reserve_refuses tk (ja_cons (JE.v (je_t1 cr_tuple m_tuple bt_tuple (JE.p (je_op od_add (JE.v (je_var (pv 7))) (JE.v (je_lst (ja_cons (JE.v (je_tup (ja_cons (JE.v (je_var (pv 6))) (ja_cons (JE.v (je_int)) (ja_nil))))) (ja_nil)))))) rfl)) (ja_cons (JE.v (je_tup (ja_cons (JE.v (je_int)) (ja_cons (JE.v (je_int)) (ja_nil))))) (ja_nil))) rfl)))) (js_one (js_ret (je_bl))) (js_nil))
    (js_cons (js_set (i := 8) sc_law.nd rfl (.inl rfl) (je_t1 cr_tuple m_tuple bt_tuple (JE.p (je_op od_add (JE.v (je_var (pv 7))) (JE.v (je_lst (ja_cons (JE.v (je_tup (ja_cons (JE.v (je_var (pv 6))) (ja_cons (JE.v (je_int)) (ja_nil))))) (ja_nil)))))) rfl))
    (js_one (js_ret (je_and (je_call F__law_same (hr.mono (by decide)) m__law_same k__law_same b__law_same tk (ja_cons (JE.v (je_call F_with_reserve (hr.mono (by decide)) m_with_reserve k_with_reserve b_with_reserve tk (ja_cons (JE.v (je_var (pv 8))) (ja_cons (JE.v (je_tup (ja_cons (JE.v (je_int)) (ja_cons (JE.v (je_int)) (ja_nil))))) (ja_nil))) rfl)) (ja_cons (JE.v (je_var (pv 8))) (ja_nil))) rfl) (je_one (je_call F__law_fits (hr.mono (by decide)) m__law_fits k__law_fits b__law_fits tk (ja_cons (JE.v (je_call F_with_reserve (hr.mono (by decide)) m_with_reserve k_with_reserve b_with_reserve tk (ja_cons (JE.v (je_call F__law_counted (hr.mono (by decide)) m__law_counted k__law_counted b__law_counted tk (ja_cons (JE.v (je_var (pv 3))) (ja_nil)) rfl)) (ja_cons (JE.v (je_tup (ja_cons (JE.v (je_int)) (ja_cons (JE.v (je_int)) (ja_nil))))) (ja_nil))) rfl)) (ja_cons (JE.v (je_call F__law_counted (hr.mono (by decide)) m__law_counted k__law_counted b__law_counted tk (ja_cons (JE.v (je_var (pv 3))) (ja_nil)) rfl)) (ja_cons (JE.v (je_tup (ja_cons (JE.v (je_int)) (ja_cons (JE.v (je_int)) (ja_nil))))) (ja_nil)))) rfl)))))))))))))))
end
set_option maxHeartbeats 4000000 in
theorem all_mk (hp : ∀ ns : List Int, ns.length ≤ 63 → ∃ ρ, d_law [.val (script ns)] = .ok (.val (.bool true)) ρ) {l : PySem.W.OpenLaw} {w : World} {K : PySem.W.Frag} {h : Heap} {mg : Str → Option Value} {fa : Addr} (X : K.In h) (G : h.Ns mainGlobals mg) (hfa : mg "law" = some (.ref fa))
    {f0 : Addr} {od0 an0 : Option Addr} {sl0 : Array (Option Value)} {oc0 kV0 dc0 pm0 cd0 ct0 : Value}
    {f1 : Addr} {od1 an1 : Option Addr} {sl1 : Array (Option Value)} {oc1 kV1 dc1 pm1 cd1 ct1 : Value}
    {f2 : Addr} {od2 an2 : Option Addr} {sl2 : Array (Option Value)} {oc2 kV2 dc2 pm2 cd2 ct2 : Value}
    {f3 : Addr} {od3 an3 : Option Addr} {sl3 : Array (Option Value)} {oc3 kV3 dc3 pm3 cd3 ct3 : Value}
    {f4 : Addr} {od4 an4 : Option Addr} {sl4 : Array (Option Value)} {oc4 kV4 dc4 pm4 cd4 ct4 : Value}
    {f5 : Addr} {od5 an5 : Option Addr} {sl5 : Array (Option Value)} {oc5 kV5 dc5 pm5 cd5 ct5 : Value}
    {f6 : Addr} {od6 an6 : Option Addr} {sl6 : Array (Option Value)} {oc6 kV6 dc6 pm6 cd6 ct6 : Value}
    {f7 : Addr} {od7 an7 : Option Addr} {sl7 : Array (Option Value)} {oc7 kV7 dc7 pm7 cd7 ct7 : Value}
    {f8 : Addr} {od8 an8 : Option Addr} {sl8 : Array (Option Value)} {oc8 kV8 dc8 pm8 cd8 ct8 : Value}
    {f9 : Addr} {od9 an9 : Option Addr} {sl9 : Array (Option Value)} {oc9 kV9 dc9 pm9 cd9 ct9 : Value}
    {f10 : Addr} {od10 an10 : Option Addr} {sl10 : Array (Option Value)} {oc10 kV10 dc10 pm10 cd10 ct10 : Value}
    {f11 : Addr} {od11 an11 : Option Addr} {sl11 : Array (Option Value)} {oc11 kV11 dc11 pm11 cd11 ct11 : Value}
    {f12 : Addr} {od12 an12 : Option Addr} {sl12 : Array (Option Value)} {oc12 kV12 dc12 pm12 cd12 ct12 : Value}
    {f13 : Addr} {od13 an13 : Option Addr} {sl13 : Array (Option Value)} {oc13 kV13 dc13 pm13 cd13 ct13 : Value}
    {f14 : Addr} {od14 an14 : Option Addr} {sl14 : Array (Option Value)} {oc14 kV14 dc14 pm14 cd14 ct14 : Value}
    {f15 : Addr} {od15 an15 : Option Addr} {sl15 : Array (Option Value)} {oc15 kV15 dc15 pm15 cd15 ct15 : Value}
    {f16 : Addr} {od16 an16 : Option Addr} {sl16 : Array (Option Value)} {oc16 kV16 dc16 pm16 cd16 ct16 : Value}
    {f17 : Addr} {od17 an17 : Option Addr} {sl17 : Array (Option Value)} {oc17 kV17 dc17 pm17 cd17 ct17 : Value}
    {f18 : Addr} {od18 an18 : Option Addr} {sl18 : Array (Option Value)} {oc18 kV18 dc18 pm18 cd18 ct18 : Value}
    {f19 : Addr} {od19 an19 : Option Addr} {sl19 : Array (Option Value)} {oc19 kV19 dc19 pm19 cd19 ct19 : Value}
    {f20 : Addr} {od20 an20 : Option Addr} {sl20 : Array (Option Value)} {oc20 kV20 dc20 pm20 cd20 ct20 : Value}
    {f21 : Addr} {od21 an21 : Option Addr} {sl21 : Array (Option Value)} {oc21 kV21 dc21 pm21 cd21 ct21 : Value}
    {f22 : Addr} {od22 an22 : Option Addr} {sl22 : Array (Option Value)} {oc22 kV22 dc22 pm22 cd22 ct22 : Value}
    {f23 : Addr} {od23 an23 : Option Addr} {sl23 : Array (Option Value)} {oc23 kV23 dc23 pm23 cd23 ct23 : Value}
    {f24 : Addr} {od24 an24 : Option Addr} {sl24 : Array (Option Value)} {oc24 kV24 dc24 pm24 cd24 ct24 : Value}
    {f25 : Addr} {od25 an25 : Option Addr} {sl25 : Array (Option Value)} {oc25 kV25 dc25 pm25 cd25 ct25 : Value}
    {f26 : Addr} {od26 an26 : Option Addr} {sl26 : Array (Option Value)} {oc26 kV26 dc26 pm26 cd26 ct26 : Value}
    {f27 : Addr} {od27 an27 : Option Addr} {sl27 : Array (Option Value)} {oc27 kV27 dc27 pm27 cd27 ct27 : Value}
    {f28 : Addr} {od28 an28 : Option Addr} {sl28 : Array (Option Value)} {oc28 kV28 dc28 pm28 cd28 ct28 : Value}
    {t_LETTERS : Tok}
    {t_DIGITS : Tok}
    {t_GREATEST_TOP : Tok}
    {t_GREATEST_BOTTOM : Tok}
    {t_MOST_NUMBER : Tok}
    {E_BadRatio : Addr}
    {E_BadBill : Addr}
    (a0 : PySem.W.nsIn K mainGlobals "is_whole" = some (some (.ref f0)))
    (l0 : K.lookup f0 = some ⟨oc0, od0, .func (PySem.W.fnOf "is_whole" "is_whole" (defArgs s_is_whole) (defBody s_is_whole) (defScope s_is_whole) .none kV0 dc0 pm0 an0 cd0 ct0), sl0⟩)
    (c0 : PySem.W.codeIn K cd0 "is_whole" = true)
    (k0 : PySem.W.keepIn K (.ref f0) = true)
    (a1 : PySem.W.nsIn K mainGlobals "is_whole_in" = some (some (.ref f1)))
    (l1 : K.lookup f1 = some ⟨oc1, od1, .func (PySem.W.fnOf "is_whole_in" "is_whole_in" (defArgs s_is_whole_in) (defBody s_is_whole_in) (defScope s_is_whole_in) .none kV1 dc1 pm1 an1 cd1 ct1), sl1⟩)
    (c1 : PySem.W.codeIn K cd1 "is_whole_in" = true)
    (k1 : PySem.W.keepIn K (.ref f1) = true)
    (a2 : PySem.W.nsIn K mainGlobals "is_name" = some (some (.ref f2)))
    (l2 : K.lookup f2 = some ⟨oc2, od2, .func (PySem.W.fnOf "is_name" "is_name" (defArgs s_is_name) (defBody s_is_name) (defScope s_is_name) .none kV2 dc2 pm2 an2 cd2 ct2), sl2⟩)
    (c2 : PySem.W.codeIn K cd2 "is_name" = true)
    (k2 : PySem.W.keepIn K (.ref f2) = true)
    (a3 : PySem.W.nsIn K mainGlobals "is_tuple_of" = some (some (.ref f3)))
    (l3 : K.lookup f3 = some ⟨oc3, od3, .func (PySem.W.fnOf "is_tuple_of" "is_tuple_of" (defArgs s_is_tuple_of) (defBody s_is_tuple_of) (defScope s_is_tuple_of) .none kV3 dc3 pm3 an3 cd3 ct3), sl3⟩)
    (c3 : PySem.W.codeIn K cd3 "is_tuple_of" = true)
    (k3 : PySem.W.keepIn K (.ref f3) = true)
    (a4 : PySem.W.nsIn K mainGlobals "is_ratio" = some (some (.ref f4)))
    (l4 : K.lookup f4 = some ⟨oc4, od4, .func (PySem.W.fnOf "is_ratio" "is_ratio" (defArgs s_is_ratio) (defBody s_is_ratio) (defScope s_is_ratio) .none kV4 dc4 pm4 an4 cd4 ct4), sl4⟩)
    (c4 : PySem.W.codeIn K cd4 "is_ratio" = true)
    (k4 : PySem.W.keepIn K (.ref f4) = true)
    (a5 : PySem.W.nsIn K mainGlobals "is_small_ratio" = some (some (.ref f5)))
    (l5 : K.lookup f5 = some ⟨oc5, od5, .func (PySem.W.fnOf "is_small_ratio" "is_small_ratio" (defArgs s_is_small_ratio) (defBody s_is_small_ratio) (defScope s_is_small_ratio) .none kV5 dc5 pm5 an5 cd5 ct5), sl5⟩)
    (c5 : PySem.W.codeIn K cd5 "is_small_ratio" = true)
    (k5 : PySem.W.keepIn K (.ref f5) = true)
    (a6 : PySem.W.nsIn K mainGlobals "check_ratio" = some (some (.ref f6)))
    (l6 : K.lookup f6 = some ⟨oc6, od6, .func (PySem.W.fnOf "check_ratio" "check_ratio" (defArgs s_check_ratio) (defBody s_check_ratio) (defScope s_check_ratio) .none kV6 dc6 pm6 an6 cd6 ct6), sl6⟩)
    (c6 : PySem.W.codeIn K cd6 "check_ratio" = true)
    (k6 : PySem.W.keepIn K (.ref f6) = true)
    (a7 : PySem.W.nsIn K mainGlobals "ratio" = some (some (.ref f7)))
    (l7 : K.lookup f7 = some ⟨oc7, od7, .func (PySem.W.fnOf "ratio" "ratio" (defArgs s_ratio) (defBody s_ratio) (defScope s_ratio) .none kV7 dc7 pm7 an7 cd7 ct7), sl7⟩)
    (c7 : PySem.W.codeIn K cd7 "ratio" = true)
    (k7 : PySem.W.keepIn K (.ref f7) = true)
    (a8 : PySem.W.nsIn K mainGlobals "plus" = some (some (.ref f8)))
    (l8 : K.lookup f8 = some ⟨oc8, od8, .func (PySem.W.fnOf "plus" "plus" (defArgs s_plus) (defBody s_plus) (defScope s_plus) .none kV8 dc8 pm8 an8 cd8 ct8), sl8⟩)
    (c8 : PySem.W.codeIn K cd8 "plus" = true)
    (k8 : PySem.W.keepIn K (.ref f8) = true)
    (a9 : PySem.W.nsIn K mainGlobals "times" = some (some (.ref f9)))
    (l9 : K.lookup f9 = some ⟨oc9, od9, .func (PySem.W.fnOf "times" "times" (defArgs s_times) (defBody s_times) (defScope s_times) .none kV9 dc9 pm9 an9 cd9 ct9), sl9⟩)
    (c9 : PySem.W.codeIn K cd9 "times" = true)
    (k9 : PySem.W.keepIn K (.ref f9) = true)
    (a10 : PySem.W.nsIn K mainGlobals "ceil_of" = some (some (.ref f10)))
    (l10 : K.lookup f10 = some ⟨oc10, od10, .func (PySem.W.fnOf "ceil_of" "ceil_of" (defArgs s_ceil_of) (defBody s_ceil_of) (defScope s_ceil_of) .none kV10 dc10 pm10 an10 cd10 ct10), sl10⟩)
    (c10 : PySem.W.codeIn K cd10 "ceil_of" = true)
    (k10 : PySem.W.keepIn K (.ref f10) = true)
    (a11 : PySem.W.nsIn K mainGlobals "is_count" = some (some (.ref f11)))
    (l11 : K.lookup f11 = some ⟨oc11, od11, .func (PySem.W.fnOf "is_count" "is_count" (defArgs s_is_count) (defBody s_is_count) (defScope s_is_count) .none kV11 dc11 pm11 an11 cd11 ct11), sl11⟩)
    (c11 : PySem.W.codeIn K cd11 "is_count" = true)
    (k11 : PySem.W.keepIn K (.ref f11) = true)
    (a12 : PySem.W.nsIn K mainGlobals "letter_counts" = some (some (.ref f12)))
    (l12 : K.lookup f12 = some ⟨oc12, od12, .func (PySem.W.fnOf "letter_counts" "letter_counts" (defArgs s_letter_counts) (defBody s_letter_counts) (defScope s_letter_counts) .none kV12 dc12 pm12 an12 cd12 ct12), sl12⟩)
    (c12 : PySem.W.codeIn K cd12 "letter_counts" = true)
    (k12 : PySem.W.keepIn K (.ref f12) = true)
    (a13 : PySem.W.nsIn K mainGlobals "with_reserve" = some (some (.ref f13)))
    (l13 : K.lookup f13 = some ⟨oc13, od13, .func (PySem.W.fnOf "with_reserve" "with_reserve" (defArgs s_with_reserve) (defBody s_with_reserve) (defScope s_with_reserve) .none kV13 dc13 pm13 an13 cd13 ct13), sl13⟩)
    (c13 : PySem.W.codeIn K cd13 "with_reserve" = true)
    (k13 : PySem.W.keepIn K (.ref f13) = true)
    (a14 : PySem.W.nsIn K mainGlobals "_law_jar" = some (some (.ref f14)))
    (l14 : K.lookup f14 = some ⟨oc14, od14, .func (PySem.W.fnOf "_law_jar" "_law_jar" (defArgs s__law_jar) (defBody s__law_jar) (defScope s__law_jar) .none kV14 dc14 pm14 an14 cd14 ct14), sl14⟩)
    (c14 : PySem.W.codeIn K cd14 "_law_jar" = true)
    (k14 : PySem.W.keepIn K (.ref f14) = true)
    (a15 : PySem.W.nsIn K mainGlobals "_law_draw" = some (some (.ref f15)))
    (l15 : K.lookup f15 = some ⟨oc15, od15, .func (PySem.W.fnOf "_law_draw" "_law_draw" (defArgs s__law_draw) (defBody s__law_draw) (defScope s__law_draw) .none kV15 dc15 pm15 an15 cd15 ct15), sl15⟩)
    (c15 : PySem.W.codeIn K cd15 "_law_draw" = true)
    (k15 : PySem.W.keepIn K (.ref f15) = true)
    (a16 : PySem.W.nsIn K mainGlobals "_law_same_one" = some (some (.ref f16)))
    (l16 : K.lookup f16 = some ⟨oc16, od16, .func (PySem.W.fnOf "_law_same_one" "_law_same_one" (defArgs s__law_same_one) (defBody s__law_same_one) (defScope s__law_same_one) .none kV16 dc16 pm16 an16 cd16 ct16), sl16⟩)
    (c16 : PySem.W.codeIn K cd16 "_law_same_one" = true)
    (k16 : PySem.W.keepIn K (.ref f16) = true)
    (a17 : PySem.W.nsIn K mainGlobals "_law_same" = some (some (.ref f17)))
    (l17 : K.lookup f17 = some ⟨oc17, od17, .func (PySem.W.fnOf "_law_same" "_law_same" (defArgs s__law_same) (defBody s__law_same) (defScope s__law_same) .none kV17 dc17 pm17 an17 cd17 ct17), sl17⟩)
    (c17 : PySem.W.codeIn K cd17 "_law_same" = true)
    (k17 : PySem.W.keepIn K (.ref f17) = true)
    (a18 : PySem.W.nsIn K mainGlobals "_law_names" = some (some (.ref f18)))
    (l18 : K.lookup f18 = some ⟨oc18, od18, .func (PySem.W.fnOf "_law_names" "_law_names" (defArgs s__law_names) (defBody s__law_names) (defScope s__law_names) .none kV18 dc18 pm18 an18 cd18 ct18), sl18⟩)
    (c18 : PySem.W.codeIn K cd18 "_law_names" = true)
    (k18 : PySem.W.keepIn K (.ref f18) = true)
    (a19 : PySem.W.nsIn K mainGlobals "_law_q" = some (some (.ref f19)))
    (l19 : K.lookup f19 = some ⟨oc19, od19, .func (PySem.W.fnOf "_law_q" "_law_q" (defArgs s__law_q) (defBody s__law_q) (defScope s__law_q) .none kV19 dc19 pm19 an19 cd19 ct19), sl19⟩)
    (c19 : PySem.W.codeIn K cd19 "_law_q" = true)
    (k19 : PySem.W.keepIn K (.ref f19) = true)
    (a20 : PySem.W.nsIn K mainGlobals "_law_words" = some (some (.ref f20)))
    (l20 : K.lookup f20 = some ⟨oc20, od20, .func (PySem.W.fnOf "_law_words" "_law_words" (defArgs s__law_words) (defBody s__law_words) (defScope s__law_words) .none kV20 dc20 pm20 an20 cd20 ct20), sl20⟩)
    (c20 : PySem.W.codeIn K cd20 "_law_words" = true)
    (k20 : PySem.W.keepIn K (.ref f20) = true)
    (a21 : PySem.W.nsIn K mainGlobals "_law_counted" = some (some (.ref f21)))
    (l21 : K.lookup f21 = some ⟨oc21, od21, .func (PySem.W.fnOf "_law_counted" "_law_counted" (defArgs s__law_counted) (defBody s__law_counted) (defScope s__law_counted) .none kV21 dc21 pm21 an21 cd21 ct21), sl21⟩)
    (c21 : PySem.W.codeIn K cd21 "_law_counted" = true)
    (k21 : PySem.W.keepIn K (.ref f21) = true)
    (a22 : PySem.W.nsIn K mainGlobals "_law_counts_told" = some (some (.ref f22)))
    (l22 : K.lookup f22 = some ⟨oc22, od22, .func (PySem.W.fnOf "_law_counts_told" "_law_counts_told" (defArgs s__law_counts_told) (defBody s__law_counts_told) (defScope s__law_counts_told) .none kV22 dc22 pm22 an22 cd22 ct22), sl22⟩)
    (c22 : PySem.W.codeIn K cd22 "_law_counts_told" = true)
    (k22 : PySem.W.keepIn K (.ref f22) = true)
    (a23 : PySem.W.nsIn K mainGlobals "_law_reserve" = some (some (.ref f23)))
    (l23 : K.lookup f23 = some ⟨oc23, od23, .func (PySem.W.fnOf "_law_reserve" "_law_reserve" (defArgs s__law_reserve) (defBody s__law_reserve) (defScope s__law_reserve) .none kV23 dc23 pm23 an23 cd23 ct23), sl23⟩)
    (c23 : PySem.W.codeIn K cd23 "_law_reserve" = true)
    (k23 : PySem.W.keepIn K (.ref f23) = true)
    (a24 : PySem.W.nsIn K mainGlobals "_law_count" = some (some (.ref f24)))
    (l24 : K.lookup f24 = some ⟨oc24, od24, .func (PySem.W.fnOf "_law_count" "_law_count" (defArgs s__law_count) (defBody s__law_count) (defScope s__law_count) .none kV24 dc24 pm24 an24 cd24 ct24), sl24⟩)
    (c24 : PySem.W.codeIn K cd24 "_law_count" = true)
    (k24 : PySem.W.keepIn K (.ref f24) = true)
    (a25 : PySem.W.nsIn K mainGlobals "_law_fits" = some (some (.ref f25)))
    (l25 : K.lookup f25 = some ⟨oc25, od25, .func (PySem.W.fnOf "_law_fits" "_law_fits" (defArgs s__law_fits) (defBody s__law_fits) (defScope s__law_fits) .none kV25 dc25 pm25 an25 cd25 ct25), sl25⟩)
    (c25 : PySem.W.codeIn K cd25 "_law_fits" = true)
    (k25 : PySem.W.keepIn K (.ref f25) = true)
    (a26 : PySem.W.nsIn K mainGlobals "_law_reserve_refuses" = some (some (.ref f26)))
    (l26 : K.lookup f26 = some ⟨oc26, od26, .func (PySem.W.fnOf "_law_reserve_refuses" "_law_reserve_refuses" (defArgs s__law_reserve_refuses) (defBody s__law_reserve_refuses) (defScope s__law_reserve_refuses) .none kV26 dc26 pm26 an26 cd26 ct26), sl26⟩)
    (c26 : PySem.W.codeIn K cd26 "_law_reserve_refuses" = true)
    (k26 : PySem.W.keepIn K (.ref f26) = true)
    (a27 : PySem.W.nsIn K mainGlobals "_law_reserves_told" = some (some (.ref f27)))
    (l27 : K.lookup f27 = some ⟨oc27, od27, .func (PySem.W.fnOf "_law_reserves_told" "_law_reserves_told" (defArgs s__law_reserves_told) (defBody s__law_reserves_told) (defScope s__law_reserves_told) .none kV27 dc27 pm27 an27 cd27 ct27), sl27⟩)
    (c27 : PySem.W.codeIn K cd27 "_law_reserves_told" = true)
    (k27 : PySem.W.keepIn K (.ref f27) = true)
    (a28 : PySem.W.nsIn K mainGlobals "law" = some (some (.ref f28)))
    (l28 : K.lookup f28 = some ⟨oc28, od28, .func (PySem.W.fnOf "law" "law" (defArgs s_law) (defBody s_law) (defScope s_law) .none kV28 dc28 pm28 an28 cd28 ct28), sl28⟩)
    (c28 : PySem.W.codeIn K cd28 "law" = true)
    (k28 : PySem.W.keepIn K (.ref f28) = true)
    (z_isinstance : PySem.W.nsIn K mainGlobals "isinstance" = some none)
    (z_int : PySem.W.nsIn K mainGlobals "int" = some none)
    (z_bool : PySem.W.nsIn K mainGlobals "bool" = some none)
    (z_len : PySem.W.nsIn K mainGlobals "len" = some none)
    (z_str : PySem.W.nsIn K mainGlobals "str" = some none)
    (z_tuple : PySem.W.nsIn K mainGlobals "tuple" = some none)
    (z_sorted : PySem.W.nsIn K mainGlobals "sorted" = some none)
    (z_abs : PySem.W.nsIn K mainGlobals "abs" = some none)
    (z_range : PySem.W.nsIn K mainGlobals "range" = some none)
    (z_list : PySem.W.nsIn K mainGlobals "list" = some none)
    (z_ValueError : PySem.W.nsIn K mainGlobals "ValueError" = some none)
    (z_max : PySem.W.nsIn K mainGlobals "max" = some none)
    (g_LETTERS : PySem.W.nsIn K mainGlobals "LETTERS" = some (some (.str "abcdefghijklmnopqrstuvwxyz" t_LETTERS)))
    (g_DIGITS : PySem.W.nsIn K mainGlobals "DIGITS" = some (some (.str "0123456789" t_DIGITS)))
    (g_gcd : PySem.W.nsIn K mainGlobals "gcd" = some (some (.builtin "math.gcd")))
    (g_GREATEST_TOP : PySem.W.nsIn K mainGlobals "GREATEST_TOP" = some (some (.int (1000000) t_GREATEST_TOP)))
    (g_GREATEST_BOTTOM : PySem.W.nsIn K mainGlobals "GREATEST_BOTTOM" = some (some (.int (1000) t_GREATEST_BOTTOM)))
    (g_MOST_NUMBER : PySem.W.nsIn K mainGlobals "MOST_NUMBER" = some (some (.int (100000) t_MOST_NUMBER)))
    (ee_BadRatio : PySem.W.nsIn K mainGlobals "BadRatio" = some (some (.ref E_BadRatio)))
    (ex_BadRatio : PySem.W.excIn K E_BadRatio [.type "ValueError", .type "Exception", .type "BaseException", .type "object"] "ValueError.__new__" = true)
    (ek_BadRatio : PySem.W.keepIn K (.ref E_BadRatio) = true)
    (eb_BadRatio : PySem.W.subIn K (.ref E_BadRatio) (.type "BaseException") = some true)
    (et_BadRatio : PySem.W.typeIn K (.ref E_BadRatio) = some (.type "type"))
    (ee_BadBill : PySem.W.nsIn K mainGlobals "BadBill" = some (some (.ref E_BadBill)))
    (ex_BadBill : PySem.W.excIn K E_BadBill [.type "ValueError", .type "Exception", .type "BaseException", .type "object"] "ValueError.__new__" = true)
    (ek_BadBill : PySem.W.keepIn K (.ref E_BadBill) = true)
    (eb_BadBill : PySem.W.subIn K (.ref E_BadBill) (.type "BaseException") = some true)
    (et_BadBill : PySem.W.typeIn K (.ref E_BadBill) = some (.type "type"))
    (xc_BadBill : ExcC K E_BadBill)
    (hd_BadBill : PySem.W.hasDictIn K E_BadBill = true)
    (ht_BadBill : PySem.W.typeIn K (.ref E_BadBill) = some (.type "type"))
    (hs_BadBill : PySem.W.subIn K (.ref E_BadBill) (.type "BaseException") = some true)
    (sb_BadBill_BadBill : PySem.W.subIn K (.ref E_BadBill) (.ref E_BadBill) = some true)
    (sb_BadBill_ValueError : PySem.W.subIn K (.ref E_BadBill) (.type "ValueError") = some true) :
    ∃ fd : FuncData, (∀ (s : Shared) (v : Value), BindsTo s fd ⟨[v], []⟩ [("script", v)]) ∧ ∀ base : Heap, K.In base → base.Ns mainGlobals mg → FnOk l.prog w K mg base (L2.CX l.prog w) 8 fa fd ["script"] (spLaw K) := by
  have e := hfa.symm.trans (PySem.W.mg_of X G a28)
  cases e
  have F0 := fun_mk (st := s_is_whole) l0 c0 k0
  have b0 := F0.binds (ps := ["value"]) fun _ _ _ _ _ _ us hl => match us, hl with | [_], _ => rfl
  have F1 := fun_mk (st := s_is_whole_in) l1 c1 k1
  have b1 := F1.binds (ps := ["value", "low", "high"]) fun _ _ _ _ _ _ us hl => match us, hl with | [_, _, _], _ => rfl
  have F2 := fun_mk (st := s_is_name) l2 c2 k2
  have b2 := F2.binds (ps := ["value"]) fun _ _ _ _ _ _ us hl => match us, hl with | [_], _ => rfl
  have F3 := fun_mk (st := s_is_tuple_of) l3 c3 k3
  have b3 := F3.binds (ps := ["value", "low", "high"]) fun _ _ _ _ _ _ us hl => match us, hl with | [_, _, _], _ => rfl
  have F4 := fun_mk (st := s_is_ratio) l4 c4 k4
  have b4 := F4.binds (ps := ["value"]) fun _ _ _ _ _ _ us hl => match us, hl with | [_], _ => rfl
  have F5 := fun_mk (st := s_is_small_ratio) l5 c5 k5
  have b5 := F5.binds (ps := ["value"]) fun _ _ _ _ _ _ us hl => match us, hl with | [_], _ => rfl
  have F6 := fun_mk (st := s_check_ratio) l6 c6 k6
  have b6 := F6.binds (ps := ["value"]) fun _ _ _ _ _ _ us hl => match us, hl with | [_], _ => rfl
  have F7 := fun_mk (st := s_ratio) l7 c7 k7
  have b7 := F7.binds (ps := ["n", "d"]) fun _ _ _ _ _ _ us hl => match us, hl with | [_, _], _ => rfl
  have F8 := fun_mk (st := s_plus) l8 c8 k8
  have b8 := F8.binds (ps := ["a", "b"]) fun _ _ _ _ _ _ us hl => match us, hl with | [_, _], _ => rfl
  have F9 := fun_mk (st := s_times) l9 c9 k9
  have b9 := F9.binds (ps := ["a", "b"]) fun _ _ _ _ _ _ us hl => match us, hl with | [_, _], _ => rfl
  have F10 := fun_mk (st := s_ceil_of) l10 c10 k10
  have b10 := F10.binds (ps := ["a"]) fun _ _ _ _ _ _ us hl => match us, hl with | [_], _ => rfl
  have F11 := fun_mk (st := s_is_count) l11 c11 k11
  have b11 := F11.binds (ps := ["value"]) fun _ _ _ _ _ _ us hl => match us, hl with | [_], _ => rfl
  have F12 := fun_mk (st := s_letter_counts) l12 c12 k12
  have b12 := F12.binds (ps := ["words"]) fun _ _ _ _ _ _ us hl => match us, hl with | [_], _ => rfl
  have F13 := fun_mk (st := s_with_reserve) l13 c13 k13
  have b13 := F13.binds (ps := ["counted", "reserve"]) fun _ _ _ _ _ _ us hl => match us, hl with | [_, _], _ => rfl
  have F14 := fun_mk (st := s__law_jar) l14 c14 k14
  have b14 := F14.binds (ps := ["script", "k"]) fun _ _ _ _ _ _ us hl => match us, hl with | [_, _], _ => rfl
  have F15 := fun_mk (st := s__law_draw) l15 c15 k15
  have b15 := F15.binds (ps := ["jar", "size"]) fun _ _ _ _ _ _ us hl => match us, hl with | [_, _], _ => rfl
  have F16 := fun_mk (st := s__law_same_one) l16 c16 k16
  have b16 := F16.binds (ps := ["one", "other"]) fun _ _ _ _ _ _ us hl => match us, hl with | [_, _], _ => rfl
  have F17 := fun_mk (st := s__law_same) l17 c17 k17
  have b17 := F17.binds (ps := ["first", "second"]) fun _ _ _ _ _ _ us hl => match us, hl with | [_, _], _ => rfl
  have F18 := fun_mk (st := s__law_names) l18 c18 k18
  have b18 := F18.binds (ps := ["jar", "many"]) fun _ _ _ _ _ _ us hl => match us, hl with | [_, _], _ => rfl
  have F19 := fun_mk (st := s__law_q) l19 c19 k19
  have b19 := F19.binds (ps := ["n", "d"]) fun _ _ _ _ _ _ us hl => match us, hl with | [_, _], _ => rfl
  have F20 := fun_mk (st := s__law_words) l20 c20 k20
  have b20 := F20.binds (ps := ["script", "names"]) fun _ _ _ _ _ _ us hl => match us, hl with | [_, _], _ => rfl
  have F21 := fun_mk (st := s__law_counted) l21 c21 k21
  have b21 := F21.binds (ps := ["words"]) fun _ _ _ _ _ _ us hl => match us, hl with | [_], _ => rfl
  have F22 := fun_mk (st := s__law_counts_told) l22 c22 k22
  have b22 := F22.binds (ps := ["jar", "words"]) fun _ _ _ _ _ _ us hl => match us, hl with | [_, _], _ => rfl
  have F23 := fun_mk (st := s__law_reserve) l23 c23 k23
  have b23 := F23.binds (ps := ["jar"]) fun _ _ _ _ _ _ us hl => match us, hl with | [_], _ => rfl
  have F24 := fun_mk (st := s__law_count) l24 c24 k24
  have b24 := F24.binds (ps := ["script", "names"]) fun _ _ _ _ _ _ us hl => match us, hl with | [_, _], _ => rfl
  have F25 := fun_mk (st := s__law_fits) l25 c25 k25
  have b25 := F25.binds (ps := ["told", "counted", "reserve"]) fun _ _ _ _ _ _ us hl => match us, hl with | [_, _, _], _ => rfl
  have F26 := fun_mk (st := s__law_reserve_refuses) l26 c26 k26
  have b26 := F26.binds (ps := ["counted", "reserve"]) fun _ _ _ _ _ _ us hl => match us, hl with | [_, _], _ => rfl
  have F27 := fun_mk (st := s__law_reserves_told) l27 c27 k27
  have b27 := F27.binds (ps := ["jar", "counted"]) fun _ _ _ _ _ _ us hl => match us, hl with | [_, _], _ => rfl
  have F28 := fun_mk (st := s_law) l28 c28 k28
  have b28 := F28.binds (ps := ["script"]) fun _ _ _ _ _ _ us hl => match us, hl with | [_], _ => rfl
  refine ⟨PySem.W.fnOf "law" "law" (defArgs s_law) (defBody s_law) (defScope s_law) .none kV28 dc28 pm28 an28 cd28 ct28, fun s v => .of_eq rfl, fun base _ _ => ?_⟩
  have K_BadRatio : Err K mg "BadRatio" := ⟨_, ex_BadRatio, PySem.W.mg_of X G ee_BadRatio, ek_BadRatio, eb_BadRatio, et_BadRatio⟩
  have K_BadBill : Err K mg "BadBill" := ⟨_, ex_BadBill, PySem.W.mg_of X G ee_BadBill, ek_BadBill, eb_BadBill, et_BadBill⟩
  have xm_BadBill_BadBill := PySem.W.exm_ref hs_BadBill hd_BadBill ht_BadBill sb_BadBill_BadBill
  have xk_BadBill_ValueError : PySem.W.kitOne K (.ref E_BadBill) (.type "ValueError") = some true := kit_blt (by first | rfl | decide +kernel) sb_BadBill_ValueError
  have G_is_whole : Known l.prog w K mg base "is_whole" ["value"] 1 d_is_whole := ⟨_, _, ok_is_whole (P := l.prog) (w := w) (base := base) F0 (PySem.W.mg_none_of X G z_isinstance) (PySem.W.mg_none_of X G z_int) (PySem.W.mg_none_of X G z_bool), PySem.W.mg_of X G a0, k0, b0⟩
  have G_is_whole_in : Known l.prog w K mg base "is_whole_in" ["value", "low", "high"] 2 d_is_whole_in := ⟨_, _, ok_is_whole_in (P := l.prog) (w := w) (base := base) F1 G_is_whole, PySem.W.mg_of X G a1, k1, b1⟩
  have G_is_name : Known l.prog w K mg base "is_name" ["value"] 1 d_is_name := ⟨_, _, ok_is_name (P := l.prog) (w := w) (base := base) F2 (PySem.W.mg_none_of X G z_len) (PySem.W.mg_none_of X G z_isinstance) (PySem.W.mg_none_of X G z_str) (PySem.W.mg_of X G g_LETTERS) (PySem.W.mg_of X G g_DIGITS), PySem.W.mg_of X G a2, k2, b2⟩
  have G_is_tuple_of : Known l.prog w K mg base "is_tuple_of" ["value", "low", "high"] 1 d_is_tuple_of := ⟨_, _, ok_is_tuple_of (P := l.prog) (w := w) (base := base) F3 (PySem.W.mg_none_of X G z_isinstance) (PySem.W.mg_none_of X G z_tuple) (PySem.W.mg_none_of X G z_len), PySem.W.mg_of X G a3, k3, b3⟩
  have G_is_ratio : Known l.prog w K mg base "is_ratio" ["value"] 2 d_is_ratio := ⟨_, _, ok_is_ratio (P := l.prog) (w := w) (base := base) F4 G_is_whole G_is_tuple_of (PySem.W.mg_of X G g_gcd), PySem.W.mg_of X G a4, k4, b4⟩
  have G_is_small_ratio : Known l.prog w K mg base "is_small_ratio" ["value"] 3 d_is_small_ratio := ⟨_, _, ok_is_small_ratio (P := l.prog) (w := w) (base := base) F5 G_is_ratio (PySem.W.mg_of X G g_GREATEST_TOP) (PySem.W.mg_of X G g_GREATEST_BOTTOM), PySem.W.mg_of X G a5, k5, b5⟩
  have G_check_ratio : Known l.prog w K mg base "check_ratio" ["value"] 3 d_check_ratio := ⟨_, _, ok_check_ratio (P := l.prog) (w := w) (base := base) F6 G_is_ratio K_BadRatio, PySem.W.mg_of X G a6, k6, b6⟩
  have G_ratio : Known l.prog w K mg base "ratio" ["n", "d"] 2 d_ratio := ⟨_, _, ok_ratio (P := l.prog) (w := w) (base := base) F7 G_is_whole (PySem.W.mg_of X G g_gcd) K_BadRatio, PySem.W.mg_of X G a7, k7, b7⟩
  have G_plus : Known l.prog w K mg base "plus" ["a", "b"] 4 d_plus := ⟨_, _, ok_plus (P := l.prog) (w := w) (base := base) F8 G_ratio G_check_ratio, PySem.W.mg_of X G a8, k8, b8⟩
  have G_times : Known l.prog w K mg base "times" ["a", "b"] 4 d_times := ⟨_, _, ok_times (P := l.prog) (w := w) (base := base) F9 G_ratio G_check_ratio, PySem.W.mg_of X G a9, k9, b9⟩
  have G_ceil_of : Known l.prog w K mg base "ceil_of" ["a"] 4 d_ceil_of := ⟨_, _, ok_ceil_of (P := l.prog) (w := w) (base := base) F10 G_check_ratio, PySem.W.mg_of X G a10, k10, b10⟩
  have G_is_count : Known l.prog w K mg base "is_count" ["value"] 3 d_is_count := ⟨_, _, ok_is_count (P := l.prog) (w := w) (base := base) F11 G_is_tuple_of G_is_name G_is_whole_in (PySem.W.mg_none_of X G z_isinstance) (PySem.W.mg_none_of X G z_tuple) (PySem.W.mg_of X G g_MOST_NUMBER), PySem.W.mg_of X G a11, k11, b11⟩
  have G_letter_counts : Known l.prog w K mg base "letter_counts" ["words"] 2 d_letter_counts := ⟨_, _, ok_letter_counts (P := l.prog) (w := w) (base := base) F12 G_is_name (PySem.W.mg_none_of X G z_sorted) (PySem.W.mg_none_of X G z_tuple) (PySem.W.mg_none_of X G z_isinstance) K_BadBill, PySem.W.mg_of X G a12, k12, b12⟩
  have G_with_reserve : Known l.prog w K mg base "with_reserve" ["counted", "reserve"] 5 d_with_reserve := ⟨_, _, ok_with_reserve (P := l.prog) (w := w) (base := base) F13 G_ceil_of G_times G_plus G_is_small_ratio G_is_count (PySem.W.mg_none_of X G z_tuple) K_BadBill, PySem.W.mg_of X G a13, k13, b13⟩
  have G__law_jar : Known l.prog w K mg base "_law_jar" ["script", "k"] 1 d__law_jar := ⟨_, _, ok__law_jar (P := l.prog) (w := w) (base := base) F14 (PySem.W.mg_none_of X G z_int) (PySem.W.mg_none_of X G z_len) (PySem.W.mg_none_of X G z_abs), PySem.W.mg_of X G a14, k14, b14⟩
  have G__law_draw : Known l.prog w K mg base "_law_draw" ["jar", "size"] 1 d__law_draw := ⟨_, _, ok__law_draw (P := l.prog) (w := w) (base := base) F15 (PySem.W.mg_none_of X G z_int), PySem.W.mg_of X G a15, k15, b15⟩
  have G__law_same_one : Known l.prog w K mg base "_law_same_one" ["one", "other"] 1 d__law_same_one := ⟨_, _, ok__law_same_one (P := l.prog) (w := w) (base := base) F16 (PySem.W.mg_none_of X G z_isinstance) (PySem.W.mg_none_of X G z_str) (PySem.W.mg_none_of X G z_int) (PySem.W.mg_none_of X G z_bool), PySem.W.mg_of X G a16, k16, b16⟩
  have G__law_same : Known l.prog w K mg base "_law_same" ["first", "second"] 2 d__law_same := ⟨_, _, ok__law_same (P := l.prog) (w := w) (base := base) F17 G__law_same_one (PySem.W.mg_none_of X G z_range) (PySem.W.mg_none_of X G z_isinstance) (PySem.W.mg_none_of X G z_tuple) (PySem.W.mg_none_of X G z_len), PySem.W.mg_of X G a17, k17, b17⟩
  have G__law_names : Known l.prog w K mg base "_law_names" ["jar", "many"] 2 d__law_names := ⟨_, _, ok__law_names (P := l.prog) (w := w) (base := base) F18 G__law_draw (PySem.W.mg_none_of X G z_range) (PySem.W.mg_none_of X G z_int) (PySem.W.mg_none_of X G z_len), PySem.W.mg_of X G a18, k18, b18⟩
  have G__law_q : Known l.prog w K mg base "_law_q" ["n", "d"] 1 d__law_q := ⟨_, _, ok__law_q (P := l.prog) (w := w) (base := base) F19 (PySem.W.mg_none_of X G z_range) (PySem.W.mg_none_of X G z_int) (PySem.W.mg_none_of X G z_abs), PySem.W.mg_of X G a19, k19, b19⟩
  have G__law_words : Known l.prog w K mg base "_law_words" ["script", "names"] 2 d__law_words := ⟨_, _, ok__law_words (P := l.prog) (w := w) (base := base) F20 G__law_draw G__law_jar (PySem.W.mg_none_of X G z_range) (PySem.W.mg_none_of X G z_tuple) (PySem.W.mg_none_of X G z_list) (PySem.W.mg_none_of X G z_len) (PySem.W.mg_none_of X G z_int), PySem.W.mg_of X G a20, k20, b20⟩
  have G__law_counted : Known l.prog w K mg base "_law_counted" ["words"] 1 d__law_counted := ⟨_, _, ok__law_counted (P := l.prog) (w := w) (base := base) F21 (PySem.W.mg_none_of X G z_sorted) (PySem.W.mg_none_of X G z_tuple), PySem.W.mg_of X G a21, k21, b21⟩
  have G__law_counts_told : Known l.prog w K mg base "_law_counts_told" ["jar", "words"] 3 d__law_counts_told := ⟨_, _, ok__law_counts_told (P := l.prog) (w := w) (base := base) F22 G__law_same G_letter_counts G__law_counted G__law_draw (PySem.W.mg_none_of X G z_tuple) (PySem.W.mg_none_of X G z_list) (PySem.W.mg_none_of X G z_len), PySem.W.mg_of X G a22, k22, b22⟩
  have G__law_reserve : Known l.prog w K mg base "_law_reserve" ["jar"] 2 d__law_reserve := ⟨_, _, ok__law_reserve (P := l.prog) (w := w) (base := base) F23 G__law_q G__law_draw, PySem.W.mg_of X G a23, k23, b23⟩
  have G__law_count : Known l.prog w K mg base "_law_count" ["script", "names"] 2 d__law_count := ⟨_, _, ok__law_count (P := l.prog) (w := w) (base := base) F24 G__law_draw G__law_jar (PySem.W.mg_none_of X G z_tuple), PySem.W.mg_of X G a24, k24, b24⟩
  have G__law_fits : Known l.prog w K mg base "_law_fits" ["told", "counted", "reserve"] 1 d__law_fits := ⟨_, _, ok__law_fits (P := l.prog) (w := w) (base := base) F25 (PySem.W.mg_none_of X G z_len) (PySem.W.mg_none_of X G z_range) (PySem.W.mg_none_of X G z_isinstance) (PySem.W.mg_none_of X G z_int) (PySem.W.mg_none_of X G z_bool) (PySem.W.mg_none_of X G z_tuple), PySem.W.mg_of X G a25, k25, b25⟩
  have G__law_reserve_refuses : Known l.prog w K mg base "_law_reserve_refuses" ["counted", "reserve"] 6 d__law_reserve_refuses := ⟨_, _, ok__law_reserve_refuses (P := l.prog) (w := w) (base := base) F26 G_with_reserve (PySem.W.mg_none_of X G z_isinstance) (PySem.W.mg_none_of X G z_ValueError) (PySem.W.mg_of X G ee_BadBill) xc_BadBill xm_BadBill_BadBill xk_BadBill_ValueError, PySem.W.mg_of X G a26, k26, b26⟩
  have G__law_reserves_told : Known l.prog w K mg base "_law_reserves_told" ["jar", "counted"] 7 d__law_reserves_told := ⟨_, _, ok__law_reserves_told (P := l.prog) (w := w) (base := base) F27 G__law_fits G_with_reserve G__law_reserve_refuses G__law_q G__law_reserve (PySem.W.mg_none_of X G z_len) (PySem.W.mg_none_of X G z_range) (PySem.W.mg_none_of X G z_max), PySem.W.mg_of X G a27, k27, b27⟩
  exact law_fn hp (ok_law (P := l.prog) (w := w) (base := base) F28 G__law_same G_with_reserve G__law_fits G__law_counted G__law_reserve_refuses G__law_names G__law_reserves_told G__law_count G__law_counts_told G__law_words G__law_jar (PySem.W.mg_none_of X G z_tuple) (PySem.W.mg_none_of X G z_range))
end Law
open PySem PySem.W PyProof.Rows
set_option maxHeartbeats 0 in
theorem PySem.Challenge.cw_typefoundry_k54_letters_of_many_words_holds : PySem.Challenge.rw_typefoundry_k54_letters_of_many_words.Holds := by
  w_on; o_law; k_head; (case hw => w_witness2)
  k_fill
  refine Dn.walk (l := PySem.Challenge.rw_typefoundry_k54_letters_of_many_words) 8 rfl ⟨rfl, by decide, by decide⟩ rfl (fun w h Y => PySem.W.kIn_of Y) ?F
  case F =>
    intro w mg fa h KX G hmg
    refine' Law.all_mk Law.law_true KX G hmg ?a0 ?l0 ?c0 ?k0 ?a1 ?l1 ?c1 ?k1 ?a2 ?l2 ?c2 ?k2 ?a3 ?l3 ?c3 ?k3 ?a4 ?l4 ?c4 ?k4 ?a5 ?l5 ?c5 ?k5 ?a6 ?l6 ?c6 ?k6 ?a7 ?l7 ?c7 ?k7 ?a8 ?l8 ?c8 ?k8 ?a9 ?l9 ?c9 ?k9 ?a10 ?l10 ?c10 ?k10 ?a11 ?l11 ?c11 ?k11 ?a12 ?l12 ?c12 ?k12 ?a13 ?l13 ?c13 ?k13 ?a14 ?l14 ?c14 ?k14 ?a15 ?l15 ?c15 ?k15 ?a16 ?l16 ?c16 ?k16 ?a17 ?l17 ?c17 ?k17 ?a18 ?l18 ?c18 ?k18 ?a19 ?l19 ?c19 ?k19 ?a20 ?l20 ?c20 ?k20 ?a21 ?l21 ?c21 ?k21 ?a22 ?l22 ?c22 ?k22 ?a23 ?l23 ?c23 ?k23 ?a24 ?l24 ?c24 ?k24 ?a25 ?l25 ?c25 ?k25 ?a26 ?l26 ?c26 ?k26 ?a27 ?l27 ?c27 ?k27 ?a28 ?l28 ?c28 ?k28 ?z_isinstance ?z_int ?z_bool ?z_len ?z_str ?z_tuple ?z_sorted ?z_abs ?z_range ?z_list ?z_ValueError ?z_max ?g_LETTERS ?g_DIGITS ?g_gcd ?g_GREATEST_TOP ?g_GREATEST_BOTTOM ?g_MOST_NUMBER ?ee_BadRatio ?ex_BadRatio ?ek_BadRatio ?eb_BadRatio ?et_BadRatio ?ee_BadBill ?ex_BadBill ?ek_BadBill ?eb_BadBill ?et_BadBill ?xc_BadBill ?hd_BadBill ?ht_BadBill ?hs_BadBill ?sb_BadBill_BadBill ?sb_BadBill_ValueError
    (case a0 => k_is)
    (case l0 => k_is)
    (case c0 => k_is)
    (case k0 => k_is)
    (case a1 => k_is)
    (case l1 => k_is)
    (case c1 => k_is)
    (case k1 => k_is)
    (case a2 => k_is)
    (case l2 => k_is)
    (case c2 => k_is)
    (case k2 => k_is)
    (case a3 => k_is)
    (case l3 => k_is)
    (case c3 => k_is)
    (case k3 => k_is)
    (case a4 => k_is)
    (case l4 => k_is)
    (case c4 => k_is)
    (case k4 => k_is)
    (case a5 => k_is)
    (case l5 => k_is)
    (case c5 => k_is)
    (case k5 => k_is)
    (case a6 => k_is)
    (case l6 => k_is)
    (case c6 => k_is)
    (case k6 => k_is)
    (case a7 => k_is)
    (case l7 => k_is)
    (case c7 => k_is)
    (case k7 => k_is)
    (case a8 => k_is)
    (case l8 => k_is)
    (case c8 => k_is)
    (case k8 => k_is)
    (case a9 => k_is)
    (case l9 => k_is)
    (case c9 => k_is)
    (case k9 => k_is)
    (case a10 => k_is)
    (case l10 => k_is)
    (case c10 => k_is)
    (case k10 => k_is)
    (case a11 => k_is)
    (case l11 => k_is)
    (case c11 => k_is)
    (case k11 => k_is)
    (case a12 => k_is)
    (case l12 => k_is)
    (case c12 => k_is)
    (case k12 => k_is)
    (case a13 => k_is)
    (case l13 => k_is)
    (case c13 => k_is)
    (case k13 => k_is)
    (case a14 => k_is)
    (case l14 => k_is)
    (case c14 => k_is)
    (case k14 => k_is)
    (case a15 => k_is)
    (case l15 => k_is)
    (case c15 => k_is)
    (case k15 => k_is)
    (case a16 => k_is)
    (case l16 => k_is)
    (case c16 => k_is)
    (case k16 => k_is)
    (case a17 => k_is)
    (case l17 => k_is)
    (case c17 => k_is)
    (case k17 => k_is)
    (case a18 => k_is)
    (case l18 => k_is)
    (case c18 => k_is)
    (case k18 => k_is)
    (case a19 => k_is)
    (case l19 => k_is)
    (case c19 => k_is)
    (case k19 => k_is)
    (case a20 => k_is)
    (case l20 => k_is)
    (case c20 => k_is)
    (case k20 => k_is)
    (case a21 => k_is)
    (case l21 => k_is)
    (case c21 => k_is)
    (case k21 => k_is)
    (case a22 => k_is)
    (case l22 => k_is)
    (case c22 => k_is)
    (case k22 => k_is)
    (case a23 => k_is)
    (case l23 => k_is)
    (case c23 => k_is)
    (case k23 => k_is)
    (case a24 => k_is)
    (case l24 => k_is)
    (case c24 => k_is)
    (case k24 => k_is)
    (case a25 => k_is)
    (case l25 => k_is)
    (case c25 => k_is)
    (case k25 => k_is)
    (case a26 => k_is)
    (case l26 => k_is)
    (case c26 => k_is)
    (case k26 => k_is)
    (case a27 => k_is)
    (case l27 => k_is)
    (case c27 => k_is)
    (case k27 => k_is)
    (case a28 => k_is)
    (case l28 => k_is)
    (case c28 => k_is)
    (case k28 => k_is)
    (case z_isinstance => k_is)
    (case z_int => k_is)
    (case z_bool => k_is)
    (case z_len => k_is)
    (case z_str => k_is)
    (case z_tuple => k_is)
    (case z_sorted => k_is)
    (case z_abs => k_is)
    (case z_range => k_is)
    (case z_list => k_is)
    (case z_ValueError => k_is)
    (case z_max => k_is)
    (case g_LETTERS => k_is)
    (case g_DIGITS => k_is)
    (case g_gcd => k_is)
    (case g_GREATEST_TOP => k_is)
    (case g_GREATEST_BOTTOM => k_is)
    (case g_MOST_NUMBER => k_is)
    (case ee_BadRatio => k_is)
    (case ex_BadRatio => k_exc)
    (case ek_BadRatio => k_is)
    (case eb_BadRatio => k_is)
    (case et_BadRatio => k_is)
    (case ee_BadBill => k_is)
    (case ex_BadBill => k_exc)
    (case ek_BadBill => k_is)
    (case eb_BadBill => k_is)
    (case et_BadBill => k_is)
    (case xc_BadBill => exact ⟨by k_is, by k_is, by k_is, by k_is, by k_is, by k_is, by k_is, by k_is⟩)
    (case hd_BadBill => k_is)
    (case ht_BadBill => k_is)
    (case hs_BadBill => k_is)
    (case sb_BadBill_BadBill => k_is)
    (case sb_BadBill_ValueError => k_is)
