import PyProof.Rows.All
import HandS.ForMost
import HandS.ForExc
import HandS.IsInst
import HandS.Wide
import HandS.Gcd
import HandS.TupAny
import HandS.StrMore
import PySem.Challenge.RW_typefoundry_k38_rows_of_names_at_size
set_option Elab.async false
set_option linter.all false
set_option maxRecDepth 100000
set_option maxHeartbeats 1000000
/-! Dn: defs of a Python text as plain functions of data: what is evaluated, over the layer's rules -/
namespace Dn
open PySem L2

abbrev D := PyData

/-! ### data at the heap: F are the addresses that may be written by the frame (own lists), data never leans on these -/
def SqLK (K : PySem.W.Frag) (a : Addr) (xs : List V) : Prop := ∃ (o : Obj) (its : Array Value) (n : Nat), K.lookup a = some o ∧ o.cls = .type "list" ∧ o.dict = none ∧ o.data = .seq its n ∧ its.size ≤ sizeLine ∧ Vals xs its.toList
def SqTK (K : PySem.W.Frag) (a : Addr) (xs : List V) : Prop := ∃ (o : Obj) (its : Array Value) (n : Nat), K.lookup a = some o ∧ o.cls = .type "tuple" ∧ o.data = .seq its n ∧ its.size ≤ sizeLine ∧ Vals xs its.toList
def kd : Key → D
  | .inl i => .int i
  | .inr x => .str x
mutual
inductive Sh (K : PySem.W.Frag) (F : Addr → Prop) (H : Hp) : V → D → Prop
  | non : Sh K F H .non .none
  | bl (b : Bool) : Sh K F H (.bl b) (.bool b)
  | int (i : Int) : Sh K F H (.int i) (.int i)
  | str (x : Str) : Sh K F H (.str x) (.str x)
  | lst {a : Addr} {xs : List V} {ds : List D} : (¬ F a ∧ Rd H a (.lst xs)) ∨ SqLK K a xs → ShA K F H xs ds → Sh K F H (.ref a) (.list ds)
  | tup {a : Addr} {xs : List V} {ds : List D} : (¬ F a ∧ Rd H a (.tup xs)) ∨ SqTK K a xs → ShA K F H xs ds → Sh K F H (.ref a) (.tuple ds)
  | dic {a : Addr} {kvs : List (Key × V)} {ds : List (D × D)} : ¬ F a → Rd H a (.dK kvs) → ShK K F H kvs ds → Sh K F H (.ref a) (.dict ds)
inductive ShA (K : PySem.W.Frag) (F : Addr → Prop) (H : Hp) : List V → List D → Prop
  | nil : ShA K F H [] []
  | cons {v : V} {d : D} {vs : List V} {ds : List D} : Sh K F H v d → ShA K F H vs ds → ShA K F H (v :: vs) (d :: ds)
inductive ShK (K : PySem.W.Frag) (F : Addr → Prop) (H : Hp) : List (Key × V) → List (D × D) → Prop
  | nil : ShK K F H [] []
  | cons {k : Key} {v : V} {d : D} {vs : List (Key × V)} {ds : List (D × D)} : Sh K F H v d → ShK K F H vs ds → ShK K F H ((k, v) :: vs) ((kd k, d) :: ds)
end

/-- what is tracked and not the frame's own stays, and does not become its own -/
def Tx (F : Addr → Prop) (H : Hp) (F' : Addr → Prop) (H' : Hp) : Prop := ∀ a u, ¬ F a → H a = some u → H' a = some u ∧ ¬ F' a
theorem Tx.refl (F : Addr → Prop) (H : Hp) : Tx F H F H := fun _ _ n e => ⟨e, n⟩
theorem Tx.trans {F F1 F2 : Addr → Prop} {H H1 H2 : Hp} (a : Tx F H F1 H1) (b : Tx F1 H1 F2 H2) : Tx F H F2 H2 := fun x u n e => let ⟨e1, n1⟩ := a x u n e; b x u n1 e1
theorem Tx.rd {F F' : Addr → Prop} {H H' : Hp} (t : Tx F H F' H') {a : Addr} {u : HO} (n : ¬ F a) (r : Rd H a u) : ¬ F' a ∧ Rd H' a u := by
  rcases r with r | ⟨o, r⟩
  · exact ⟨(t _ _ n r).2, .inl (t _ _ n r).1⟩
  · exact ⟨(t _ _ n r).2, .inr ⟨o, (t _ _ n r).1⟩⟩
section
variable {K : PySem.W.Frag} {F F' : Addr → Prop} {H H' : Hp}
mutual
theorem Sh.tx (t : Tx F H F' H') : ∀ {v : V} {d : D}, Sh K F H v d → Sh K F' H' v d
  | _, _, .non => .non
  | _, _, .bl b => .bl b
  | _, _, .int i => .int i
  | _, _, .str x => .str x
  | _, _, .lst h s => .lst (h.elim (fun z => .inl (t.rd z.1 z.2)) .inr) (ShA.tx t s)
  | _, _, .tup h s => .tup (h.elim (fun z => .inl (t.rd z.1 z.2)) .inr) (ShA.tx t s)
  | _, _, .dic n r s => .dic (t.rd n r).1 (t.rd n r).2 (ShK.tx t s)
theorem ShA.tx (t : Tx F H F' H') : ∀ {v : List V} {d : List D}, ShA K F H v d → ShA K F' H' v d
  | _, _, .nil => .nil
  | _, _, .cons h s => .cons (Sh.tx t h) (ShA.tx t s)
theorem ShK.tx (t : Tx F H F' H') : ∀ {v : List (Key × V)} {d : List (D × D)}, ShK K F H v d → ShK K F' H' v d
  | _, _, .nil => .nil
  | _, _, .cons h s => .cons (Sh.tx t h) (ShK.tx t s)
end
theorem Tx.same (h : Same H H') : Tx F H F H' := fun a u n e => ⟨h a u e, n⟩
theorem Tx.less (h : ∀ a, F' a → F a) : Tx F H F' H := fun a u n e => ⟨e, fun z => n (h a z)⟩
theorem Tx.both (s : Same H H') (h : ∀ a, F' a → F a ∨ H a = none) : Tx F H F' H' := fun a u n e => ⟨s a u e, fun z => (h a z).elim n fun q => by rw [e] at q; cases q⟩
theorem ShA.length : ∀ {vs : List V} {ds : List D}, ShA K F H vs ds → vs.length = ds.length
  | _, _, .nil => rfl
  | _, _, .cons _ s => by rw [List.length_cons, List.length_cons, ShA.length s]
theorem ShA.get : ∀ {vs : List V} {ds : List D} {i : Nat} {d : D}, ShA K F H vs ds → ds[i]? = some d → ∃ v, vs[i]? = some v ∧ Sh K F H v d
  | _, _, _, _, .nil, e => by simp at e
  | _, _, 0, _, .cons h _, e => by simp at e; subst e; exact ⟨_, rfl, h⟩
  | _, _, i + 1, d, .cons _ s, e => by
    obtain ⟨v, e1, h⟩ := ShA.get (i := i) (d := d) s (by simpa using e)
    exact ⟨v, by simpa using e1, h⟩
theorem ShA.get' : ∀ {vs : List V} {ds : List D} {i : Nat} {v : V}, ShA K F H vs ds → vs[i]? = some v → ∃ d, ds[i]? = some d ∧ Sh K F H v d
  | _, _, _, _, .nil, e => by simp at e
  | _, _, 0, _, .cons h _, e => by simp at e; subst e; exact ⟨_, rfl, h⟩
  | _, _, i + 1, d, .cons _ s, e => by
    obtain ⟨v, e1, h⟩ := ShA.get' (i := i) (v := d) s (by simpa using e)
    exact ⟨v, by simpa using e1, h⟩
theorem ShA.append : ∀ {vs ws : List V} {ds es : List D}, ShA K F H vs ds → ShA K F H ws es → ShA K F H (vs ++ ws) (ds ++ es)
  | _, _, _, _, .nil, s => s
  | _, _, _, _, .cons h r, s => .cons h (ShA.append r s)
theorem ShA.one {v : V} {d : D} (h : Sh K F H v d) : ShA K F H [v] [d] := .cons h .nil
theorem ShA.take : ∀ {vs : List V} {ds : List D} (n : Nat), ShA K F H vs ds → ShA K F H (vs.take n) (ds.take n)
  | _, _, 0, _ => .nil
  | _, _, n + 1, .nil => .nil
  | _, _, n + 1, .cons h s => .cons h (ShA.take n s)
theorem ShA.drop : ∀ {vs : List V} {ds : List D} (n : Nat), ShA K F H vs ds → ShA K F H (vs.drop n) (ds.drop n)
  | _, _, 0, s => s
  | _, _, n + 1, .nil => .nil
  | _, _, n + 1, .cons h s => ShA.drop n s
theorem ShA.set {v : V} {d : D} (h : Sh K F H v d) : ∀ {vs : List V} {ds : List D} (n : Nat), ShA K F H vs ds → ShA K F H (vs.set n v) (ds.set n d)
  | _, _, _, .nil => .nil
  | _, _, 0, .cons _ s => .cons h s
  | _, _, n + 1, .cons q s => .cons q (ShA.set h n s)
theorem ShA.rev : ∀ {vs : List V} {ds : List D}, ShA K F H vs ds → ShA K F H vs.reverse ds.reverse
  | _, _, .nil => .nil
  | _, _, .cons h s => by rw [List.reverse_cons, List.reverse_cons]; exact (ShA.rev s).append (.one h)
theorem Sh.sqT {a : Addr} {ds : List D} (h : Sh K F H (.ref a) (.tuple ds)) : ∃ xs, SqT K H a xs ∧ ShA K F H xs ds := by
  cases h with
  | tup h s => exact ⟨_, h.elim (fun z => .inl z.2) .inr, s⟩
end

/-! ### the frame's abstract state -/
inductive Cell where
  | lst (xs : List D)
  | dic (kvs : List (Key × D))
def Cell.toD : Cell → D
  | .lst xs => .list xs
  | .dic kvs => .dict (kvs.map fun p => (kd p.1, p.2))
/-- a slot: not assigned | data | an own list or dict, that nobody else knows | one that the caller lends -/
inductive Sl where
  | emp
  | val (d : D)
  | own (c : Cell)
  | bor (c : Cell)
abbrev Env := List Sl
inductive R where
  | val (d : D)
  | fresh (c : Cell)
def R.toD : R → D
  | .val d => d
  | .fresh c => c.toD
inductive Res (α : Type) where
  | ok (a : α) (ρ : Env)
  | exc (c : Str) (ρ : Env)
  | bad
def gS : Env → Nat → Sl
  | [], _ => .emp
  | s :: _, 0 => s
  | _ :: r, i + 1 => gS r i
def sS : Env → Nat → Sl → Env
  | [], _, _ => []
  | _ :: r, 0, s => s :: r
  | a :: r, i + 1, s => a :: sS r i s
theorem sS_len : ∀ (ρ : Env) (i : Nat) (s : Sl), (sS ρ i s).length = ρ.length
  | [], _, _ => rfl
  | _ :: _, 0, _ => rfl
  | _ :: r, i + 1, s => by show (sS r i s).length + 1 = r.length + 1; rw [sS_len r i s]
theorem gS_same : ∀ {ρ : Env} {i : Nat} {s : Sl}, i < ρ.length → gS (sS ρ i s) i = s
  | [], _, _, h => by simp at h
  | _ :: _, 0, _, _ => rfl
  | _ :: r, i + 1, s, h => gS_same (ρ := r) (i := i) (s := s) (by simpa using h)
theorem gS_ne : ∀ {ρ : Env} {i j : Nat} {s : Sl}, i ≠ j → gS (sS ρ i s) j = gS ρ j
  | [], _, _, _, _ => rfl
  | _ :: _, 0, 0, _, h => absurd rfl h
  | _ :: _, 0, _ + 1, _, _ => rfl
  | _ :: _, _ + 1, 0, _, _ => rfl
  | _ :: r, i + 1, j + 1, s, h => gS_ne (ρ := r) (i := i) (j := j) (s := s) (by omega)
theorem gS_out : ∀ {ρ : Env} {i : Nat}, ρ.length ≤ i → gS ρ i = .emp
  | [], _, _ => rfl
  | _ :: _, 0, h => by simp at h
  | _ :: r, i + 1, h => gS_out (ρ := r) (i := i) (by simpa using h)

structure Ctx where
  B : Addr → Prop
  H0 : Hp
  bv : Nat → V
abbrev Ctx.plus (C : Ctx) (as : List Addr) : Ctx := { C with B := fun a => C.B a ∨ a ∈ as }
def FF (B : Addr → Prop) (o : Nat → List Addr) (a : Addr) : Prop := B a ∨ ∃ i, a ∈ o i
def ShD (K : PySem.W.Frag) (F : Addr → Prop) (H : Hp) (vs : List (Key × V)) (ds : List (Key × D)) : Prop := Paired (fun p q => p.1 = q.1 ∧ Sh K F H p.2 q.2) vs ds
def CR (K : PySem.W.Frag) (F : Addr → Prop) (H : Hp) (as : List Addr) (v : V) : Cell → Prop
  | .lst xs => ∃ a vs, as = [a] ∧ v = .ref a ∧ H a = some (.lst vs) ∧ ShA K F H vs xs
  | .dic kvs => ∃ a vs, as = [a] ∧ v = .ref a ∧ H a = some (.dK vs) ∧ ShD K F H vs kvs
def SlR (K : PySem.W.Frag) (F : Addr → Prop) (H : Hp) (as : List Addr) (bv : V) (ov : Option (Option V)) : Sl → Prop
  | .emp => as = []
  | .val d => as = [] ∧ ∃ v, ov = some (some v) ∧ Sh K F H v d
  | .own c => ∃ v, ov = some (some v) ∧ CR K F H as v c
  | .bor c => ov = some (some bv) ∧ CR K F H as bv c
structure SRo (K : PySem.W.Frag) (C : Ctx) (o : Nat → List Addr) (ρ : Env) (σ : St) (H : Hp) : Prop where
  len : ρ.length = σ.length
  same : Same C.H0 H
  nod : ∀ i, (o i).Nodup
  inj : ∀ i j a, a ∈ o i → a ∈ o j → i = j
  nB : ∀ i a, a ∈ o i → ¬ C.B a
  fr : ∀ i a, a ∈ o i → C.H0 a = none
  tr : ∀ a, FF C.B o a → H a ≠ none
  slot : ∀ i, SlR K (FF C.B o) H (o i) (C.bv i) σ[i]? (gS ρ i)
section
variable {K : PySem.W.Frag} {F F' : Addr → Prop} {H H' : Hp} {as : List Addr} {v : V} {c : Cell}
theorem ShD.tx (t : Tx F H F' H') : ∀ {vs : List (Key × V)} {ds : List (Key × D)}, ShD K F H vs ds → ShD K F' H' vs ds
  | _, _, .nil => .nil
  | _, _, .cons h s => .cons ⟨h.1, h.2.tx t⟩ (ShD.tx t s)
theorem ShD.shK : ∀ {vs : List (Key × V)} {ds : List (Key × D)}, ShD K F H vs ds → ShK K F H vs (ds.map fun p => (kd p.1, p.2))
  | _, _, .nil => .nil
  | (k, v) :: _, (k', d) :: _, .cons h s => by
    obtain ⟨e, h⟩ := h
    have e : k = k' := e
    subst e
    exact .cons h (ShD.shK s)
/-- a cell's content goes over where its own addresses are kept -/
theorem CR.tx (t : Tx F H F' H') (k : ∀ a ∈ as, H' a = H a) (h : CR K F H as v c) : CR K F' H' as v c := by
  cases c with
  | lst xs =>
    obtain ⟨a, vs, rfl, rfl, e, s⟩ := h
    exact ⟨a, vs, rfl, rfl, (k a (by simp)).trans e, s.tx t⟩
  | dic kvs =>
    obtain ⟨a, vs, rfl, rfl, e, s⟩ := h
    exact ⟨a, vs, rfl, rfl, (k a (by simp)).trans e, s.tx t⟩
/-- the cell's content as data, once its addresses are given up -/
theorem CR.sh (h : CR K F H as v c) (t : Tx F H F' H) (n : ∀ a ∈ as, ¬ F' a) : Sh K F' H v c.toD := by
  cases c with
  | lst xs =>
    obtain ⟨a, vs, rfl, rfl, e, s⟩ := h
    exact .lst (.inl ⟨n a (by simp), .inl e⟩) (s.tx t)
  | dic kvs =>
    obtain ⟨a, vs, rfl, rfl, e, s⟩ := h
    exact .dic (n a (by simp)) (.inl e) (ShD.shK (s.tx t))
end
section
variable {K : PySem.W.Frag} {C : Ctx} {o : Nat → List Addr} {ρ : Env} {σ : St} {H H' : Hp}
theorem SlR.tx {F F' : Addr → Prop} {as : List Addr} {bv : V} {ov : Option (Option V)} {s : Sl} (t : Tx F H F' H') (k : ∀ a ∈ as, H' a = H a) (h : SlR K F H as bv ov s) : SlR K F' H' as bv ov s := by
  cases s with
  | emp => exact h
  | val d => obtain ⟨e, v, ev, h⟩ := h; exact ⟨e, v, ev, h.tx t⟩
  | own c => obtain ⟨v, ev, h⟩ := h; exact ⟨v, ev, h.tx t k⟩
  | bor c => exact ⟨h.1, h.2.tx t k⟩
theorem same_at {a : Addr} (s : Same H H') (n : H a ≠ none) : H' a = H a := by
  cases e : H a with
  | none => exact absurd e n
  | some u => exact s a u e
/-- the heap has grown -/
theorem SRo.keep (S : SRo K C o ρ σ H) (s : Same H H') : SRo K C o ρ σ H' where
  len := S.len
  same := S.same.trans s
  nod := S.nod
  inj := S.inj
  nB := S.nB
  fr := S.fr
  tr := fun a h z => by rw [same_at s (S.tr a h)] at z; exact S.tr a h z
  slot := fun i => (S.slot i).tx (.same s) fun a ha => same_at s (S.tr a (.inr ⟨i, ha⟩))
/-- fewer addresses that are forbidden -/
theorem SRo.lessB {C' : Ctx} (S : SRo K C o ρ σ H) (h : ∀ a, C'.B a → C.B a) (h0 : C'.H0 = C.H0) (hb : C'.bv = C.bv) : SRo K C' o ρ σ H where
  len := S.len
  same := by rw [h0]; exact S.same
  nod := S.nod
  inj := S.inj
  nB := fun i a ha z => S.nB i a ha (h a z)
  fr := fun i a ha => by rw [h0]; exact S.fr i a ha
  tr := fun a z => S.tr a (z.elim (fun q => .inl (h a q)) .inr)
  slot := fun i => by rw [hb]; exact (S.slot i).tx (.less fun a z => z.elim (fun q => .inl (h a q)) .inr) fun _ _ => rfl
theorem SRo.less {as : List Addr} (S : SRo K (C.plus as) o ρ σ H) : SRo K C o ρ σ H := S.lessB (fun _ => .inl) rfl rfl
def oset (o : Nat → List Addr) (i : Nat) (as : List Addr) : Nat → List Addr := fun j => if j = i then as else o j
theorem oset_same {i : Nat} {as : List Addr} : oset o i as i = as := if_pos rfl
theorem oset_ne {i j : Nat} {as : List Addr} (h : j ≠ i) : oset o i as j = o j := if_neg h
theorem oset_nil_mem {i j : Nat} {a : Addr} (h : a ∈ oset o i [] j) : j ≠ i ∧ a ∈ o j := by
  by_cases e : j = i
  · subst e; rw [oset_same] at h; cases h
  · rw [oset_ne e] at h; exact ⟨e, h⟩
/-- a slot gives its addresses up, its content is whatever slot content without addresses -/
theorem SRo.drop (S : SRo K C o ρ σ H) {i : Nat} {s : Sl} {σ' : St} (hl : σ'.length = σ.length) (hσ : ∀ j, j ≠ i → σ'[j]? = σ[j]?)
    (hs : i < ρ.length → SlR K (FF C.B (oset o i [])) H [] (C.bv i) σ'[i]? s) : SRo K C (oset o i []) (sS ρ i s) σ' H where
  len := by rw [sS_len, hl]; exact S.len
  same := S.same
  nod := fun j => by
    by_cases e : j = i
    · subst e; rw [oset_same]; exact List.nodup_nil
    · rw [oset_ne e]; exact S.nod j
  inj := fun j k a h1 h2 => S.inj j k a (oset_nil_mem h1).2 (oset_nil_mem h2).2
  nB := fun j a h => S.nB j a (oset_nil_mem h).2
  fr := fun j a h => S.fr j a (oset_nil_mem h).2
  tr := fun a z => S.tr a (z.elim .inl fun ⟨j, q⟩ => .inr ⟨j, (oset_nil_mem q).2⟩)
  slot := fun j => by
    by_cases e : j = i
    · subst e
      rw [oset_same]
      by_cases hj : j < ρ.length
      · rw [gS_same hj]; exact hs hj
      · rw [gS_out (by rw [sS_len]; omega)]; exact rfl
    · rw [oset_ne e, gS_ne (Ne.symm e), hσ j e]
      exact (S.slot j).tx (.less fun a z => z.elim .inl fun ⟨k, q⟩ => .inr ⟨k, (oset_nil_mem q).2⟩) fun _ _ => rfl
theorem FF.drop {B : Addr → Prop} {i : Nat} : ∀ a, FF B (oset o i []) a → FF B o a := fun a z => z.elim .inl fun ⟨j, q⟩ => .inr ⟨j, (oset_nil_mem q).2⟩
/-- a name is given data -/
theorem SRo.setV (S : SRo K C o ρ σ H) {i : Nat} {v : V} {d : D} (h : Sh K (FF C.B o) H v d) : SRo K C (oset o i []) (sS ρ i (.val d)) (σ.set i (some v)) H :=
  S.drop (by simp) (fun j e => by rw [List.getElem?_set_ne (Ne.symm e)]) fun hi => ⟨rfl, v, by rw [List.getElem?_set_self (by rw [← S.len]; exact hi)], h.tx (.less FF.drop)⟩
/-- a slot is forgotten -/
theorem SRo.setE (S : SRo K C o ρ σ H) {i : Nat} {ov : Option V} : SRo K C (oset o i []) (sS ρ i .emp) (σ.set i ov) H :=
  S.drop (by simp) (fun j e => by rw [List.getElem?_set_ne (Ne.symm e)]) fun _ => rfl
theorem SRo.setE0 (S : SRo K C o ρ σ H) {i : Nat} : SRo K C (oset o i []) (sS ρ i .emp) σ H :=
  S.drop rfl (fun j e => rfl) fun _ => rfl
/-- a name is given a new list or dict -/
theorem SRo.setO {as : List Addr} {v : V} {c : Cell} (S : SRo K (C.plus as) o ρ σ H) {i : Nat} (hi : i < ρ.length) (nd : as.Nodup) (nB : ∀ a ∈ as, ¬ C.B a) (h0 : ∀ a ∈ as, C.H0 a = none) (h : CR K (FF (C.plus as).B o) H as v c) :
    SRo K C (oset o i as) (sS ρ i (.own c)) (σ.set i (some v)) H := by
  have le : ∀ a, FF C.B (oset o i as) a → FF (C.plus as).B o a := fun a z => by
    rcases z with z | ⟨j, q⟩
    · exact .inl (.inl z)
    · by_cases e : j = i
      · subst e; rw [oset_same] at q; exact .inl (.inr q)
      · rw [oset_ne e] at q; exact .inr ⟨j, q⟩
  have no : ∀ j a, a ∈ o j → a ∉ as := fun j a h z => S.nB j a h (.inr z)
  refine ⟨by rw [sS_len, List.length_set]; exact S.len, S.same, fun j => ?_, fun j k a h1 h2 => ?_, fun j a h1 => ?_, fun j a h1 => ?_, fun a z => S.tr a (le a z), fun j => ?_⟩
  · by_cases e : j = i
    · subst e; rw [oset_same]; exact nd
    · rw [oset_ne e]; exact S.nod j
  · by_cases e : j = i
    · by_cases e' : k = i
      · rw [e, e']
      · subst e; rw [oset_same] at h1; rw [oset_ne e'] at h2; exact absurd h1 (no k a h2)
    · by_cases e' : k = i
      · subst e'; rw [oset_same] at h2; rw [oset_ne e] at h1; exact absurd h2 (no j a h1)
      · rw [oset_ne e] at h1; rw [oset_ne e'] at h2; exact S.inj j k a h1 h2
  · by_cases e : j = i
    · subst e; rw [oset_same] at h1; exact nB a h1
    · rw [oset_ne e] at h1; exact fun z => S.nB j a h1 (.inl z)
  · by_cases e : j = i
    · subst e; rw [oset_same] at h1; exact h0 a h1
    · rw [oset_ne e] at h1; exact S.fr j a h1
  · by_cases e : j = i
    · subst e
      rw [oset_same, gS_same hi]
      exact ⟨v, by rw [List.getElem?_set_self (by rw [← S.len]; exact hi)], h.tx (.less le) fun _ _ => rfl⟩
    · rw [oset_ne e, gS_ne (Ne.symm e), List.getElem?_set_ne (Ne.symm e)]
      exact (S.slot j).tx (.less le) fun _ _ => rfl
/-- an own list or dict is written -/
theorem SRo.wr (S : SRo K C o ρ σ H) {i : Nat} {a : Addr} {ho : HO} {s : Sl} (ho1 : o i = [a]) (hlt : i < ρ.length) (hs : ∀ H', Tx (FF C.B o) H (FF C.B o) H' → H' a = some ho → SlR K (FF C.B o) H' [a] (C.bv i) σ[i]? s) :
    SRo K C o (sS ρ i s) σ (upd H a ho) ∧ Tx (FF C.B o) H (FF C.B o) (upd H a ho) := by
  have ma : a ∈ o i := by rw [ho1]; simp
  have t : Tx (FF C.B o) H (FF C.B o) (upd H a ho) := fun b u n e => ⟨by rw [upd_ne fun z => n (by rw [z]; exact .inr ⟨i, ma⟩)]; exact e, n⟩
  refine ⟨⟨by rw [sS_len]; exact S.len, fun b u e => ?_, S.nod, S.inj, S.nB, S.fr, fun b z => ?_, fun j => ?_⟩, t⟩
  · rw [upd_ne fun z => by rw [z, S.fr i a ma] at e; cases e]
    exact S.same b u e
  · by_cases e : b = a
    · subst e; rw [upd_same]; exact fun q => nomatch q
    · rw [upd_ne e]; exact S.tr b z
  · by_cases e : j = i
    · subst e
      rw [gS_same hlt, ho1]
      exact hs _ t upd_same
    · rw [gS_ne (Ne.symm e)]
      exact (S.slot j).tx t fun b hb => upd_ne fun z => e (S.inj j i a (by rw [← z]; exact hb) ma)
end
end Dn
set_option Elab.async false
set_option linter.all false
set_option maxRecDepth 100000
set_option maxHeartbeats 1000000
/-! Dn2: the judgements, and the rules of expressions -/
namespace Dn
open PySem L2

def bindR {α β : Type} (r : Res α) (k : α → Env → Res β) : Res β := match r with
  | .ok a ρ => k a ρ
  | .exc c ρ => .exc c ρ
  | .bad => .bad
@[simp] theorem bindR_ok {α β : Type} {a : α} {ρ : Env} {k : α → Env → Res β} : bindR (.ok a ρ) k = k a ρ := id rfl
@[simp] theorem bindR_exc {α β : Type} {c : Str} {ρ : Env} {k : α → Env → Res β} : bindR (.exc c ρ) k = .exc c ρ := id rfl
@[simp] theorem bindR_bad {α β : Type} {k : α → Env → Res β} : bindR (.bad : Res α) k = .bad := id rfl
def optR {α : Type} (o : Option α) (ρ : Env) : Res α := match o with
  | some a => .ok a ρ
  | none => .bad
@[simp] theorem optR_some {α : Type} {a : α} {ρ : Env} : optR (some a) ρ = .ok a ρ := id rfl
@[simp] theorem optR_none {α : Type} {ρ : Env} : optR (none : Option α) ρ = .bad := id rfl

/-- what is wanted of an exception of the class called c -/
def XW (X : Cx) (W : WX) (c : Str) (σ : St) (H : Hp) : Prop := ∀ A, X.mg c = some (.ref A) → W (.ref A) none σ H
def PoG {α : Type} (Ok : α → Env → Prop) (Ex : Str → Env → Prop) : Res α → Prop
  | .ok a ρ => Ok a ρ
  | .exc c ρ => Ex c ρ
  | .bad => False
theorem PoG.bind {α β : Type} {Ok : β → Env → Prop} {Ex : Str → Env → Prop} {r : Res α} {k : α → Env → Res β} (h : PoG Ok Ex (bindR r k)) : PoG (fun a ρ => PoG Ok Ex (k a ρ)) Ex r := by
  cases r with
  | ok a ρ => exact h
  | exc c ρ => exact h
  | bad => exact h
theorem PoG.imp {α : Type} {Ok Ok' : α → Env → Prop} {Ex Ex' : Str → Env → Prop} {r : Res α} (h : PoG Ok Ex r) (a : ∀ x ρ, Ok x ρ → Ok' x ρ) (b : ∀ c ρ, Ex c ρ → Ex' c ρ) : PoG Ok' Ex' r := by
  cases r with
  | ok x ρ => exact a x ρ h
  | exc c ρ => exact b c ρ h
  | bad => exact h
section
variable (X : Cx) (C : Ctx) (W : WX) (o : Nat → List Addr) (σ : St) (H : Hp)
/-- behind an exception -/
def ExP (c : Str) (ρ : Env) : Prop := ∀ H' o', SRo X.K C o' ρ σ H' → Tx (FF C.B o) H (FF C.B o') H' → XW X W c σ H'
/-- behind a value that stands to its reading as Rl says -/
def OkP {α β : Type} (Rl : (Addr → Prop) → Hp → β → α → Prop) (Q : β → Hp → Prop) (d : α) (ρ : Env) : Prop :=
  ∀ v H' o', SRo X.K C o' ρ σ H' → Tx (FF C.B o) H (FF C.B o') H' → Rl (FF C.B o') H' v d → Q v H'
def OkE (Q : VK) (r : R) (ρ : Env) : Prop := match r with
  | .val d => OkP X C o σ H (Sh X.K) Q d ρ
  | .fresh c => ∀ v H' o' as, as.Nodup → (∀ a ∈ as, C.H0 a = none) → (∀ a ∈ as, ¬ C.B a) → SRo X.K (C.plus as) o' ρ σ H' → Tx (FF C.B o) H (FF (C.plus as).B o') H' → CR X.K (FF (C.plus as).B o') H' as v c → Q v H'
def tV {α β : Type} (Rl : (Addr → Prop) → Hp → β → α → Prop) (m : Env → Res α) : St → Hp → (β → Hp → Prop) → Prop := fun σ H Q => ∃ ρ o, SRo X.K C o ρ σ H ∧ PoG (OkP X C o σ H Rl Q) (ExP X C W o σ H) (m ρ)
def tE (m : Env → Res R) : TE := fun σ H Q => ∃ ρ o, SRo X.K C o ρ σ H ∧ PoG (OkE X C o σ H Q) (ExP X C W o σ H) (m ρ)
end
def RlB (F : Addr → Prop) (H : Hp) (b c : Bool) : Prop := b = c
def RlO (F : Addr → Prop) (H : Hp) (b c : Option Int) : Prop := b = c
/-- what a value may be read as, at once -/
def Pk (K : PySem.W.Frag) (F : Addr → Prop) (H : Hp) (v : V) (d : D) : Prop := match d with
  | .list ds => ∃ a xs, v = .ref a ∧ SqL K H a xs ∧ ShA K F H xs ds
  | .dict ds => ∃ a kvs, v = .ref a ∧ Rd H a (.dK kvs) ∧ ShK K F H kvs ds
  | d => Sh K F H v d
theorem Sh.pk {K : PySem.W.Frag} {F : Addr → Prop} {H : Hp} {v : V} {d : D} (h : Sh K F H v d) : Pk K F H v d := by
  cases h with
  | non => exact .non
  | bl b => exact .bl b
  | int i => exact .int i
  | str x => exact .str x
  | lst h s => exact ⟨_, _, rfl, h.elim (fun z => .inl z.2) .inr, s⟩
  | tup h s => exact .tup h s
  | dic n r s => exact ⟨_, _, rfl, r, s⟩
theorem CR.pk {K : PySem.W.Frag} {F : Addr → Prop} {H : Hp} {as : List Addr} {v : V} {c : Cell} (h : CR K F H as v c) : Pk K F H v c.toD := by
  cases c with
  | lst xs =>
    obtain ⟨a, vs, rfl, rfl, e, s⟩ := h
    exact ⟨a, vs, rfl, .of e, s⟩
  | dic kvs =>
    obtain ⟨a, vs, rfl, rfl, e, s⟩ := h
    exact ⟨a, vs, rfl, .of e, s.shK⟩
def JE (X : Cx) (C : Ctx) (W : WX) (e : Expr) (m : Env → Res R) : Prop := PE X e (tE X C W m)
/-- a value that may be kept | one that is read at once -/
def JV (X : Cx) (C : Ctx) (W : WX) (e : Expr) (m : Env → Res D) : Prop := PE X e (tV X C W (Sh X.K) m)
def JP (X : Cx) (C : Ctx) (W : WX) (e : Expr) (m : Env → Res D) : Prop := PE X e (tV X C W (Pk X.K) m)
def JA (X : Cx) (C : Ctx) (W : WX) (es : List Expr) (m : Env → Res (List D)) : Prop := PA X es (tV X C W (ShA X.K) m)
def JT (X : Cx) (C : Ctx) (W : WX) (e : Expr) (m : Env → Res Bool) : Prop := PT X e (tV X C W RlB m)
def JW (X : Cx) (C : Ctx) (W : WX) (e : Expr) (m : Env → Res Bool) : Prop := PW X e (tV X C W RlB m)
def JO (X : Cx) (C : Ctx) (W : WX) (e : Option Expr) (m : Env → Res (Option Int)) : Prop := PO X e (tV X C W RlO m)

theorem PE.imp {X : Cx} {e : Expr} {t t' : TE} (h : PE X e t) (i : ∀ σ H Q, t' σ H Q → t σ H Q) : PE X e t' := ⟨fun pins s σ H Q I q => h.run pins s σ H Q I (i σ H Q q)⟩
theorem PT.imp {X : Cx} {e : Expr} {t t' : TT} (h : PT X e t) (i : ∀ σ H Q, t' σ H Q → t σ H Q) : PT X e t' := ⟨fun pins s σ H Q I q => h.run pins s σ H Q I (i σ H Q q)⟩
theorem PW.imp {X : Cx} {e : Expr} {t t' : TT} (h : PW X e t) (i : ∀ σ H Q, t' σ H Q → t σ H Q) : PW X e t' := ⟨fun wh pins s σ H Q I q => h.run wh pins s σ H Q I (i σ H Q q)⟩
theorem PA.imp {X : Cx} {e : List Expr} {t t' : TA} (h : PA X e t) (i : ∀ σ H Q, t' σ H Q → t σ H Q) : PA X e t' := ⟨fun p pins s σ H Q I q => h.run p pins s σ H Q I (i σ H Q q)⟩
theorem PO.imp {X : Cx} {e : Option Expr} {t t' : TO} (h : PO X e t) (i : ∀ σ H Q, t' σ H Q → t σ H Q) : PO X e t' := ⟨fun pins s σ H Q I q => h.run pins s σ H Q I (i σ H Q q)⟩

section
variable {X : Cx} {C : Ctx} {W : WX} {o o1 : Nat → List Addr} {σ : St} {H H1 : Hp}
theorem ExP.shift (t : Tx (FF C.B o) H (FF C.B o1) H1) {c : Str} {ρ : Env} (h : ExP X C W o σ H c ρ) : ExP X C W o1 σ H1 c ρ := fun H' o' S t' => h H' o' S (t.trans t')
theorem OkP.shift {α β : Type} {Rl : (Addr → Prop) → Hp → β → α → Prop} {Q : β → Hp → Prop} (t : Tx (FF C.B o) H (FF C.B o1) H1) {d : α} {ρ : Env} (h : OkP X C o σ H Rl Q d ρ) : OkP X C o1 σ H1 Rl Q d ρ := fun v H' o' S t' => h v H' o' S (t.trans t')
theorem OkE.shift {Q : VK} (t : Tx (FF C.B o) H (FF C.B o1) H1) {r : R} {ρ : Env} (h : OkE X C o σ H Q r ρ) : OkE X C o1 σ H1 Q r ρ := by
  cases r with
  | val d => exact OkP.shift t h
  | fresh c => exact fun v H' o' as a b c S t' => h v H' o' as a b c S (t.trans t')
theorem SRo.fresh {as : List Addr} {v : V} {c : Cell} {ρ : Env} (S : SRo X.K (C.plus as) o1 ρ σ H1) (h : CR X.K (FF (C.plus as).B o1) H1 as v c) (nB : ∀ a ∈ as, ¬ C.B a) : Sh X.K (FF C.B o1) H1 v c.toD :=
  h.sh (.less fun a z => z.elim (fun q => .inl (.inl q)) .inr) fun a ha z => z.elim (nB a ha) fun ⟨i, q⟩ => S.nB i a q (.inr ha)
theorem Tx.dropB {as : List Addr} {F : Addr → Prop} {H0 : Hp} (t : Tx F H0 (FF (C.plus as).B o1) H1) : Tx F H0 (FF C.B o1) H1 := t.trans (.less fun a z => z.elim (fun q => .inl (.inl q)) .inr)
/-- data is taken where anything is served -/
theorem OkE.of_val {Q : VK} {r : R} {ρ : Env} (h : OkP X C o σ H (Sh X.K) Q r.toD ρ) : OkE X C o σ H Q r ρ := by
  cases r with
  | val d => exact h
  | fresh c => exact fun v H' o' as nd h0 nB S t q => h v H' o' S.less t.dropB (S.fresh q nB)
theorem OkE.of_pk {Q : VK} {r : R} {ρ : Env} (h : OkP X C o σ H (Pk X.K) Q r.toD ρ) : OkE X C o σ H Q r ρ := OkE.of_val fun v H' o' S t s => h v H' o' S t s.pk

def toV (m : Env → Res R) : Env → Res D := fun ρ => bindR (m ρ) fun r ρ1 => .ok r.toD ρ1
theorem JE.v {e : Expr} {m : Env → Res R} (h : JE X C W e m) : JV X C W e (toV m) := PE.imp h fun σ H Q ⟨ρ, o, S, q⟩ => ⟨ρ, o, S, (PoG.bind q).imp (fun r ρ1 z => OkE.of_val z) fun _ _ z => z⟩
theorem JE.p {e : Expr} {m : Env → Res R} (h : JE X C W e m) : JP X C W e (toV m) := PE.imp h fun σ H Q ⟨ρ, o, S, q⟩ => ⟨ρ, o, S, (PoG.bind q).imp (fun r ρ1 z => OkE.of_pk z) fun _ _ z => z⟩

/-- THE STEP: a value, then what follows with it -/
theorem step {α β : Type} {Rl : (Addr → Prop) → Hp → β → α → Prop} {γ : Type} {Ok : Hp → (Nat → List Addr) → γ → Env → Prop} {m : Env → Res α} {k : α → Env → Res γ} {ρ : Env} (S : SRo X.K C o ρ σ H)
    (sh : ∀ H1 o1 g ρ1, Tx (FF C.B o) H (FF C.B o1) H1 → Ok H o g ρ1 → Ok H1 o1 g ρ1)
    (h : PoG (Ok H o) (ExP X C W o σ H) (bindR (m ρ) k)) :
    tV X C W Rl m σ H (fun v H1 => ∃ ρ1 o1 d, SRo X.K C o1 ρ1 σ H1 ∧ Tx (FF C.B o) H (FF C.B o1) H1 ∧ Rl (FF C.B o1) H1 v d ∧ PoG (Ok H1 o1) (ExP X C W o1 σ H1) (k d ρ1)) :=
  ⟨ρ, o, S, (PoG.bind h).imp (fun a ρ1 z v H1 o1 S1 t r => ⟨ρ1, o1, a, S1, t, r, z.imp (fun g r => sh _ _ g r t) fun _ _ => ExP.shift t⟩) fun _ _ z => z⟩
theorem stepE {α β : Type} {Rl : (Addr → Prop) → Hp → β → α → Prop} {Q : VK} {m : Env → Res α} {k : α → Env → Res R} {ρ : Env} (S : SRo X.K C o ρ σ H) (h : PoG (OkE X C o σ H Q) (ExP X C W o σ H) (bindR (m ρ) k)) :
    tV X C W Rl m σ H (fun v H1 => ∃ ρ1 o1 d, SRo X.K C o1 ρ1 σ H1 ∧ Tx (FF C.B o) H (FF C.B o1) H1 ∧ Rl (FF C.B o1) H1 v d ∧ PoG (OkE X C o1 σ H1 Q) (ExP X C W o1 σ H1) (k d ρ1)) :=
  step (Ok := fun H o => OkE X C o σ H Q) S (fun _ _ _ _ t z => OkE.shift t z) h
theorem stepV {α β α' β' : Type} {Rl : (Addr → Prop) → Hp → β → α → Prop} {Rl' : (Addr → Prop) → Hp → β' → α' → Prop} {Q : β' → Hp → Prop} {m : Env → Res α} {k : α → Env → Res α'} {ρ : Env} (S : SRo X.K C o ρ σ H) (h : PoG (OkP X C o σ H Rl' Q) (ExP X C W o σ H) (bindR (m ρ) k)) :
    tV X C W Rl m σ H (fun v H1 => ∃ ρ1 o1 d, SRo X.K C o1 ρ1 σ H1 ∧ Tx (FF C.B o) H (FF C.B o1) H1 ∧ Rl (FF C.B o1) H1 v d ∧ PoG (OkP X C o1 σ H1 Rl' Q) (ExP X C W o1 σ H1) (k d ρ1)) :=
  step (Ok := fun H o => OkP X C o σ H Rl' Q) S (fun _ _ _ _ t z => OkP.shift t z) h

/-! ### what a primitive gives: the heap may grow -/
def NewOk (K : PySem.W.Frag) (F : Addr → Prop) (H : Hp) (Q : VK) : R → Prop
  | .val d => ∀ v H', Same H H' → Sh K F H' v d → Q v H'
  | .fresh c => ∀ v H' as, Same H H' → as.Nodup → (∀ a ∈ as, H a = none) → (∀ a ∈ as, H' a ≠ none) → CR K (fun a => F a ∨ a ∈ as) H' as v c → Q v H'
theorem FF.plus {as : List Addr} {o : Nat → List Addr} {C : Ctx} : ∀ a, FF (C.plus as).B o a ↔ FF C.B o a ∨ a ∈ as := fun a => by
  constructor
  · rintro ((z | z) | z)
    · exact .inl (.inl z)
    · exact .inr z
    · exact .inl (.inr z)
  · rintro ((z | z) | z)
    · exact .inl (.inl z)
    · exact .inr z
    · exact .inl (.inr z)
theorem newOk {ρ : Env} {r : R} {Q : VK} (S : SRo X.K C o ρ σ H) (h : OkE X C o σ H Q r ρ) : NewOk X.K (FF C.B o) H Q r := by
  cases r with
  | val d => exact fun v H' s sh => h v H' o (S.keep s) (.same s) sh
  | fresh c =>
    intro v H' as s nd h0 h1 cr
    have na : ∀ a ∈ as, ¬ FF C.B o a := fun a ha z => S.tr a z (h0 a ha)
    have n0 : ∀ a ∈ as, C.H0 a = none := fun a ha => S.same.free (h0 a ha)
    have t : Tx (FF C.B o) H (FF (C.plus as).B o) H' := .both s fun a z => ((FF.plus a).mp z).elim .inl fun q => .inr (h0 a q)
    refine h v H' o as nd n0 (fun a ha z => na a ha (.inl z)) ⟨S.len, S.same.trans s, S.nod, S.inj, fun i a ha z => z.elim (S.nB i a ha) fun q => na a q (.inr ⟨i, ha⟩), S.fr, fun a z => ?_, fun i => ?_⟩ t ?_
    · rcases (FF.plus a).mp z with z | z
      · rw [same_at s (S.tr a z)]; exact S.tr a z
      · exact h1 a z
    · exact (S.slot i).tx t fun a ha => same_at s (S.tr a (.inr ⟨i, ha⟩))
    · exact cr.tx (.less fun a z => (FF.plus a).mp z) fun _ _ => rfl

/-- binary, unary operations, calls on data -/
def rD2 (K : PySem.W.Frag) (f : D → D → Option R) : R2 := fun x y H Q => ∃ F d e r, (∀ a, F a → H a ≠ none) ∧ Sh K F H x d ∧ Sh K F H y e ∧ f d e = some r ∧ NewOk K F H Q r
def rD1 (K : PySem.W.Frag) (f : D → Option R) : V → Hp → VK → Prop := fun x H Q => ∃ F d r, (∀ a, F a → H a ≠ none) ∧ Sh K F H x d ∧ f d = some r ∧ NewOk K F H Q r
def rP1 (K : PySem.W.Frag) (f : D → Option R) : List V → Hp → VK → Prop := fun xs H Q => ∃ x F d r, xs = [x] ∧ (∀ a, F a → H a ≠ none) ∧ Pk K F H x d ∧ f d = some r ∧ NewOk K F H Q r
def rDn (K : PySem.W.Frag) (f : List D → Option R) : List V → Hp → VK → Prop := fun xs H Q => ∃ F ds r, (∀ a, F a → H a ≠ none) ∧ ShA K F H xs ds ∧ f ds = some r ∧ NewOk K F H Q r
def rDm (K : PySem.W.Frag) (f : D → List D → Option R) : V → List V → Hp → VK → Prop := fun x xs H Q => ∃ F d ds r, (∀ a, F a → H a ≠ none) ∧ Pk K F H x d ∧ ShA K F H xs ds ∧ f d ds = some r ∧ NewOk K F H Q r

def eOp2 (f : D → D → Option R) (a b : Env → Res D) : Env → Res R := fun ρ => bindR (a ρ) fun x ρ1 => bindR (b ρ1) fun y ρ2 => optR (f x y) ρ2
def eOp1 (f : D → Option R) (a : Env → Res D) : Env → Res R := fun ρ => bindR (a ρ) fun x ρ1 => optR (f x) ρ1
def eOpN (f : List D → Option R) (a : Env → Res (List D)) : Env → Res R := fun ρ => bindR (a ρ) fun x ρ1 => optR (f x) ρ1
theorem optE {ρ : Env} {r : Option R} {Q : VK} (h : PoG (OkE X C o σ H Q) (ExP X C W o σ H) (optR r ρ)) : ∃ z, r = some z ∧ OkE X C o σ H Q z ρ := by
  cases r with
  | none => exact h.elim
  | some z => exact ⟨z, rfl, h⟩
variable {a b e : Expr} {ma mb : Env → Res D} {pos : Pos} {f : D → D → Option R}
theorem op2_imp (ρ : Env) {Q : VK} (S : SRo X.K C o ρ σ H) (h : PoG (OkE X C o σ H Q) (ExP X C W o σ H) (eOp2 f ma mb ρ)) :
    tOp (rD2 X.K f) (tV X C W (Sh X.K) ma) (tV X C W (Sh X.K) mb) σ H Q := by
  obtain ⟨ρ0, o0, S0, h0⟩ := stepE (Rl := Sh X.K) S h
  refine ⟨ρ0, o0, S0, h0.imp (fun d ρ1 z v H1 o1 S1 t1 s1 => ?_) fun _ _ z => z⟩
  obtain ⟨ρ1', o1', d', S1', T1, s1', q1⟩ := z v H1 o1 S1 t1 s1
  obtain ⟨ρ2, o2, S2, h2⟩ := stepE (Rl := Sh X.K) S1' q1
  refine ⟨ρ2, o2, S2, h2.imp (fun d2 ρ3 z2 v2 H2 o3 S3 t3 s3 => ?_) fun _ _ z => z⟩
  obtain ⟨ρ4, o4, d4, S4, T4, s4, q4⟩ := z2 v2 H2 o3 S3 t3 s3
  obtain ⟨r, er, q⟩ := optE q4
  exact ⟨FF C.B o4, d', d4, r, S4.tr, s1'.tx T4, s4, er, newOk S4 q⟩
theorem je_op {op : Operator} (ho : OpR X (binaryOp op) (rD2 X.K f)) (ha : JV X C W a ma) (hb : JV X C W b mb) : JE X C W (.BinOp a op b pos) (eOp2 f ma mb) :=
  PE.imp (pe_op ho ha hb) fun σ H Q ⟨ρ, o, S, h⟩ => op2_imp ρ S h
theorem je_cmp {op : CmpOp} (ho : OpR X (compareOp op) (rD2 X.K f)) (ha : JV X C W a ma) (hb : JV X C W b mb) (hm : behindInMarks op b = false) : JE X C W (.Compare a [op] [b] pos) (eOp2 f ma mb) :=
  PE.imp (pe_cmpR ho ha hb hm) fun σ H Q ⟨ρ, o, S, h⟩ => op2_imp ρ S h
theorem je_un {op : UnaryOp} {f : D → Option R} (ho : UnR X (unaryOp op) (rD1 X.K f)) (ha : JV X C W a ma) : JE X C W (.UnaryOp op a pos) (eOp1 f ma) :=
  PE.imp (pe_un ho ha) fun σ H Q ⟨ρ, o, S, h⟩ => by
    obtain ⟨ρ0, o0, S0, h0⟩ := stepE (Rl := Sh X.K) S h
    refine ⟨ρ0, o0, S0, h0.imp (fun d ρ1 z v H1 o1 S1 t1 s1 => ?_) fun _ _ z => z⟩
    obtain ⟨ρ1', o1', d', S1', T1, s1', q1⟩ := z v H1 o1 S1 t1 s1
    obtain ⟨r, er, q⟩ := optE q1
    exact ⟨FF C.B o1', d', r, S1'.tr, s1', er, newOk S1' q⟩
/-- a subscript -/
theorem je_ix (ho : IxR X (rD2 X.K f)) (ha : JV X C W a ma) (hb : JV X C W b mb) (hs : PlainIx b) : JE X C W (.Subscript a b pos) (eOp2 f ma mb) :=
  PE.imp (pe_ix ho ha hb hs) fun σ H Q ⟨ρ, o, S, h⟩ => op2_imp ρ S h

/-! ### names, constants -/
def eVar (i : Nat) : Env → Res R := fun ρ => match gS ρ i with
  | .val d => .ok (.val d) ρ
  | .own c => .ok (.val c.toD) (sS ρ i (.val c.toD))
  | _ => .bad
/-- a name that is read at once -/
def ePk (i : Nat) : Env → Res D := fun ρ => match gS ρ i with
  | .val d => .ok d ρ
  | .own c => .ok c.toD ρ
  | .bor c => .ok c.toD ρ
  | .emp => .bad
def eC (d : D) : Env → Res R := fun ρ => .ok (.val d) ρ
theorem SRo.get {ρ : Env} (S : SRo X.K C o ρ σ H) (i : Nat) : SlR X.K (FF C.B o) H (o i) (C.bv i) σ[i]? (gS ρ i) := S.slot i
theorem je_var {i : Nat} (h : PE X e (tVar i)) : JE X C W e (eVar i) := PE.imp h fun σ H Q ⟨ρ, o, S, q⟩ => by
  have z := S.get i
  unfold eVar at q
  cases g : gS ρ i with
  | emp => rw [g] at q; exact q.elim
  | val d =>
    rw [g] at q z
    obtain ⟨_, v, ev, s⟩ := z
    exact ⟨v, ev, q v H o S (.refl _ _) s⟩
  | own c =>
    rw [g] at q z
    obtain ⟨v, ev, s⟩ := z
    have sh : Sh X.K (FF C.B (oset o i [])) H v c.toD := s.sh (.less FF.drop) fun a ha z => z.elim (S.nB i a ha) fun ⟨j, q⟩ => (oset_nil_mem q).1 (S.inj _ _ _ (oset_nil_mem q).2 ha)
    exact ⟨v, ev, q v H (oset o i []) (S.drop rfl (fun _ _ => rfl) fun _ => ⟨rfl, v, ev, sh⟩) (.less FF.drop) sh⟩
  | bor c => rw [g] at q; exact q.elim
theorem jp_var {i : Nat} (h : PE X e (tVar i)) : JP X C W e (ePk i) := PE.imp h fun σ H Q ⟨ρ, o, S, q⟩ => by
  have z := S.get i
  unfold ePk at q
  cases g : gS ρ i with
  | emp => rw [g] at q; exact q.elim
  | val d =>
    rw [g] at q z
    obtain ⟨_, v, ev, s⟩ := z
    exact ⟨v, ev, q v H o S (.refl _ _) s.pk⟩
  | own c =>
    rw [g] at q z
    obtain ⟨v, ev, s⟩ := z
    exact ⟨v, ev, q v H o S (.refl _ _) s.pk⟩
  | bor c =>
    rw [g] at q z
    exact ⟨_, z.1, q _ H o S (.refl _ _) z.2.pk⟩
theorem je_c {v : V} {d : D} (h : PE X e (tC v)) (hd : ∀ F H, Sh X.K F H v d) : JE X C W e (eC d) := PE.imp h fun σ H Q ⟨ρ, o, S, q⟩ => q v H o S (.refl _ _) (hd _ _)
theorem je_int {i j} : JE X C W (.Constant (.int i) j pos) (eC (.int i)) := je_c pe_int fun _ _ => .int i
theorem je_bl {b j} : JE X C W (.Constant (.bool b) j pos) (eC (.bool b)) := je_c pe_bl fun _ _ => .bl b
theorem je_non {j} : JE X C W (.Constant .none j pos) (eC .none) := je_c pe_non fun _ _ => .non
theorem je_str {x j} : JE X C W (.Constant (.str x) j pos) (eC (.str x)) := je_c pe_str fun _ _ => .str x
/-- a module's constant -/
theorem je_gint {x : Str} {i : Int} {t : Tok} (hm : X.mg x = some (.int i t)) (hg : Gl X x) (hd : (x == ("__debug__" : Str)) = false := by decide) : JE X C W (.Name x pos) (eC (.int i)) := je_c (pe_glob (v := .int i) hg hm ⟨t, rfl⟩ hd) fun _ _ => .int i
theorem je_gstr {x z : Str} {t : Tok} (hm : X.mg x = some (.str z t)) (hg : Gl X x) (hd : (x == ("__debug__" : Str)) = false := by decide) : JE X C W (.Name x pos) (eC (.str z)) := je_c (pe_glob (v := .str z) hg hm ⟨t, rfl⟩ hd) fun _ _ => .str z

/-! ### arguments, displays -/
def aNil : Env → Res (List D) := fun ρ => .ok [] ρ
def aCons (m : Env → Res D) (r : Env → Res (List D)) : Env → Res (List D) := fun ρ => bindR (m ρ) fun x ρ1 => bindR (r ρ1) fun xs ρ2 => .ok (x :: xs) ρ2
theorem ja_nil : JA X C W [] aNil := PA.imp pa_nil fun σ H Q ⟨ρ, o, S, q⟩ => q [] H o S (.refl _ _) .nil
theorem ja_cons {es : List Expr} {mr : Env → Res (List D)} (ha : JV X C W e ma) (hr : JA X C W es mr) (hs : starEach (e :: es) X.env = (false, eval e X.env) :: starEach es X.env := by rfl) : JA X C W (e :: es) (aCons ma mr) :=
  PA.imp (pa_cons ha hr hs) fun σ H Q ⟨ρ, o, S, h⟩ => by
    obtain ⟨ρ0, o0, S0, h0⟩ := stepV (Rl := Sh X.K) S h
    refine ⟨ρ0, o0, S0, h0.imp (fun d ρ1 z v H1 o1 S1 t1 s1 => ?_) fun _ _ z => z⟩
    obtain ⟨ρ1', o1', d', S1', T1, s1', q1⟩ := z v H1 o1 S1 t1 s1
    obtain ⟨ρ2, o2, S2, h2⟩ := stepV (Rl := ShA X.K) S1' q1
    refine ⟨ρ2, o2, S2, h2.imp (fun d2 ρ3 z2 v2 H2 o3 S3 t3 s3 => ?_) fun _ _ z => z⟩
    obtain ⟨ρ4, o4, d4, S4, T4, s4, q4⟩ := z2 v2 H2 o3 S3 t3 s3
    exact q4 (v :: v2) H2 o4 S4 (.refl _ _) (.cons (s1'.tx T4) s4)
/-- 16,777,216 -/
theorem line_of {n : Nat} (h : n ≤ 16777216) : n ≤ sizeLine := by rw [sizeLine_eq]; exact h
theorem line_lt {n : Nat} (h : n < 16777216) : n < sizeLine := by rw [sizeLine_eq]; exact h
theorem same_new {H : Hp} {p : Addr} {o : HO} (h : H p = none) : Same H (upd H p o) := fun b x e => by
  rw [upd_ne (ne_of_none e h)]
  exact e
/-- a new tuple, a new list, for NewOk -/
theorem new_tup {K : PySem.W.Frag} {F : Addr → Prop} {H : Hp} {Q : VK} {vs : List V} {ds : List D} (tr : ∀ a, F a → H a ≠ none) (s : ShA K F H vs ds) (q : NewOk K F H Q (.val (.tuple ds))) : ∀ p, H p = none → Q (.ref p) (upd H p (.tup vs)) := fun p hp =>
  q _ _ (same_new hp) (.tup (.inl ⟨fun z => tr p z hp, .inl upd_same⟩) (s.tx (.same (same_new hp))))
theorem new_lst {K : PySem.W.Frag} {F : Addr → Prop} {H : Hp} {Q : VK} {vs : List V} {ds : List D} (tr : ∀ a, F a → H a ≠ none) (s : ShA K F H vs ds) (q : NewOk K F H Q (.fresh (.lst ds))) : ∀ p, H p = none → Q (.ref p) (upd H p (.lst vs)) := fun p hp =>
  q _ _ [p] (same_new hp) (by simp) (fun a ha => by simp at ha; rw [ha]; exact hp) (fun a ha => by simp at ha; rw [ha, upd_same]; exact fun z => nomatch z)
    ⟨p, vs, rfl, rfl, upd_same, s.tx (.both (same_new hp) fun a z => z.elim .inl fun q => by simp at q; rw [q]; exact .inr hp)⟩
def fTup (ds : List D) : Option R := if ds.length ≤ 16777216 then some (.val (.tuple ds)) else none
def fLst (ds : List D) : Option R := if ds.length ≤ 16777216 then some (.fresh (.lst ds)) else none
theorem je_tup {es : List Expr} {m : Env → Res (List D)} {x1} (h : JA X C W es m) : JE X C W (.Tuple es x1 pos) (eOpN fTup m) := PE.imp (pe_tup h) fun σ H Q ⟨ρ, o, S, h⟩ => by
  obtain ⟨ρ0, o0, S0, h0⟩ := stepE (Rl := ShA X.K) S h
  refine ⟨ρ0, o0, S0, h0.imp (fun d ρ1 z v H1 o1 S1 t1 s1 => ?_) fun _ _ z => z⟩
  obtain ⟨ρ1', o1', d', S1', T1, s1', q1⟩ := z v H1 o1 S1 t1 s1
  obtain ⟨r, er, q⟩ := optE q1
  unfold fTup at er
  split at er
  · cases er
    exact ⟨by rw [s1'.length]; exact line_of (by assumption), new_tup S1'.tr s1' (newOk S1' q)⟩
  · cases er
theorem je_lst {es : List Expr} {m : Env → Res (List D)} (h : JA X C W es m) : JE X C W (.List es pos) (eOpN fLst m) := PE.imp (pe_lst h) fun σ H Q ⟨ρ, o, S, h⟩ => by
  obtain ⟨ρ0, o0, S0, h0⟩ := stepE (Rl := ShA X.K) S h
  refine ⟨ρ0, o0, S0, h0.imp (fun d ρ1 z v H1 o1 S1 t1 s1 => ?_) fun _ _ z => z⟩
  obtain ⟨ρ1', o1', d', S1', T1, s1', q1⟩ := z v H1 o1 S1 t1 s1
  obtain ⟨r, er, q⟩ := optE q1
  unfold fLst at er
  split at er
  · cases er
    exact ⟨by rw [s1'.length]; exact line_of (by assumption), new_lst S1'.tr s1' (newOk S1' q)⟩
  · cases er

/-! ### built-ins by name -/
theorem jeB_imp {fn : List D → Option R} {m : Env → Res (List D)} {ρ : Env} {Q : VK} (S : SRo X.K C o ρ σ H) (h : PoG (OkE X C o σ H Q) (ExP X C W o σ H) (eOpN fn m ρ)) : tCB (rDn X.K fn) (tV X C W (ShA X.K) m) σ H Q := by
  obtain ⟨ρ0, o0, S0, h0⟩ := stepE (Rl := ShA X.K) S h
  refine ⟨ρ0, o0, S0, h0.imp (fun d ρ1 z v H1 o1 S1 t1 s1 => ?_) fun _ _ z => z⟩
  obtain ⟨ρ1', o1', d', S1', T1, s1', q1⟩ := z v H1 o1 S1 t1 s1
  obtain ⟨r, er, q⟩ := optE q1
  exact ⟨FF C.B o1', d', r, S1'.tr, s1', er, newOk S1' q⟩
theorem jeP_imp {fn : D → Option R} {m : Env → Res D} {ρ : Env} {Q : VK} (S : SRo X.K C o ρ σ H) (h : PoG (OkE X C o σ H Q) (ExP X C W o σ H) (eOp1 fn m ρ)) : tCB (rP1 X.K fn) (tCons (tV X C W (Pk X.K) m) tNil) σ H Q := by
  obtain ⟨ρ0, o0, S0, h0⟩ := stepE (Rl := Pk X.K) S h
  refine ⟨ρ0, o0, S0, h0.imp (fun d ρ1 z v H1 o1 S1 t1 s1 => ?_) fun _ _ z => z⟩
  obtain ⟨ρ1', o1', d', S1', T1, s1', q1⟩ := z v H1 o1 S1 t1 s1
  obtain ⟨r, er, q⟩ := optE q1
  exact ⟨v, FF C.B o1', d', r, rfl, S1'.tr, s1', er, newOk S1' q⟩
variable {x : Str} {id T : String} {es : List Expr} {m : Env → Res (List D)} {p : Pos}
/-- name(e) of a built-in that reads its one argument at once -/
theorem je_b1 {f : D → Option R} (hc : CallR X (.builtin id) (rP1 X.K f)) (hm : X.mg x = none) (hv : bootBuiltins x = some (.builtin id)) (ha : JP X C W e ma) (hg : Gl X x)
    (hn : x ≠ "__name__" := by decide) (hdb : (x == ("__debug__" : Str)) = false := by decide) (hs : starEach [e] X.env = (false, eval e X.env) :: starEach [] X.env := by rfl) (he : starEach (e :: []) X.env = (false, eval e X.env) :: starEach [] X.env := by rfl) (hpl : (backTo pos (starEach [] X.env)).any (·.1) = false := by rfl) :
    JE X C W (.Call (.Name x p) [e] [] pos) (eOp1 f ma) := PE.imp (pe_callB hc hg hm hv (pa_cons ha pa_nil hs) hn hdb he hpl) fun σ H Q ⟨ρ, o, S, h⟩ => jeP_imp S h
theorem je_t1 {f : D → Option R} (hc : CallR X (.type T) (rP1 X.K f)) (hm : X.mg x = none) (hv : bootBuiltins x = some (.type T)) (ha : JP X C W e ma) (hg : Gl X x)
    (hn : x ≠ "__name__" := by decide) (hdb : (x == ("__debug__" : Str)) = false := by decide) (hs : starEach [e] X.env = (false, eval e X.env) :: starEach [] X.env := by rfl) (he : starEach (e :: []) X.env = (false, eval e X.env) :: starEach [] X.env := by rfl) (hpl : (backTo pos (starEach [] X.env)).any (·.1) = false := by rfl) :
    JE X C W (.Call (.Name x p) [e] [] pos) (eOp1 f ma) := PE.imp (pe_callTy hc hg hm hv (pa_cons ha pa_nil hs) hn hdb he hpl) fun σ H Q ⟨ρ, o, S, h⟩ => jeP_imp S h
/-- name(e, ..) of a built-in -/
theorem je_bn {f : List D → Option R} (hc : CallR X (.builtin id) (rDn X.K f)) (hm : X.mg x = none) (hv : bootBuiltins x = some (.builtin id)) (ha : JA X C W (e :: es) m) (hg : Gl X x)
    (hn : x ≠ "__name__" := by decide) (hdb : (x == ("__debug__" : Str)) = false := by decide) (he : starEach (e :: es) X.env = (false, eval e X.env) :: starEach es X.env := by rfl) (hpl : (backTo pos (starEach es X.env)).any (·.1) = false := by rfl) :
    JE X C W (.Call (.Name x p) (e :: es) [] pos) (eOpN f m) := PE.imp (pe_callB hc hg hm hv ha hn hdb he hpl) fun σ H Q ⟨ρ, o, S, h⟩ => jeB_imp S h
/-- .. of a module's (from math import gcd) -/
theorem je_bf {f : List D → Option R} (hc : CallR X (.builtin id) (rDn X.K f)) (hm : X.mg x = some (.builtin id)) (ha : JA X C W (e :: es) m) (hg : Gl X x) (hdb : (x == ("__debug__" : Str)) = false := by decide) (he : starEach (e :: es) X.env = (false, eval e X.env) :: starEach es X.env := by rfl) (hpl : (backTo pos (starEach es X.env)).any (·.1) = false := by rfl) :
    JE X C W (.Call (.Name x p) (e :: es) [] pos) (eOpN f m) := PE.imp (L2.pe_callBfun hc hg hm ha hdb he hpl) fun σ H Q ⟨ρ, o, S, h⟩ => jeB_imp S h

/-! ### and, or, not; tests -/
def eBl (b : Bool) : R := .val (.bool b)
def asB : R → Option Bool
  | .val (.bool b) => some b
  | _ => none
def tBoolD (m : Env → Res R) : Env → Res Bool := fun ρ => bindR (m ρ) fun r ρ1 => optR (asB r) ρ1
def tAndD (a b : Env → Res Bool) : Env → Res Bool := fun ρ => bindR (a ρ) fun c ρ1 => match c with | true => b ρ1 | false => .ok false ρ1
def tOrD (a b : Env → Res Bool) : Env → Res Bool := fun ρ => bindR (a ρ) fun c ρ1 => match c with | true => .ok true ρ1 | false => b ρ1
def tNotD (a : Env → Res Bool) : Env → Res Bool := fun ρ => bindR (a ρ) fun c ρ1 => .ok (!c) ρ1
def eAndD (a b : Env → Res R) : Env → Res R := fun ρ => bindR (a ρ) fun r ρ1 => match r with | .val (.bool true) => b ρ1 | .val (.bool false) => .ok (eBl false) ρ1 | _ => .bad
def eOrD (a b : Env → Res R) : Env → Res R := fun ρ => bindR (a ρ) fun r ρ1 => match r with | .val (.bool true) => .ok (eBl true) ρ1 | .val (.bool false) => b ρ1 | _ => .bad
def eNotD (a : Env → Res R) : Env → Res R := fun ρ => bindR (a ρ) fun r ρ1 => match r with | .val (.bool b) => .ok (eBl (!b)) ρ1 | _ => .bad
def eIfD (t : Env → Res Bool) (a b : Env → Res R) : Env → Res R := fun ρ => bindR (t ρ) fun c ρ1 => match c with | true => a ρ1 | false => b ρ1
theorem stepB {γ : Type} {Ok : Hp → (Nat → List Addr) → γ → Env → Prop} {m : Env → Res Bool} {k : Bool → Env → Res γ} {ρ : Env} (S : SRo X.K C o ρ σ H)
    (sh : ∀ H1 o1 g ρ1, Tx (FF C.B o) H (FF C.B o1) H1 → Ok H o g ρ1 → Ok H1 o1 g ρ1) (h : PoG (Ok H o) (ExP X C W o σ H) (bindR (m ρ) k)) :
    tV X C W RlB m σ H (fun b H1 => ∃ ρ1 o1, SRo X.K C o1 ρ1 σ H1 ∧ Tx (FF C.B o) H (FF C.B o1) H1 ∧ PoG (Ok H1 o1) (ExP X C W o1 σ H1) (k b ρ1)) := by
  obtain ⟨ρ0, o0, S0, h0⟩ := step (Rl := RlB) S sh h
  refine ⟨ρ0, o0, S0, h0.imp (fun d ρ1 z v H1 o1 S1 t1 s1 => ?_) fun _ _ z => z⟩
  obtain ⟨ρ1', o1', d', S1', T1, s1', q1⟩ := z v H1 o1 S1 t1 s1
  have e : v = d' := s1'
  subst e
  exact ⟨ρ1', o1', S1', T1, q1⟩
/-- a value first, its R at hand -/
theorem stepR {γ : Type} {Ok : Hp → (Nat → List Addr) → γ → Env → Prop} {m : Env → Res R} {k : R → Env → Res γ} {ρ : Env} (S : SRo X.K C o ρ σ H)
    (sh : ∀ H1 o1 g ρ1, Tx (FF C.B o) H (FF C.B o1) H1 → Ok H o g ρ1 → Ok H1 o1 g ρ1) (h : PoG (Ok H o) (ExP X C W o σ H) (bindR (m ρ) k)) :
    tE X C W m σ H (fun v H1 => ∃ ρ1 o1 r, SRo X.K C o1 ρ1 σ H1 ∧ Tx (FF C.B o) H (FF C.B o1) H1 ∧ Sh X.K (FF C.B o1) H1 v r.toD ∧ PoG (Ok H1 o1) (ExP X C W o1 σ H1) (k r ρ1)) :=
  ⟨ρ, o, S, (PoG.bind h).imp (fun r ρ1 z => OkE.of_val fun v H1 o1 S1 t s => ⟨ρ1, o1, r, S1, t, s, z.imp (fun g r => sh _ _ g r t) fun _ _ => ExP.shift t⟩) fun _ _ z => z⟩
theorem Sh.ofBool {K : PySem.W.Frag} {F : Addr → Prop} {H : Hp} {v : V} {b : Bool} (h : Sh K F H v (.bool b)) : v = .bl b := by cases h; rfl
theorem Sh.ofInt {K : PySem.W.Frag} {F : Addr → Prop} {H : Hp} {v : V} {b : Int} (h : Sh K F H v (.int b)) : v = .int b := by cases h; rfl
theorem Sh.ofStr {K : PySem.W.Frag} {F : Addr → Prop} {H : Hp} {v : V} {b : Str} (h : Sh K F H v (.str b)) : v = .str b := by cases h; rfl
theorem Sh.ofNone {K : PySem.W.Frag} {F : Addr → Prop} {H : Hp} {v : V} (h : Sh K F H v .none) : v = .non := by cases h; rfl
variable {na nb : Env → Res R} {ta tb tc : Env → Res Bool}
theorem asB_eq {r : R} {b : Bool} (h : asB r = some b) : r = .val (.bool b) := by
  cases r with
  | val d => cases d <;> simp [asB] at h; subst h; rfl
  | fresh c => simp [asB] at h
/-- an expression that is a bool, as a test -/
theorem tB_imp {ρ : Env} {Q : Bool → Hp → Prop} (S : SRo X.K C o ρ σ H) (h : PoG (OkP X C o σ H RlB Q) (ExP X C W o σ H) (tBoolD na ρ)) : tE X C W na σ H fun v H1 => ∃ c, v = .bl c ∧ Q c H1 := by
  obtain ⟨ρ0, o0, S0, h0⟩ := stepR (Ok := fun H o => OkP X C o σ H RlB Q) S (fun _ _ _ _ t z => OkP.shift t z) h
  refine ⟨ρ0, o0, S0, h0.imp (fun r ρ1 z => ?_) fun _ _ z => z⟩
  have z' : OkE X C o0 σ H (fun v H1 => ∃ ρ1 o1 r, SRo X.K C o1 ρ1 σ H1 ∧ Tx (FF C.B o) H (FF C.B o1) H1 ∧ Sh X.K (FF C.B o1) H1 v r.toD ∧ PoG (OkP X C o1 σ H1 RlB Q) (ExP X C W o1 σ H1) (optR (asB r) ρ1)) r ρ1 := z
  have fin : ∀ v H1, (∃ ρ1 o1 r, SRo X.K C o1 ρ1 σ H1 ∧ Tx (FF C.B o) H (FF C.B o1) H1 ∧ Sh X.K (FF C.B o1) H1 v r.toD ∧ PoG (OkP X C o1 σ H1 RlB Q) (ExP X C W o1 σ H1) (optR (asB r) ρ1)) → ∃ c, v = .bl c ∧ Q c H1 := by
    rintro v H1 ⟨ρ1, o1, r, S1, T1, s, q⟩
    cases e : asB r with
    | none => rw [e] at q; exact q.elim
    | some b =>
      rw [e] at q
      have er := asB_eq e
      subst er
      exact ⟨b, s.ofBool, q b H1 o1 S1 (.refl _ _) rfl⟩
  cases r with
  | val d => exact fun v H1 o1 S1 t s => fin v H1 (z' v H1 o1 S1 t s)
  | fresh c => exact fun v H1 o1 as a1 a2 a3 S1 t s => fin v H1 (z' v H1 o1 as a1 a2 a3 S1 t s)
theorem jt_val (h : JE X C W e na) (he : ∀ whole, isTrue e X.env whole = (do let v ← whole; standAt e.pos; holding [v] (truthy v)) := by intro _; rfl) : JT X C W e (tBoolD na) :=
  PT.imp (pt_val h he) fun σ H Q ⟨ρ, o, S, h⟩ => tB_imp S h
theorem jt_cmp {op : CmpOp} (ho : OpR X (compareOp op) (rD2 X.K f)) (ha : JV X C W a ma) (hb : JV X C W b mb) (hm : behindInMarks op b = false) : JT X C W (.Compare a [op] [b] pos) (tBoolD (eOp2 f ma mb)) :=
  PT.imp (pt_cmpR ho ha hb hm) fun σ H Q ⟨ρ, o, S, h⟩ => by
    obtain ⟨ρ0, o0, S0, h0⟩ := tB_imp S h
    exact op2_imp ρ0 S0 h0
theorem jt_not (h : JT X C W a ta) : JT X C W (.UnaryOp .Not a pos) (tNotD ta) := PT.imp (pt_not h) fun σ H Q ⟨ρ, o, S, h⟩ => by
  obtain ⟨ρ0, o0, S0, h0⟩ := stepB (Ok := fun H o => OkP X C o σ H RlB Q) S (fun _ _ _ _ t z => OkP.shift t z) h
  refine ⟨ρ0, o0, S0, h0.imp (fun d ρ1 z v H1 o1 S1 t1 s1 => ?_) fun _ _ z => z⟩
  obtain ⟨ρ1', o1', S1', T1, q1⟩ := z v H1 o1 S1 t1 s1
  exact q1 _ H1 o1' S1' (.refl _ _) rfl
variable {rest : List Expr}
theorem jw_and1 (h : JT X C W a ta) : JW X C W (.BoolOp .And [a] pos) ta := PW.imp (pw_and1 h) fun _ _ _ z => z
theorem jw_or1 (h : JT X C W a ta) : JW X C W (.BoolOp .Or [a] pos) ta := PW.imp (pw_or1 h) fun _ _ _ z => z
theorem jw_and (ha : JT X C W a ta) (hb : JW X C W (.BoolOp .And (b :: rest) pos) tb) : JW X C W (.BoolOp .And (a :: b :: rest) pos) (tAndD ta tb) := PW.imp (pw_and ha hb) fun σ H Q ⟨ρ, o, S, h⟩ => by
  obtain ⟨ρ0, o0, S0, h0⟩ := stepB (Ok := fun H o => OkP X C o σ H RlB Q) S (fun _ _ _ _ t z => OkP.shift t z) h
  refine ⟨ρ0, o0, S0, h0.imp (fun d ρ1 z v H1 o1 S1 t1 s1 => ?_) fun _ _ z => z⟩
  obtain ⟨ρ1', o1', S1', T1, q1⟩ := z v H1 o1 S1 t1 s1
  cases v with
  | true => exact ⟨ρ1', o1', S1', q1⟩
  | false => exact q1 _ H1 o1' S1' (.refl _ _) rfl
theorem jw_or (ha : JT X C W a ta) (hb : JW X C W (.BoolOp .Or (b :: rest) pos) tb) : JW X C W (.BoolOp .Or (a :: b :: rest) pos) (tOrD ta tb) := PW.imp (pw_or ha hb) fun σ H Q ⟨ρ, o, S, h⟩ => by
  obtain ⟨ρ0, o0, S0, h0⟩ := stepB (Ok := fun H o => OkP X C o σ H RlB Q) S (fun _ _ _ _ t z => OkP.shift t z) h
  refine ⟨ρ0, o0, S0, h0.imp (fun d ρ1 z v H1 o1 S1 t1 s1 => ?_) fun _ _ z => z⟩
  obtain ⟨ρ1', o1', S1', T1, q1⟩ := z v H1 o1 S1 t1 s1
  cases v with
  | false => exact ⟨ρ1', o1', S1', q1⟩
  | true => exact q1 _ H1 o1' S1' (.refl _ _) rfl
theorem JW.t (h : JW X C W e ta) : JT X C W e ta := PW.pt h
/-- as values -/
theorem je_one {op} (h : JE X C W a na) : JE X C W (.BoolOp op [a] pos) na := pe_one h
theorem bindOk {Q : VK} {r : R} {ρ : Env} (h : OkE X C o σ H Q r ρ) {P : VK} (i : ∀ v H1, Q v H1 → P v H1) : OkE X C o σ H P r ρ := by
  cases r with
  | val d => exact fun v H1 o1 S1 t s => i v H1 (h v H1 o1 S1 t s)
  | fresh c => exact fun v H1 o1 as a1 a2 a3 S1 t s => i v H1 (h v H1 o1 as a1 a2 a3 S1 t s)
theorem je_and (ha : JE X C W a na) (hb : JE X C W (.BoolOp .And (b :: rest) pos) nb) : JE X C W (.BoolOp .And (a :: b :: rest) pos) (eAndD na nb) := PE.imp (pe_and ha hb) fun σ H Q ⟨ρ, o, S, h⟩ => by
  obtain ⟨ρ0, o0, S0, h0⟩ := stepR (Ok := fun H o => OkE X C o σ H Q) S (fun _ _ _ _ t z => OkE.shift t z) h
  refine ⟨ρ0, o0, S0, h0.imp (fun r ρ1 z => bindOk z fun v H1 ⟨ρ1, o1, r, S1, T1, s, q⟩ => ?_) fun _ _ z => z⟩
  cases r with
  | fresh c => exact q.elim
  | val d =>
    cases d with
    | bool b =>
      refine ⟨b, s.ofBool, ?_⟩
      cases b with
      | true => exact ⟨ρ1, o1, S1, q⟩
      | false => exact q _ H1 o1 S1 (.refl _ _) (.bl false)
    | _ => exact q.elim
theorem je_or (ha : JE X C W a na) (hb : JE X C W (.BoolOp .Or (b :: rest) pos) nb) : JE X C W (.BoolOp .Or (a :: b :: rest) pos) (eOrD na nb) := PE.imp (pe_or ha hb) fun σ H Q ⟨ρ, o, S, h⟩ => by
  obtain ⟨ρ0, o0, S0, h0⟩ := stepR (Ok := fun H o => OkE X C o σ H Q) S (fun _ _ _ _ t z => OkE.shift t z) h
  refine ⟨ρ0, o0, S0, h0.imp (fun r ρ1 z => bindOk z fun v H1 ⟨ρ1, o1, r, S1, T1, s, q⟩ => ?_) fun _ _ z => z⟩
  cases r with
  | fresh c => exact q.elim
  | val d =>
    cases d with
    | bool b =>
      refine ⟨b, s.ofBool, ?_⟩
      cases b with
      | false => exact ⟨ρ1, o1, S1, q⟩
      | true => exact q _ H1 o1 S1 (.refl _ _) (.bl true)
    | _ => exact q.elim
theorem je_not (ha : JE X C W a na) : JE X C W (.UnaryOp .Not a pos) (eNotD na) := PE.imp (pe_not ha) fun σ H Q ⟨ρ, o, S, h⟩ => by
  obtain ⟨ρ0, o0, S0, h0⟩ := stepR (Ok := fun H o => OkE X C o σ H Q) S (fun _ _ _ _ t z => OkE.shift t z) h
  refine ⟨ρ0, o0, S0, h0.imp (fun r ρ1 z => bindOk z fun v H1 ⟨ρ1, o1, r, S1, T1, s, q⟩ => ?_) fun _ _ z => z⟩
  cases r with
  | fresh c => exact q.elim
  | val d =>
    cases d with
    | bool b => exact ⟨b, s.ofBool, q _ H1 o1 S1 (.refl _ _) (.bl _)⟩
    | _ => exact q.elim
theorem je_if {c : Expr} (hc : JT X C W c tc) (ha : JE X C W a na) (hb : JE X C W b nb) : JE X C W (.IfExp c a b pos) (eIfD tc na nb) := PE.imp (pe_ifExp hc ha hb) fun σ H Q ⟨ρ, o, S, h⟩ => by
  obtain ⟨ρ0, o0, S0, h0⟩ := stepB (Ok := fun H o => OkE X C o σ H Q) S (fun _ _ _ _ t z => OkE.shift t z) h
  refine ⟨ρ0, o0, S0, h0.imp (fun d ρ1 z v H1 o1 S1 t1 s1 => ?_) fun _ _ z => z⟩
  obtain ⟨ρ1', o1', S1', T1, q1⟩ := z v H1 o1 S1 t1 s1
  cases v with
  | true => exact ⟨ρ1', o1', S1', q1⟩
  | false => exact ⟨ρ1', o1', S1', q1⟩
/-- a comparison of three -/
def eChain (f g : D → D → Option R) (a b c : Env → Res D) : Env → Res R := fun ρ => bindR (a ρ) fun x ρ1 => bindR (b ρ1) fun y ρ2 => bindR (optR (f x y) ρ2) fun r ρ3 => match asB r with
  | some true => bindR (c ρ3) fun z ρ4 => optR (g y z) ρ4
  | some false => .ok (eBl false) ρ3
  | none => .bad
end
end Dn
set_option Elab.async false
set_option linter.all false
set_option maxRecDepth 100000
set_option maxHeartbeats 1000000
/-! Dn3: statements, loops, comprehensions -/
namespace Dn
open PySem L2

inductive SR where
  | nx (ρ : Env)
  | ret (r : R) (ρ : Env)
  | brk (ρ : Env)
  | cnt (ρ : Env)
  | exc (c : Str) (ρ : Env)
  | bad
def bindS (r : SR) (k : Env → SR) : SR := match r with
  | .nx ρ => k ρ
  | r => r
def bindRS {α : Type} (r : Res α) (k : α → Env → SR) : SR := match r with
  | .ok a ρ => k a ρ
  | .exc c ρ => .exc c ρ
  | .bad => .bad
@[simp] theorem bindS_nx {ρ : Env} {k : Env → SR} : bindS (.nx ρ) k = k ρ := id rfl
@[simp] theorem bindS_ret {r : R} {ρ : Env} {k : Env → SR} : bindS (.ret r ρ) k = .ret r ρ := id rfl
@[simp] theorem bindS_brk {ρ : Env} {k : Env → SR} : bindS (.brk ρ) k = .brk ρ := id rfl
@[simp] theorem bindS_cnt {ρ : Env} {k : Env → SR} : bindS (.cnt ρ) k = .cnt ρ := id rfl
@[simp] theorem bindS_exc {c : Str} {ρ : Env} {k : Env → SR} : bindS (.exc c ρ) k = .exc c ρ := id rfl
@[simp] theorem bindS_bad {k : Env → SR} : bindS .bad k = .bad := id rfl
@[simp] theorem bindRS_ok {α : Type} {a : α} {ρ : Env} {k : α → Env → SR} : bindRS (.ok a ρ) k = k a ρ := id rfl
@[simp] theorem bindRS_exc {α : Type} {c : Str} {ρ : Env} {k : α → Env → SR} : bindRS (.exc c ρ) k = .exc c ρ := id rfl
@[simp] theorem bindRS_bad {α : Type} {k : α → Env → SR} : bindRS (.bad : Res α) k = .bad := id rfl

section
variable (X : Cx) (C : Ctx) (W : WX) (o : Nat → List Addr) (H : Hp)
def NxP (Q : St → Hp → Prop) (ρ : Env) : Prop := ∀ σ' H' o', SRo X.K C o' ρ σ' H' → Tx (FF C.B o) H (FF C.B o') H' → Q σ' H'
def RtP (Q : VK) (r : R) (ρ : Env) : Prop := ∀ σ', OkE X C o σ' H Q r ρ
def PoS (D : Ends) : SR → Prop
  | .nx ρ => NxP X C o H D.nx ρ
  | .ret r ρ => RtP X C o H D.rt r ρ
  | .brk ρ => NxP X C o H D.bk ρ
  | .cnt ρ => NxP X C o H D.ct ρ
  | .exc c ρ => ∀ σ', ExP X C W o σ' H c ρ
  | .bad => False
def tS (s : Env → SR) : TS := fun D σ H => ∃ ρ o, SRo X.K C o ρ σ H ∧ PoS X C W o H D (s ρ)
end
def JS (X : Cx) (C : Ctx) (W : WX) (st : Stmt) (s : Env → SR) : Prop := PS X st (tS X C W s)
def JSs (X : Cx) (C : Ctx) (W : WX) (st : List Stmt) (s : Env → SR) : Prop := PSs X st (tS X C W s)
theorem PS.imp {X : Cx} {st : Stmt} {t t' : TS} (h : PS X st t) (i : ∀ D σ H, t' D σ H → t D σ H) : PS X st t' := ⟨fun pins s σ H D I q => h.run pins s σ H D I (i D σ H q)⟩
theorem PSs.imp {X : Cx} {st : List Stmt} {t t' : TS} (h : PSs X st t) (i : ∀ D σ H, t' D σ H → t D σ H) : PSs X st t' := ⟨fun pins s σ H D I q => h.run pins s σ H D I (i D σ H q)⟩

section
variable {X : Cx} {C : Ctx} {W : WX} {o o1 : Nat → List Addr} {σ : St} {H H1 : Hp}
theorem PoS.shift {D : Ends} (t : Tx (FF C.B o) H (FF C.B o1) H1) {r : SR} (h : PoS X C W o H D r) : PoS X C W o1 H1 D r := by
  cases r with
  | nx ρ => exact fun σ' H' o' S t' => h σ' H' o' S (t.trans t')
  | ret r ρ => exact fun σ' => OkE.shift t (h σ')
  | brk ρ => exact fun σ' H' o' S t' => h σ' H' o' S (t.trans t')
  | cnt ρ => exact fun σ' H' o' S t' => h σ' H' o' S (t.trans t')
  | exc c ρ => exact fun σ' => ExP.shift t (h σ')
  | bad => exact h
theorem PoS.imp {D D' : Ends} {r : SR} (h : PoS X C W o H D r) (i1 : ∀ σ H, D.nx σ H → D'.nx σ H) (i2 : ∀ v H, D.rt v H → D'.rt v H) (i3 : ∀ σ H, D.bk σ H → D'.bk σ H) (i4 : ∀ σ H, D.ct σ H → D'.ct σ H) : PoS X C W o H D' r := by
  cases r with
  | nx ρ => exact fun σ' H' o' S t' => i1 _ _ (h σ' H' o' S t')
  | ret r ρ => exact fun σ' => bindOk (h σ') i2
  | brk ρ => exact fun σ' H' o' S t' => i3 _ _ (h σ' H' o' S t')
  | cnt ρ => exact fun σ' H' o' S t' => i4 _ _ (h σ' H' o' S t')
  | exc c ρ => exact h
  | bad => exact h
/-- the way to the next statement exchanged -/
theorem PoS.bind {D : Ends} {r : SR} {k : Env → SR} (h : PoS X C W o H D (bindS r k)) : PoS X C W o H { D with nx := tS X C W k D } r := by
  cases r with
  | nx ρ => exact fun σ' H' o' S t' => ⟨ρ, o', S, PoS.shift t' h⟩
  | ret r ρ => exact h
  | brk ρ => exact h
  | cnt ρ => exact h
  | exc c ρ => exact h
  | bad => exact h
/-- a value first -/
theorem stepS {α β : Type} {Rl : (Addr → Prop) → Hp → β → α → Prop} {D : Ends} {m : Env → Res α} {k : α → Env → SR} {ρ : Env} (S : SRo X.K C o ρ σ H) (h : PoS X C W o H D (bindRS (m ρ) k)) :
    tV X C W Rl m σ H (fun v H1 => ∃ ρ1 o1 d, SRo X.K C o1 ρ1 σ H1 ∧ Tx (FF C.B o) H (FF C.B o1) H1 ∧ Rl (FF C.B o1) H1 v d ∧ PoS X C W o1 H1 D (k d ρ1)) := by
  refine ⟨ρ, o, S, ?_⟩
  cases e : m ρ with
  | ok a ρ1 =>
    rw [e] at h
    exact fun v H1 o1 S1 t r => ⟨ρ1, o1, a, S1, t, r, PoS.shift t h⟩
  | exc c ρ1 =>
    rw [e] at h
    exact fun H' o' S' t => h σ H' o' S' t
  | bad =>
    rw [e] at h
    exact h
theorem stepSE {D : Ends} {m : Env → Res R} {k : R → Env → SR} {ρ : Env} {Q : VK} (S : SRo X.K C o ρ σ H) (h : PoS X C W o H D (bindRS (m ρ) k)) (q : ∀ r ρ1, PoS X C W o H D (k r ρ1) → OkE X C o σ H Q r ρ1) : tE X C W m σ H Q := by
  refine ⟨ρ, o, S, ?_⟩
  cases e : m ρ with
  | ok a ρ1 =>
    rw [e] at h
    exact q _ _ h
  | exc c ρ1 =>
    rw [e] at h
    exact fun H' o' S' t => h σ H' o' S' t
  | bad =>
    rw [e] at h
    exact h

def sNil : Env → SR := fun ρ => .nx ρ
def sSeq (s t : Env → SR) : Env → SR := fun ρ => bindS (s ρ) t
def sIf (t : Env → Res Bool) (a b : Env → SR) : Env → SR := fun ρ => bindRS (t ρ) fun c ρ1 => match c with | true => a ρ1 | false => b ρ1
def sRet (m : Env → Res R) : Env → SR := fun ρ => bindRS (m ρ) fun r ρ1 => .ret r ρ1
def sRetN : Env → SR := fun ρ => .ret (.val .none) ρ
def sDrop (m : Env → Res R) : Env → SR := fun ρ => bindRS (m ρ) fun _ ρ1 => .nx ρ1
def R.sl : R → Sl
  | .val d => .val d
  | .fresh c => .own c
def putR (i : Nat) (r : R) (ρ : Env) : SR := match gS ρ i with
  | .bor _ => .bad
  | _ => .nx (sS ρ i r.sl)
def sAsg (i : Nat) (m : Env → Res R) : Env → SR := fun ρ => bindRS (m ρ) fun r ρ1 => putR i r ρ1
variable {st : Stmt} {sts : List Stmt} {s t : Env → SR} {e : Expr} {m : Env → Res R} {pos : Pos}
theorem js_nil : JSs X C W [] sNil := PSs.imp pss_nil fun D σ H ⟨ρ, o, S, h⟩ => h σ H o S (.refl _ _)
theorem js_cons (h1 : JS X C W st s) (h2 : JSs X C W sts t) : JSs X C W (st :: sts) (sSeq s t) := PSs.imp (pss_cons h1 h2) fun D σ H ⟨ρ, o, S, h⟩ => ⟨ρ, o, S, PoS.bind h⟩
theorem js_one (h1 : JS X C W st s) : JSs X C W [st] s := PSs.imp (pss_one h1) fun D σ H z => z
theorem js_pass : JS X C W (.Pass pos) sNil := PS.imp ps_pass fun D σ H ⟨ρ, o, S, h⟩ => h σ H o S (.refl _ _)
theorem js_break : JS X C W (.Break pos) (fun ρ => .brk ρ) := PS.imp ps_break fun D σ H ⟨ρ, o, S, h⟩ => h σ H o S (.refl _ _)
theorem js_continue : JS X C W (.Continue pos) (fun ρ => .cnt ρ) := PS.imp ps_continue fun D σ H ⟨ρ, o, S, h⟩ => h σ H o S (.refl _ _)
theorem js_if {c : Expr} {a b : List Stmt} {tc : Env → Res Bool} (hc : JT X C W c tc) (ha : JSs X C W a s) (hb : JSs X C W b t) : JS X C W (.If c a b pos) (sIf tc s t) := PS.imp (ps_if hc ha hb) fun D σ H ⟨ρ, o, S, h⟩ => by
  obtain ⟨ρ0, o0, S0, h0⟩ := stepS (Rl := RlB) S h
  refine ⟨ρ0, o0, S0, h0.imp (fun d ρ1 z v H1 o1 S1 t1 s1 => ?_) fun _ _ z => z⟩
  obtain ⟨ρ1', o1', d', S1', T1, s1', q1⟩ := z v H1 o1 S1 t1 s1
  have e : v = d' := s1'
  subst e
  cases v with
  | true => exact ⟨ρ1', o1', S1', q1⟩
  | false => exact ⟨ρ1', o1', S1', q1⟩
theorem js_ret (h : JE X C W e m) : JS X C W (.Return (some e) pos) (sRet m) := PS.imp (ps_ret h) fun D σ H ⟨ρ, o, S, h⟩ => stepSE S h fun r ρ1 z => z σ
theorem js_retN : JS X C W (.Return none pos) sRetN := PS.imp ps_retN fun D σ H ⟨ρ, o, S, h⟩ => h σ _ H o S (.refl _ _) .non
theorem js_expr (h : JE X C W e m) (hs : swapsWith e none pos.line X.env = pure false := by rfl) : JS X C W (.Expr e pos) (sDrop m) := PS.imp (ps_expr h hs) fun D σ H ⟨ρ, o, S, h⟩ =>
  stepSE S h fun r ρ1 z => OkE.of_val fun v H1 o1 S1 t s => z σ H1 o1 S1 t
theorem js_doc {x j pos'} : JS X C W (.Expr (.Constant (.str x) j pos) pos') sNil := PS.imp ps_doc fun D σ H ⟨ρ, o, S, h⟩ => h σ H o S (.refl _ _)
/-- a name is given what stands at r -/
theorem OkE.put {D : St → Hp → Prop} {i : Nat} {r : R} {ρ : Env} (h : NxP X C o H D (sS ρ i r.sl)) : OkE X C o σ H (fun v H1 => D (σ.set i (some v)) H1) r ρ := by
  cases r with
  | val d => exact fun v H1 o1 S1 t s => h _ H1 _ (S1.setV s) (t.trans (.less FF.drop))
  | fresh c =>
    intro v H1 o1 as nd h0 nB S1 t cr
    by_cases hi : i < ρ.length
    · refine h _ H1 _ (S1.setO hi nd nB h0 cr) (t.trans (.less fun a z => ?_))
      rcases z with z | ⟨j, q⟩
      · exact .inl (.inl z)
      · by_cases e : j = i
        · subst e; rw [oset_same] at q; exact .inl (.inr q)
        · rw [oset_ne e] at q; exact .inr ⟨j, q⟩
    · have e1 : sS ρ i (R.fresh c).sl = ρ := by
        have : ∀ (ρ : Env) (i : Nat) (s : Sl), ρ.length ≤ i → sS ρ i s = ρ := by
          intro ρ
          induction ρ with
          | nil => intro i s _; rfl
          | cons a r ih =>
            intro i s hl
            cases i with
            | zero => simp at hl
            | succ i => show a :: sS r i s = a :: r; rw [ih i s (by simpa using hl)]
        exact this ρ i _ (by omega)
      have e2 : σ.set i (some v) = σ := List.set_eq_of_length_le (by rw [← S1.len]; omega)
      rw [e1] at h
      rw [e2]
      exact h _ H1 _ S1.less t.dropB
theorem putR_ok {D : Ends} {i : Nat} {r : R} {ρ : Env} (h : PoS X C W o H D (putR i r ρ)) : NxP X C o H D.nx (sS ρ i r.sl) := by
  unfold putR at h
  split at h
  · exact h.elim
  · exact h
theorem js_set {i : Nat} {x : Str} {pos' : Pos} (hN : X.N.Nodup) (hi : X.N[i]? = some x) (hx : Loc X.env.scope x) (he : JE X C W e m) (hs : swapsWith e (some (.Name x pos')) pos.line X.env = pure false := by rfl) (hf : X.fn x = true ∨ X.env.scope.names.lookup x = some .local := by first | exact .inl rfl | exact .inr rfl | assumption) :
    JS X C W (.Assign [.Name x pos'] e pos) (sAsg i m) := PS.imp (ps_set hN hi hx he hs hf) fun D σ H ⟨ρ, o, S, h⟩ => stepSE S h fun r ρ1 z => OkE.put (putR_ok z)

/-! ### targets -/
/-- only these slots differ -/
def Dif (ts : List Nat) (σ σ' : St) : Prop := σ'.length = σ.length ∧ ∀ j, j ∉ ts → σ'[j]? = σ[j]?
def NxG (X : Cx) (C : Ctx) (o : Nat → List Addr) (σ : St) (H : Hp) (ts : List Nat) (Q : St → Hp → Prop) (ρ : Env) : Prop := ∀ σ' H' o', Dif ts σ σ' → SRo X.K C o' ρ σ' H' → Tx (FF C.B o) H (FF C.B o') H' → Q σ' H'
def tG (X : Cx) (C : Ctx) (W : WX) (ts : List Nat) (g : D → Env → Option Env) : TG := fun v σ H Q => ∃ ρ o d ρ', SRo X.K C o ρ σ H ∧ Sh X.K (FF C.B o) H v d ∧ g d ρ = some ρ' ∧ NxG X C o σ H ts Q ρ'
def tGs (X : Cx) (C : Ctx) (W : WX) (ts : List Nat) (g : List D → Env → Option Env) : TGs := fun v σ H Q => ∃ ρ o d ρ', SRo X.K C o ρ σ H ∧ ShA X.K (FF C.B o) H v d ∧ g d ρ = some ρ' ∧ NxG X C o σ H ts Q ρ'
def JG (X : Cx) (C : Ctx) (W : WX) (t : Expr) (ts : List Nat) (g : D → Env → Option Env) : Prop := PG X t (tG X C W ts g)
def JGs (X : Cx) (C : Ctx) (W : WX) (t : List Expr) (ts : List Nat) (g : List D → Env → Option Env) : Prop := PGs X t (tGs X C W ts g)
theorem PG.imp {X : Cx} {e : Expr} {t t' : TG} (h : PG X e t) (i : ∀ v σ H Q, t' v σ H Q → t v σ H Q) : PG X e t' := ⟨fun pins s σ H v u Q I r q => h.run pins s σ H v u Q I r (i v σ H Q q)⟩
theorem PGs.imp {X : Cx} {e : List Expr} {t t' : TGs} (h : PGs X e t) (i : ∀ v σ H Q, t' v σ H Q → t v σ H Q) : PGs X e t' := ⟨fun pins s σ H v u Q I r q => h.run pins s σ H v u Q I r (i v σ H Q q)⟩
def gNm (i : Nat) : D → Env → Option Env := fun d ρ => match gS ρ i with
  | .bor _ => none
  | _ => some (sS ρ i (.val d))
def gsNil : List D → Env → Option Env := fun ds ρ => match ds with
  | [] => some ρ
  | _ :: _ => none
def gsCons (g : D → Env → Option Env) (h : List D → Env → Option Env) : List D → Env → Option Env := fun ds ρ => match ds with
  | [] => none
  | d :: ds => match g d ρ with
    | some ρ1 => h ds ρ1
    | none => none
def gTp (n : Nat) (g : List D → Env → Option Env) : D → Env → Option Env := fun d ρ => match d with
  | .tuple ds => if ds.length = n then g ds ρ else none
  | _ => none
theorem Dif.refl (ts : List Nat) (σ : St) : Dif ts σ σ := ⟨rfl, fun _ _ => rfl⟩
theorem Dif.trans {a b : List Nat} {σ σ1 σ2 : St} (h1 : Dif a σ σ1) (h2 : Dif b σ1 σ2) : Dif (a ++ b) σ σ2 := ⟨h2.1.trans h1.1, fun j hj => (h2.2 j fun z => hj (List.mem_append_right _ z)).trans (h1.2 j fun z => hj (List.mem_append_left _ z))⟩
theorem jg_name {i : Nat} {x : Str} (hN : X.N.Nodup) (hi : X.N[i]? = some x) (hx : Loc X.env.scope x) (hf : X.fn x = true ∨ X.env.scope.names.lookup x = some .local := by first | exact .inl rfl | exact .inr rfl | assumption) : JG X C W (.Name x pos) [i] (gNm i) :=
  PG.imp (pg_name hN hi hx hf) fun v σ H Q ⟨ρ, o, d, ρ', S, s, e, q⟩ => by
    unfold gNm at e
    split at e
    · cases e
    · cases e
      exact q _ H _ ⟨by simp, fun j hj => by rw [List.getElem?_set_ne (fun z => hj (by simp [z]))]⟩ (S.setV s) (.less FF.drop)
theorem jgs_nil : JGs X C W [] [] gsNil := PGs.imp pgs_nil fun v σ H Q ⟨ρ, o, d, ρ', S, s, e, q⟩ => by
  cases s with
  | nil => cases e; exact ⟨rfl, q σ H o (.refl _ _) S (.refl _ _)⟩
  | cons _ _ => cases e
theorem jgs_cons {es : List Expr} {ts us : List Nat} {g : D → Env → Option Env} {h : List D → Env → Option Env} (h1 : JG X C W e ts g) (h2 : JGs X C W es us h) (hk : (assignEach (e :: es) X.env).map (·.2) = assign e X.env :: (assignEach es X.env).map (·.2) := by rfl) : JGs X C W (e :: es) (ts ++ us) (gsCons g h) :=
  PGs.imp (pgs_cons h1 h2 hk) fun v σ H Q ⟨ρ, o, d, ρ', S, s, e, q⟩ => by
    cases s with
    | nil => cases e
    | @cons v0 d0 vs ds h0 s0 =>
      unfold gsCons at e
      dsimp only at e
      cases e1 : g d0 ρ with
      | none => rw [e1] at e; cases e
      | some ρ1 =>
        rw [e1] at e
        exact ⟨_, _, rfl, ρ, o, d0, ρ1, S, h0, e1, fun σ1 H1 o1 f1 S1 t1 => ⟨ρ1, o1, ds, ρ', S1, s0.tx t1, e, fun σ2 H2 o2 f2 S2 t2 => q σ2 H2 o2 (f1.trans f2) S2 (t1.trans t2)⟩⟩
theorem jg_tup {es : List Expr} {k n : Nat} {ts : List Nat} {g : List D → Env → Option Env} (hc : X.calm = true) (h : JGs X C W es ts g) (hn : (assignEach es X.env).length = n := by rfl) (hst : (assignEach es X.env).findIdx? (·.1) = none := by rfl) : JG X C W (.Tuple es k pos) ts (gTp n g) :=
  PG.imp (pg_tup hc h hn hst) fun v σ H Q ⟨ρ, o, d, ρ', S, s, e, q⟩ => by
    unfold gTp at e
    cases d with
    | tuple ds =>
      dsimp only at e
      split at e
      · rename_i hl
        cases s with
        | tup h0 s0 => exact ⟨_, _, rfl, h0.elim (fun z => .inl z.2) .inr, by rw [s0.length]; exact hl, ρ, o, ds, ρ', S, s0, e, q⟩
      · cases e
    | _ => cases e
def sAsgG (g : D → Env → Option Env) (m : Env → Res D) : Env → SR := fun ρ => bindRS (m ρ) fun d ρ1 => match g d ρ1 with
  | some ρ2 => .nx ρ2
  | none => .bad
theorem js_asg {tg : Expr} {ts : List Nat} {g : D → Env → Option Env} {m : Env → Res D} (he : JV X C W e m) (hg : JG X C W tg ts g) (hs : swapsWithSole [tg] e pos.line X.env = pure false := by rfl) (hw : swappedStores [tg] e X.env = pure none := by rfl) (h1 : (assignEach [tg] X.env).map (·.2) = [assign tg X.env] := by rfl) : JS X C W (.Assign [tg] e pos) (sAsgG g m) :=
  PS.imp (ps_asg he hg hs hw h1) fun D σ H ⟨ρ, o, S, h⟩ => by
    obtain ⟨ρ0, o0, S0, h0⟩ := stepS (Rl := Sh X.K) S h
    refine ⟨ρ0, o0, S0, h0.imp (fun d ρ1 z v H1 o1 S1 t1 s1 => ?_) fun _ _ z => z⟩
    obtain ⟨ρ1', o1', d', S1', T1, s1', q1⟩ := z v H1 o1 S1 t1 s1
    cases e1 : g d' ρ1' with
    | none => simp only [e1] at q1; exact q1.elim
    | some ρ2 =>
      simp only [e1] at q1
      exact ⟨ρ1', o1', d', ρ2, S1', s1', e1, fun σ' H' o' _ => q1 σ' H' o'⟩
/-- a, b = e1, e2 -/
def sPar (i j : Nat) (m : Env → Res (List D)) : Env → SR := fun ρ => bindRS (m ρ) fun ds ρ1 => match ds with
  | [x, y] => bindS (putR i (.val x) ρ1) (putR j (.val y))
  | _ => .bad
theorem js_par {i j : Nat} {x y : Str} {a b : Expr} {m : Env → Res (List D)} {px py pt : Pos} {kt k2 pt2} (hc : X.calm = true) (hN : X.N.Nodup) (hi : X.N[i]? = some x) (hj : X.N[j]? = some y) (hij : i ≠ j)
    (hp : PS X (.Assign [.Tuple [.Name x px, .Name y py] kt pt] (.Tuple [a, b] k2 pt2) pos) (tPar i j (tV X C W (ShA X.K) m))) : JS X C W (.Assign [.Tuple [.Name x px, .Name y py] kt pt] (.Tuple [a, b] k2 pt2) pos) (sPar i j m) :=
  PS.imp hp fun D σ H ⟨ρ, o, S, h⟩ => by
    obtain ⟨ρ0, o0, S0, h0⟩ := stepS (Rl := ShA X.K) S h
    refine ⟨ρ0, o0, S0, h0.imp (fun d ρ1 z v H1 o1 S1 t1 s1 => ?_) fun _ _ z => z⟩
    obtain ⟨ρ1', o1', d', S1', T1, s1', q1⟩ := z v H1 o1 S1 t1 s1
    cases s1' with
    | nil => exact q1.elim
    | cons ha s2 =>
      cases s2 with
      | nil => exact q1.elim
      | cons hb s3 =>
        cases s3 with
        | cons _ _ => exact q1.elim
        | nil =>
          have q2 := putR_ok (PoS.bind q1)
          have S2 := S1'.setV (i := i) ha
          have t2 : Tx (FF C.B o1') H1 (FF C.B (oset o1' i [])) H1 := .less FF.drop
          obtain ⟨ρ3, o3, S3, q3⟩ : tS X C W (putR j (.val _)) D _ H1 := q2 _ H1 _ S2 t2
          have q4 := putR_ok (PoS.shift (o1 := oset o1' i []) (H1 := H1) (.refl _ _) (PoS.bind (r := .nx (sS ρ1' i (R.val _).sl)) (k := putR j (.val _)) (D := D) (by
            have : PoS X C W (oset o1' i []) H1 D (bindS (putR i (.val _) ρ1') (putR j (.val _))) := PoS.shift t2 q1
            unfold putR at this
            split at this
            · exact this.elim
            · exact this) |> fun (z : NxP X C (oset o1' i []) H1 (tS X C W (putR j (.val _)) D) _) => (by
              have : PoS X C W (oset o1' i []) H1 D (bindS (putR i (.val _) ρ1') (putR j (.val _))) := PoS.shift t2 q1
              unfold putR at this
              split at this
              · exact this.elim
              · exact this)))
          exact ⟨_, _, rfl, q4 _ H1 _ (S2.setV (hb.tx t2)) (.less FF.drop)⟩

/-! ### loops -/
/-- an iterator gives these data, wherever what is not the frame's own has stayed -/
def ItOk (K : PySem.W.Frag) (F0 : Addr → Prop) (H0 : Hp) (J : It) (ds : List D) : Prop := ∀ F H, Tx F0 H0 F H → (∀ a, F a → H a ≠ none) → J.stop ds.length H ∧
  ∀ i d, ds[i]? = some d → J.go i H ∧ ∀ x H', J.yld i H x H' → Same H H' ∧ Sh K F H' x d
def tI (X : Cx) (C : Ctx) (W : WX) (m : Env → Res (List D)) : TI := fun σ H Q => ∃ ρ o, SRo X.K C o ρ σ H ∧
  PoG (fun ds ρ' => ∀ J H' o', SRo X.K C o' ρ' σ H' → Tx (FF C.B o) H (FF C.B o') H' → ItOk X.K (FF C.B o') H' J ds → Q J H') (ExP X C W o σ H) (m ρ)
def JI (X : Cx) (C : Ctx) (W : WX) (tg iter : Expr) (m : Env → Res (List D)) : Prop := PI X tg iter (tI X C W m)
theorem PI.imp {X : Cx} {tg e : Expr} {t t' : TI} (h : PI X tg e t) (i : ∀ σ H Q, t' σ H Q → t σ H Q) : PI X tg e t' := ⟨fun pins s σ H Q I q => h.run pins s σ H Q I (i σ H Q q)⟩
theorem PI.or {X : Cx} {tg e : Expr} {t t' : TI} (h : PI X tg e t) (h' : PI X tg e t') : PI X tg e (fun σ H Q => t σ H Q ∨ t' σ H Q) := ⟨fun pins s σ H Q I q => q.elim (h.run pins s σ H Q I) (h'.run pins s σ H Q I)⟩
def forL (g : D → Env → Option Env) (b : Env → SR) : List D → Env → SR
  | [], ρ => .nx ρ
  | d :: ds, ρ => match g d ρ with
    | none => .bad
    | some ρ1 => match b ρ1 with
      | .nx ρ2 => forL g b ds ρ2
      | .cnt ρ2 => forL g b ds ρ2
      | .brk ρ2 => .nx ρ2
      | .ret r ρ2 => .ret r ρ2
      | .exc c ρ2 => .exc c ρ2
      | .bad => .bad
def sFor (g : D → Env → Option Env) (m : Env → Res (List D)) (b : Env → SR) : Env → SR := fun ρ => bindRS (m ρ) fun ds ρ1 => forL g b ds ρ1
theorem js_for {iter tg : Expr} {ts : List Nat} {body : List Stmt} {g : D → Env → Option Env} {mi : Env → Res (List D)} (hp : PassesOwn (model X.prog X.w) X.A X.env X.xe) (hc : X.calm = true) (hi : JI X C W tg iter mi) (hg : JG X C W tg ts g) (hb : JSs X C W body s)
    (hs : ∀ x, foldedSetIterable iter X.env x = pure x := by intro _; rfl) : JS X C W (.For tg iter body [] pos) (sFor g mi s) := PS.imp (ps_for hp hc hi hg hb hs) fun D σ H ⟨ρ, o, S, h⟩ => by
  refine ⟨ρ, o, S, ?_⟩
  have h : PoS X C W o H D (bindRS (mi ρ) fun ds ρ1 => forL g s ds ρ1) := h
  cases e : mi ρ with
  | bad => rw [e] at h; exact h
  | exc c ρ1 => rw [e] at h; exact fun H' o' S' t => h σ H' o' S' t
  | ok ds ρ1 =>
    rw [e] at h
    intro J H1 o1 S1 t1 it
    refine ⟨fun i n σ2 H2 => ∃ ρ2 o2, SRo X.K C o2 ρ2 σ2 H2 ∧ Tx (FF C.B o1) H1 (FF C.B o2) H2 ∧ i + n = ds.length ∧ PoS X C W o2 H2 D (forL g s (ds.drop i) ρ2), ⟨ds.length, ρ1, o1, S1, .refl _ _, by omega, PoS.shift t1 h⟩, ?_⟩
    rintro i n σ2 H2 ⟨ρ2, o2, S2, t2, en, h2⟩
    obtain ⟨stop, turn⟩ := it (FF C.B o2) H2 t2 S2.tr
    by_cases hlt : i < ds.length
    · refine .inr ?_
      have ei : ds[i]? = some ds[i] := List.getElem?_eq_getElem hlt
      obtain ⟨go, yl⟩ := turn i ds[i] ei
      rw [List.drop_eq_getElem_cons hlt] at h2
      unfold forL at h2
      refine ⟨go, fun σ3 H3 => ∃ ρ3 o3, SRo X.K C o3 ρ3 σ3 H3 ∧ Tx (FF C.B o1) H1 (FF C.B o3) H3 ∧ PoS X C W o3 H3 D (forL g s (ds.drop (i + 1)) ρ3), fun σ3 H3 ⟨ρ3, o3, S3, t3, h3⟩ => ⟨n - 1, by omega, ρ3, o3, S3, t3, by omega, h3⟩, fun x H3 hy => ?_⟩
      obtain ⟨sm, sx⟩ := yl x H3 hy
      cases e1 : g ds[i] ρ2 with
      | none => rw [e1] at h2; exact h2.elim
      | some ρ4 =>
        rw [e1] at h2
        dsimp only at h2
        refine ⟨ρ2, o2, ds[i], ρ4, S2.keep sm, sx, e1, fun σ5 H5 o5 _ S5 t5 => ⟨ρ4, o5, S5, ?_⟩⟩
        have t6 : Tx (FF C.B o2) H2 (FF C.B o5) H5 := (Tx.same sm).trans t5
        have again : ∀ {ρ7 : Env}, PoS X C W o2 H2 D (forL g s (ds.drop (i + 1)) ρ7) → NxP X C o5 H5 (fun σ3 H3 => ∃ ρ3 o3, SRo X.K C o3 ρ3 σ3 H3 ∧ Tx (FF C.B o1) H1 (FF C.B o3) H3 ∧ PoS X C W o3 H3 D (forL g s (ds.drop (i + 1)) ρ3)) ρ7 :=
          fun {ρ7} q σ7 H7 o7 S7 t7 => ⟨ρ7, o7, S7, t2.trans (t6.trans t7), PoS.shift (t6.trans t7) q⟩
        cases e2 : s ρ4 with
        | nx ρ7 => rw [e2] at h2; exact again h2
        | cnt ρ7 => rw [e2] at h2; exact again h2
        | brk ρ7 => rw [e2] at h2; exact fun σ7 H7 o7 S7 t7 => h2 σ7 H7 o7 S7 (t6.trans t7)
        | ret r ρ7 => rw [e2] at h2; exact fun σ7 => OkE.shift t6 (h2 σ7)
        | exc c ρ7 => rw [e2] at h2; exact fun σ7 => ExP.shift t6 (h2 σ7)
        | bad => rw [e2] at h2; exact h2
    · have e0 : i = ds.length := by omega
      subst e0
      rw [List.drop_length] at h2
      exact .inl ⟨stop, h2 σ2 H2 o2 S2 (.refl _ _)⟩
/-- while -/
def whileL (t : Env → Res Bool) (b : Env → SR) : Nat → Env → SR
  | 0, _ => .bad
  | n + 1, ρ => bindRS (t ρ) fun c ρ1 => match c with
    | false => .nx ρ1
    | true => match b ρ1 with
      | .nx ρ2 => whileL t b n ρ2
      | .cnt ρ2 => whileL t b n ρ2
      | .brk ρ2 => .nx ρ2
      | .ret r ρ2 => .ret r ρ2
      | .exc c ρ2 => .exc c ρ2
      | .bad => .bad
theorem fuel_ex : ∃ n : Nat, n = 1000000000000000000 := ⟨_, rfl⟩
/-- not to be unfolded by anybody -/
noncomputable def fuel : Nat := Classical.choose fuel_ex
theorem fuel_eq : fuel = 1000000000000000000 := Classical.choose_spec fuel_ex
noncomputable def sWhile (t : Env → Res Bool) (b : Env → SR) : Env → SR := fun ρ => whileL t b fuel ρ
theorem js_while {c : Expr} {body : List Stmt} {tc : Env → Res Bool} (hp : PassesOwn (model X.prog X.w) X.A X.env X.xe) (hc : JT X C W c tc) (hb : JSs X C W body s) : JS X C W (.While c body [] pos) (sWhile tc s) := PS.imp (ps_while hp hc hb) fun D σ H ⟨ρ, o, S, h⟩ => by
  refine ⟨fun n σ2 H2 => ∃ ρ2 o2, SRo X.K C o2 ρ2 σ2 H2 ∧ PoS X C W o2 H2 D (whileL tc s n ρ2), ⟨fuel, ρ, o, S, h⟩, ?_⟩
  rintro n σ2 H2 ⟨ρ2, o2, S2, h2⟩
  cases n with
  | zero => exact h2.elim
  | succ n =>
    obtain ⟨ρ0, o0, S0, h0⟩ := stepS (Rl := RlB) S2 h2
    refine ⟨ρ0, o0, S0, h0.imp (fun d ρ1 z v H1 o1 S1 t1 s1 => ?_) fun _ _ z => z⟩
    obtain ⟨ρ1', o1', d', S1', T1, s1', q1⟩ := z v H1 o1 S1 t1 s1
    have e : v = d' := s1'
    subst e
    cases v with
    | false => exact q1 σ2 H1 o1' S1' (.refl _ _)
    | true =>
      dsimp only at q1
      refine ⟨fun σ3 H3 => ∃ ρ3 o3, SRo X.K C o3 ρ3 σ3 H3 ∧ PoS X C W o3 H3 D (whileL tc s n ρ3), fun σ3 H3 z => ⟨n, by omega, z⟩, ρ1', o1', S1', ?_⟩
      cases e2 : s ρ1' with
      | nx ρ7 => rw [e2] at q1; exact fun σ7 H7 o7 S7 t7 => ⟨ρ7, o7, S7, PoS.shift t7 q1⟩
      | cnt ρ7 => rw [e2] at q1; exact fun σ7 H7 o7 S7 t7 => ⟨ρ7, o7, S7, PoS.shift t7 q1⟩
      | brk ρ7 => rw [e2] at q1; exact q1
      | ret r ρ7 => rw [e2] at q1; exact q1
      | exc c ρ7 => rw [e2] at q1; exact q1
      | bad => rw [e2] at q1; exact q1
end
end Dn
set_option Elab.async false
set_option linter.all false
set_option maxRecDepth 100000
set_option maxHeartbeats 1000000
/-! Dn4: comprehensions, calls of defs, a def's promise, exceptions -/
namespace Dn
open PySem L2

/-! ### comprehensions -/
def wipeE (ρ : Env) : List Nat → Env
  | [] => ρ
  | v :: vs => sS (wipeE ρ vs) v .emp
def restE (ρ ρ0 : Env) : List Nat → Env
  | [] => ρ
  | v :: vs => sS (restE ρ ρ0 vs) v (gS ρ0 v)
def pureAt (ρ : Env) : List Nat → Bool
  | [] => true
  | v :: vs => (match gS ρ v with | .emp => true | .val _ => true | _ => false) && pureAt ρ vs
theorem wipeE_len (ρ : Env) : ∀ vs, (wipeE ρ vs).length = ρ.length
  | [] => rfl
  | v :: vs => by unfold wipeE; rw [sS_len, wipeE_len ρ vs]
theorem restE_len (ρ ρ0 : Env) : ∀ vs, (restE ρ ρ0 vs).length = ρ.length
  | [] => rfl
  | v :: vs => by unfold restE; rw [sS_len, restE_len ρ ρ0 vs]
theorem wipeE_at {ρ : Env} {j : Nat} : ∀ {vs : List Nat}, j ∈ vs → gS (wipeE ρ vs) j = .emp
  | [], h => by cases h
  | v :: vs, h => by
    unfold wipeE
    by_cases e : v = j
    · subst e
      by_cases hl : v < (wipeE ρ vs).length
      · exact gS_same hl
      · exact gS_out (by rw [sS_len]; omega)
    · rw [gS_ne e]
      exact wipeE_at ((List.mem_cons.mp h).resolve_left fun z => e z.symm)
theorem pureAt_of {ρ : Env} {j : Nat} : ∀ {vs : List Nat}, pureAt ρ vs = true → j ∈ vs → gS ρ j = .emp ∨ ∃ d, gS ρ j = .val d
  | [], _, h => by cases h
  | v :: vs, hp, h => by
    unfold pureAt at hp
    rw [Bool.and_eq_true] at hp
    rcases List.mem_cons.mp h with e | h
    · subst e
      have := hp.1
      cases g : gS ρ j with
      | emp => exact .inl rfl
      | val d => exact .inr ⟨d, rfl⟩
      | own c => rw [g] at this; cases this
      | bor c => rw [g] at this; cases this
    · exact pureAt_of hp.2 h
section
variable {K : PySem.W.Frag} {C : Ctx} {o : Nat → List Addr} {ρ : Env} {σ : St} {H : Hp}
theorem wipe_in {σ : St} {j : Nat} : ∀ {vs : List Nat}, j ∈ vs → j < σ.length → (wipe σ vs)[j]? = some none
  | [], h, _ => by cases h
  | v :: vs, h, hl => by
    unfold wipe
    by_cases e : v = j
    · subst e; rw [List.getElem?_set_self (by rw [wipe_length]; exact hl)]
    · rw [List.getElem?_set_ne e]
      exact wipe_in ((List.mem_cons.mp h).resolve_left fun z => e z.symm) hl
theorem wipe_dif {vs : List Nat} {σ σ2 : St} (h : Dif vs (wipe σ vs) σ2) : wipe σ2 vs = wipe σ vs := by
  apply List.ext_getElem?
  intro j
  have hl : σ2.length = σ.length := by rw [h.1, wipe_length]
  by_cases hj : j ∈ vs
  · by_cases hlt : j < σ.length
    · rw [wipe_in hj (by omega), wipe_in hj hlt]
    · rw [List.getElem?_eq_none (by rw [wipe_length]; omega), List.getElem?_eq_none (by rw [wipe_length]; omega)]
  · rw [wipe_out hj, h.2 j hj]
theorem SRo.wiped (S : SRo K C o ρ σ H) : ∀ vs : List Nat, ∃ o', SRo K C o' (wipeE ρ vs) (wipe σ vs) H ∧ ∀ a, FF C.B o' a → FF C.B o a
  | [] => ⟨o, S, fun _ z => z⟩
  | v :: vs => by
    obtain ⟨o1, S1, l⟩ := S.wiped vs
    exact ⟨_, S1.setE (i := v) (ov := none), fun a z => l a (FF.drop a z)⟩
/-- the block's own names are given back -/
theorem SRo.rest {ρ0 : Env} : ∀ {vs : List Nat}, SRo K C o ρ (wipe σ vs) H → (∀ j ∈ vs, gS ρ j = .emp) → (∀ j ∈ vs, SlR K (FF C.B o) H [] (C.bv j) σ[j]? (gS ρ0 j)) → SRo K C o (restE ρ ρ0 vs) σ H := by
  intro vs S he hs
  have key : ∀ us : List Nat, (∀ j ∈ us, j ∈ vs) → ∀ i, gS (restE ρ ρ0 us) i = if i ∈ us ∧ i < ρ.length then gS ρ0 i else gS ρ i := by
    intro us
    induction us with
    | nil => intro _ i; rw [if_neg (by simp)]; rfl
    | cons u us ih =>
      intro hu i
      have ih' := ih (fun j hj => hu j (List.mem_cons_of_mem _ hj)) i
      unfold restE
      by_cases e : u = i
      · subst e
        by_cases hl : u < ρ.length
        · rw [gS_same (by rw [restE_len]; exact hl), if_pos ⟨by simp, hl⟩]
        · rw [gS_out (by rw [sS_len, restE_len]; omega), if_neg (fun z => hl z.2), gS_out (by omega)]
      · rw [gS_ne e, ih']
        by_cases hi : i ∈ us ∧ i < ρ.length
        · rw [if_pos hi, if_pos ⟨List.mem_cons_of_mem _ hi.1, hi.2⟩]
        · rw [if_neg hi, if_neg (fun z => hi ⟨(List.mem_cons.mp z.1).resolve_left fun q => e q.symm, z.2⟩)]
  refine ⟨by rw [restE_len, S.len, wipe_length], S.same, S.nod, S.inj, S.nB, S.fr, S.tr, fun i => ?_⟩
  rw [key vs (fun _ h => h) i]
  by_cases hi : i ∈ vs ∧ i < ρ.length
  · rw [if_pos hi]
    have z := S.slot i
    rw [he i hi.1] at z
    have z : o i = [] := z
    rw [z]
    exact hs i hi.1
  · rw [if_neg hi]
    by_cases hv : i ∈ vs
    · have z := S.slot i
      rw [he i hv] at z ⊢
      exact z
    · have z := S.slot i
      rw [wipe_out hv] at z
      exact z
end

def W0 : WX := fun _ _ _ _ => False
def noX {α : Type} (r : Res α) : Res α := match r with
  | .ok a ρ => .ok a ρ
  | _ => .bad
@[simp] theorem noX_ok {α : Type} {a : α} {ρ : Env} : noX (.ok a ρ) = .ok a ρ := id rfl
@[simp] theorem noX_exc {α : Type} {c : Str} {ρ : Env} : noX (.exc c ρ : Res α) = .bad := id rfl
@[simp] theorem noX_bad {α : Type} : noX (.bad : Res α) = .bad := id rfl
def lcL (vs : List Nat) (g : D → Env → Option Env) (t : Env → Res Bool) (e : Env → Res R) : List D → Env → List D → Res (List D)
  | [], ρ, acc => .ok acc ρ
  | d :: ds, ρ, acc => match g d ρ with
    | none => .bad
    | some ρ1 => bindR (noX (t ρ1)) fun b ρ2 => match b with
      | false => lcL vs g t e ds (wipeE ρ2 vs) acc
      | true => bindR (noX (e ρ2)) fun r ρ3 => if acc.length < 16777216 then lcL vs g t e ds (wipeE ρ3 vs) (acc ++ [r.toD]) else .bad
def eLc (vs : List Nat) (mi : Env → Res (List D)) (g : D → Env → Option Env) (t : Env → Res Bool) (e : Env → Res R) : Env → Res R := fun ρ => bindR (mi ρ) fun ds ρ1 =>
  if pureAt ρ1 vs = true then bindR (lcL vs g t e ds (wipeE ρ1 vs) []) fun xs ρ2 => .ok (.fresh (.lst xs)) (restE ρ2 ρ1 vs) else .bad

def exG (X : Cx) (ts : List Nat) (g : D → Env → Option Env) : TG := fun v σ H Q => ∃ C, tG X C W0 ts g v σ H Q
def exT (X : Cx) (t : Env → Res Bool) : TT := fun σ H Q => ∃ C, tV X C W0 RlB t σ H Q
def exE (X : Cx) (e : Env → Res R) : TE := fun σ H Q => ∃ C, tE X C W0 e σ H Q
def JTs (X : Cx) (C : Ctx) (W : WX) (ifs : List Expr) (t : Env → Res Bool) : Prop := PTs X ifs (tV X C W RlB t)
def tTrue : Env → Res Bool := fun ρ => .ok true ρ
theorem jts_nil {X : Cx} {C : Ctx} {W : WX} : JTs X C W [] tTrue := ⟨fun pins s σ H Q I ⟨ρ, o, S, q⟩ => pts_nil.run pins s σ H Q I (q true H o S (.refl _ _) rfl)⟩
theorem jts_one {X : Cx} {C : Ctx} {W : WX} {c : Expr} {t : Env → Res Bool} (h : JT X C W c t) : JTs X C W [c] t := pts_one h

theorem ix_app {α : Type} {l : List α} {i : Nat} (h : i < l.length) : l.drop i = l[i] :: l.drop (i + 1) := List.drop_eq_getElem_cons h
section
variable {X : Cx} {C : Ctx} {W : WX} {o o1 : Nat → List Addr} {σ : St} {H H1 : Hp}
/-- within the comprehension: the new list at D is forbidden ground -/
abbrev Ctx.mk1 (C : Ctx) (D : Addr) (acc : List V) : Ctx := { B := fun a => C.B a ∨ a ∈ [D], H0 := upd C.H0 D (.lst acc), bv := C.bv }
theorem lc_imp {vs : List Nat} {mi : Env → Res (List D)} {g : D → Env → Option Env} {t : Env → Res Bool} {e : Env → Res R} {ρ : Env} {Q : VK} (S : SRo X.K C o ρ σ H) (h : PoG (OkE X C o σ H Q) (ExP X C W o σ H) (eLc vs mi g t e ρ)) :
    tLc (tI X C W mi) (exG X vs g) (exT X t) (exE X e) vs σ H Q := by
  refine ⟨ρ, o, S, ?_⟩
  have h : PoG (OkE X C o σ H Q) (ExP X C W o σ H) (bindR (mi ρ) fun ds ρ1 => if pureAt ρ1 vs = true then bindR (lcL vs g t e ds (wipeE ρ1 vs) []) fun xs ρ2 => .ok (.fresh (.lst xs)) (restE ρ2 ρ1 vs) else .bad) := h
  cases em : mi ρ with
  | bad => rw [em] at h; exact h
  | exc c ρ1 => rw [em] at h; exact h
  | ok ds ρ1 =>
    rw [em, bindR_ok] at h
    intro J H1 o1 S1 t1 it Dl hD
    by_cases hp : pureAt ρ1 vs = true
    case neg => rw [if_neg hp] at h; exact h.elim
    rw [if_pos hp] at h
    obtain ⟨ow, Sw, lw⟩ := S1.wiped vs
    have nD : ∀ a, FF C.B o1 a → a ≠ Dl := fun a z q => S1.tr a z (q ▸ hD)
    have nD0 : C.H0 Dl = none := S1.same.free hD
    have sm1 : Same H1 (upd H1 Dl (.lst [])) := same_new hD
    -- the start
    have mk : ∀ {o2 : Nat → List Addr} {ρ2 : Env} {σ2 : St} {H2 : Hp} {accv accv' : List V} {H2' : Hp}, SRo X.K (C.mk1 Dl accv) o2 ρ2 σ2 H2 → H2' = upd H2 Dl (.lst accv') → H2 Dl = some (.lst accv) → SRo X.K (C.mk1 Dl accv') o2 ρ2 σ2 H2' ∧ Tx (FF (C.mk1 Dl accv).B o2) H2 (FF (C.mk1 Dl accv').B o2) H2' := by
      intro o2 ρ2 σ2 H2 accv accv' H2' S2 e2 hl
      have tt : Tx (FF (C.mk1 Dl accv).B o2) H2 (FF (C.mk1 Dl accv').B o2) H2' := fun a u n q => by
        have na : a ≠ Dl := fun z => n (.inl (.inr (by simp [z])))
        exact ⟨by rw [e2, upd_ne na]; exact q, n⟩
      refine ⟨⟨S2.len, fun b u q => ?_, S2.nod, S2.inj, S2.nB, fun i a ha => ?_, fun a z => ?_, fun i => ?_⟩, tt⟩
      · by_cases eb : b = Dl
        · rw [eb] at q ⊢
          have q : upd C.H0 Dl (.lst accv') Dl = some u := q
          rw [upd_same] at q
          rw [e2, upd_same]; exact q
        · have q : upd C.H0 Dl (.lst accv') b = some u := q
          rw [upd_ne eb] at q
          rw [e2, upd_ne eb]
          exact S2.same b u (by show upd C.H0 Dl (.lst accv) b = some u; rw [upd_ne eb]; exact q)
      · have ea : a ≠ Dl := fun z => S2.nB i a ha (.inr (by simp [z]))
        show upd C.H0 Dl (.lst accv') a = none
        rw [upd_ne ea]
        have := S2.fr i a ha
        have : upd C.H0 Dl (.lst accv) a = none := this
        rw [upd_ne ea] at this
        exact this
      · by_cases ea : a = Dl
        · rw [e2, ea, upd_same]; exact fun q => nomatch q
        · rw [e2, upd_ne ea]; exact S2.tr a z
      · exact (S2.slot i).tx tt fun a ha => by
          have ea : a ≠ Dl := fun z => S2.nB i a ha (.inr (by simp [z]))
          rw [e2, upd_ne ea]
    have S0 : SRo X.K (C.mk1 Dl []) ow (wipeE ρ1 vs) (wipe σ vs) (upd H1 Dl (.lst [])) := by
      have t0 : Tx (FF C.B ow) H1 (FF (C.mk1 Dl []).B ow) (upd H1 Dl (.lst [])) := .both sm1 fun a z => by
        rcases z with (z | z) | z
        · exact .inl (.inl z)
        · simp at z; rw [z]; exact .inr hD
        · exact .inl (.inr z)
      refine ⟨Sw.len, fun b u q => ?_, Sw.nod, Sw.inj, fun i a ha z => ?_, fun i a ha => ?_, fun a z => ?_, fun i => ?_⟩
      · by_cases eb : b = Dl
        · rw [eb] at q ⊢
          exact q ▸ (by show upd H1 Dl (.lst []) Dl = upd C.H0 Dl (.lst []) Dl; rw [upd_same, upd_same])
        · have q : upd C.H0 Dl (.lst []) b = some u := q
          rw [upd_ne eb] at q
          rw [upd_ne eb]; exact Sw.same b u q
      · rcases z with z | z
        · exact Sw.nB i a ha z
        · simp at z; exact nD a (lw a (.inr ⟨i, ha⟩)) z
      · have ea : a ≠ Dl := fun z => nD a (lw a (.inr ⟨i, ha⟩)) z
        show upd C.H0 Dl (.lst []) a = none
        rw [upd_ne ea]; exact Sw.fr i a ha
      · by_cases ea : a = Dl
        · rw [ea, upd_same]; exact fun q => nomatch q
        · rw [upd_ne ea]
          refine Sw.tr a ?_
          rcases z with (z | z) | z
          · exact .inl z
          · simp at z; exact absurd z ea
          · exact .inr z
      · exact (Sw.slot i).tx t0 fun a ha => upd_ne fun z => nD a (lw a (.inr ⟨i, ha⟩)) z
    have T0 : Tx (FF C.B o1) H1 (FF (C.mk1 Dl []).B ow) (upd H1 Dl (.lst [])) := .both sm1 fun a z => by
      rcases z with (z | z) | z
      · exact .inl (.inl z)
      · simp at z; rw [z]; exact .inr hD
      · exact .inl (lw a (.inr z))
    refine ⟨fun i n H2 => ∃ ρ2 o2 acc accv, SRo X.K (C.mk1 Dl accv) o2 ρ2 (wipe σ vs) H2 ∧ (∀ j ∈ vs, gS ρ2 j = .emp) ∧ ShA X.K (FF (C.mk1 Dl accv).B o2) H2 accv acc ∧ H2 Dl = some (.lst accv) ∧ Tx (FF C.B o1) H1 (FF (C.mk1 Dl accv).B o2) H2 ∧ i + n = ds.length ∧
      PoG (OkE X C o σ H Q) (ExP X C W o σ H) (bindR (lcL vs g t e (ds.drop i) ρ2 acc) fun xs ρ3 => .ok (.fresh (.lst xs)) (restE ρ3 ρ1 vs)), ⟨ds.length, wipeE ρ1 vs, ow, [], [], S0, fun j hj => wipeE_at hj, .nil, upd_same, T0, by omega, h⟩, ?_⟩
    rintro i n H2 ⟨ρ2, o2, acc, accv, S2, we, sa, eD, T2, en, h2⟩
    obtain ⟨stop, turn⟩ := it (FF (C.mk1 Dl accv).B o2) H2 T2 S2.tr
    by_cases hlt : i < ds.length
    · refine .inr ?_
      have ei : ds[i]? = some ds[i] := List.getElem?_eq_getElem hlt
      obtain ⟨go, yl⟩ := turn i ds[i] ei
      rw [List.drop_eq_getElem_cons hlt] at h2
      unfold lcL at h2
      refine ⟨go, fun H3 => ∃ ρ2 o2 acc accv, SRo X.K (C.mk1 Dl accv) o2 ρ2 (wipe σ vs) H3 ∧ (∀ j ∈ vs, gS ρ2 j = .emp) ∧ ShA X.K (FF (C.mk1 Dl accv).B o2) H3 accv acc ∧ H3 Dl = some (.lst accv) ∧ Tx (FF C.B o1) H1 (FF (C.mk1 Dl accv).B o2) H3 ∧
        PoG (OkE X C o σ H Q) (ExP X C W o σ H) (bindR (lcL vs g t e (ds.drop (i + 1)) ρ2 acc) fun xs ρ3 => .ok (.fresh (.lst xs)) (restE ρ3 ρ1 vs)),
        fun H3 ⟨a1, a2, a3, a4, a5, a6, a7, a8, a9, a10⟩ => ⟨n - 1, by omega, a1, a2, a3, a4, a5, a6, a7, a8, a9, by omega, a10⟩, fun x H3 hy => ?_⟩
      obtain ⟨sm, sx⟩ := yl x H3 hy
      cases e1 : g ds[i] ρ2 with
      | none => rw [e1] at h2; exact h2.elim
      | some ρ4 =>
        rw [e1] at h2
        dsimp only at h2
        refine ⟨C.mk1 Dl accv, ρ2, o2, ds[i], ρ4, S2.keep sm, sx, e1, fun σ5 H5 o5 dif S5 t5 => ⟨wipe_dif dif, C.mk1 Dl accv, ρ4, o5, S5, ?_⟩⟩
        have t6 : Tx (FF (C.mk1 Dl accv).B o2) H2 (FF (C.mk1 Dl accv).B o5) H5 := (Tx.same sm).trans t5
        cases e2 : t ρ4 with
        | bad => rw [e2] at h2; exact h2.elim
        | exc c ρ7 => rw [e2] at h2; exact h2.elim
        | ok b ρ7 =>
          rw [e2, noX_ok, bindR_ok] at h2
          intro v7 H7 o7 S7 t7 rl
          have rl : v7 = b := rl
          subst rl
          have keepD : ∀ {oo : Nat → List Addr} {rr : Env} {ss : St} {Hh : Hp}, SRo X.K (C.mk1 Dl accv) oo rr ss Hh → Hh Dl = some (.lst accv) := fun SS => SS.same Dl _ (by show upd C.H0 Dl (.lst accv) Dl = some (.lst accv); rw [upd_same])
          cases v7 with
          | false =>
            dsimp only at h2
            rw [if_neg Bool.false_ne_true]
            obtain ⟨o8, S8, l8⟩ := S7.wiped vs
            rw [wipe_dif dif] at S8
            have T8 : Tx (FF (C.mk1 Dl accv).B o2) H2 (FF (C.mk1 Dl accv).B o8) H7 := (t6.trans t7).trans (.less l8)
            exact ⟨_, o8, acc, accv, S8, fun j hj => wipeE_at hj, sa.tx T8, keepD S8, T2.trans T8, h2⟩
          | true =>
            dsimp only at h2
            rw [if_pos rfl]
            refine ⟨C.mk1 Dl accv, ρ7, o7, S7, ?_⟩
            cases e3 : e ρ7 with
            | bad => rw [e3] at h2; exact h2.elim
            | exc c ρ9 => rw [e3] at h2; exact h2.elim
            | ok r ρ9 =>
              rw [e3, noX_ok, bindR_ok] at h2
              refine OkE.of_val fun v9 H9 o9 S9 t9 s9 => ?_
              split at h2
              · rename_i hlen
                have T9 : Tx (FF (C.mk1 Dl accv).B o2) H2 (FF (C.mk1 Dl accv).B o9) H9 := (t6.trans t7).trans t9
                have hD9 := keepD S9
                obtain ⟨S10, T10⟩ := mk S9 (rfl : upd H9 Dl (.lst (accv ++ [v9])) = _) hD9
                obtain ⟨o11, S11, l11⟩ := S10.wiped vs
                rw [wipe_dif dif] at S11
                have T11 : Tx (FF (C.mk1 Dl accv).B o9) H9 (FF (C.mk1 Dl (accv ++ [v9])).B o11) (upd H9 Dl (.lst (accv ++ [v9]))) := T10.trans (.less l11)
                refine ⟨accv, hD9, by rw [sa.length]; exact line_lt hlen, _, o11, acc ++ [r.toD], accv ++ [v9], S11, fun j hj => wipeE_at hj, ((sa.tx T9).tx T11).append (.one (s9.tx T11)), upd_same, (T2.trans T9).trans T11, h2⟩
              · exact h2.elim
    · have e0 : i = ds.length := by omega
      subst e0
      rw [List.drop_length] at h2
      refine .inl ⟨stop, ?_⟩
      have h3 : OkE X C o σ H Q (.fresh (.lst acc)) (restE ρ2 ρ1 vs) := h2
      have S3 : SRo X.K (C.plus [Dl]) o2 ρ2 (wipe σ vs) H2 := ⟨S2.len, fun b u q => S2.same b u (by
        show upd C.H0 Dl (.lst accv) b = some u
        rw [upd_ne fun z => by rw [z, nD0] at q; cases q]; exact q), S2.nod, S2.inj, S2.nB, fun i a ha => by
          have ea : a ≠ Dl := fun z => S2.nB i a ha (.inr (by simp [z]))
          have q : upd C.H0 Dl (.lst accv) a = none := S2.fr i a ha
          rw [upd_ne ea] at q; exact q, S2.tr, S2.slot⟩
      refine h3 (.ref Dl) H2 o2 [Dl] (by simp) (fun a ha => by simp at ha; rw [ha]; exact nD0) (fun a ha z => by simp at ha; rw [ha] at z; exact nD Dl (.inl z) rfl) (S3.rest we fun j hj => ?_) (t1.trans T2) ⟨Dl, accv, rfl, rfl, eD, sa⟩
      have z := S1.slot j
      rcases pureAt_of hp hj with q | ⟨d, q⟩
      · rw [q]; rfl
      · rw [q] at z ⊢
        obtain ⟨z1, v, z2, z3⟩ := z
        exact ⟨rfl, v, z2, z3.tx T2⟩
variable {elt tg iter : Expr} {ifs : List Expr} {scope : Scope} {own : List (Str × Nat)} {pos : Pos} {mi : Env → Res (List D)} {g : D → Env → Option Env} {t : Env → Res Bool} {e : Env → Res R}
theorem je_lc (hc : X.calm = true) (hN : X.N.Nodup) (hi : JI X C W tg iter mi) (ok : BlkOk X.N X.env.scope scope own)
    (hg : ∀ (s : Shared) (H : Hp) (C0 : Addr) (cl : List (Str × Addr)) (fp : List Addr) (C' : Ctx), JG (X.blk s H scope (compEnvC scope cl C0 X.env) fp) C' W0 tg (own.map (·.2)) g)
    (ht : ∀ (s : Shared) (H : Hp) (C0 : Addr) (cl : List (Str × Addr)) (fp : List Addr) (C' : Ctx), JTs (X.blk s H scope (compEnvC scope cl C0 X.env) fp) C' W0 ifs t)
    (he : ∀ (s : Shared) (H : Hp) (C0 : Addr) (cl : List (Str × Addr)) (fp : List Addr) (C' : Ctx), JE (X.blk s H scope (compEnvC scope cl C0 X.env) fp) C' W0 elt e) (hs : ∀ x, foldedSetIterable iter X.env x = pure x := by intro _; rfl) :
    JE X C W (.ListComp elt [⟨tg, iter, ifs, 0⟩] scope pos) (eLc (own.map (·.2)) mi g t e) :=
  PE.imp (pe_lc (g := exG X (List.map (fun (x : Str × Nat) => x.2) own) g) (tt := exT X t) (te := exE X e) hc hN hi ok (fun s H C0 cl fp => ⟨fun pins s1 σ H1 v u Q I r ⟨C', q⟩ => (hg s H C0 cl fp C').run pins s1 σ H1 v u Q I r q⟩)
    (fun s H C0 cl fp => ⟨fun pins s1 σ H1 Q I ⟨C', q⟩ => (ht s H C0 cl fp C').run pins s1 σ H1 Q I q⟩) (fun s H C0 cl fp => ⟨fun pins s1 σ H1 Q I ⟨C', q⟩ => (he s H C0 cl fp C').run pins s1 σ H1 Q I q⟩) hs)
    fun σ H Q ⟨ρ, o, S, h⟩ => lc_imp S h
theorem js_setLc {i : Nat} {y : Str} {py spos : Pos} (hc : X.calm = true) (hN : X.N.Nodup) (hy : X.N[i]? = some y) (hyl : X.env.scope.names.lookup y = some .local)
    (hsw : swapsWith (.ListComp elt [⟨tg, iter, ifs, 0⟩] scope pos) (some (.Name y py)) spos.line X.env = pure true) (hi : JI X C W tg iter mi) (ok : BlkOk X.N X.env.scope scope own)
    (hg : ∀ (s : Shared) (H : Hp) (C0 : Addr) (cl : List (Str × Addr)) (fp : List Addr) (C' : Ctx), JG (X.blk s H scope (compEnvC scope cl C0 X.env) fp) C' W0 tg (own.map (·.2)) g)
    (ht : ∀ (s : Shared) (H : Hp) (C0 : Addr) (cl : List (Str × Addr)) (fp : List Addr) (C' : Ctx), JTs (X.blk s H scope (compEnvC scope cl C0 X.env) fp) C' W0 ifs t)
    (he : ∀ (s : Shared) (H : Hp) (C0 : Addr) (cl : List (Str × Addr)) (fp : List Addr) (C' : Ctx), JE (X.blk s H scope (compEnvC scope cl C0 X.env) fp) C' W0 elt e) (hs : ∀ x, foldedSetIterable iter X.env x = pure x := by intro _; rfl) :
    JS X C W (.Assign [.Name y py] (.ListComp elt [⟨tg, iter, ifs, 0⟩] scope pos) spos) (sAsg i (eLc (own.map (·.2)) mi g t e)) :=
  PS.imp (ps_setLc (g := exG X (List.map (fun (x : Str × Nat) => x.2) own) g) (tt := exT X t) (te := exE X e) hc hN hy hyl hsw hi ok (fun s H C0 cl fp => ⟨fun pins s1 σ H1 v u Q I r ⟨C', q⟩ => (hg s H C0 cl fp C').run pins s1 σ H1 v u Q I r q⟩)
    (fun s H C0 cl fp => ⟨fun pins s1 σ H1 Q I ⟨C', q⟩ => (ht s H C0 cl fp C').run pins s1 σ H1 Q I q⟩) (fun s H C0 cl fp => ⟨fun pins s1 σ H1 Q I ⟨C', q⟩ => (he s H C0 cl fp C').run pins s1 σ H1 Q I q⟩) hs)
    fun D σ H ⟨ρ, o, S, h⟩ => by
      obtain ⟨ρ0, o0, S0, h0⟩ := stepSE S h fun r ρ1 z => OkE.put (putR_ok z)
      exact lc_imp S0 h0
end
end Dn
set_option Elab.async false
set_option linter.all false
set_option maxRecDepth 100000
set_option maxHeartbeats 1000000
/-! Dn5: calls of defs, a def's promise, raise -/
namespace Dn
open PySem L2
open PyProof.Rows (envOfC)

/-! ### a def as a function of its arguments' slots -/
/-- what the caller sees of the arguments' slots behind the call: what it lent, with its new content -/
def backA : Env → Env → Option Env
  | [], _ => some []
  | .bor _ :: as, .bor c :: r => (backA as r).map (.bor c :: ·)
  | .val d :: as, _ :: r => (backA as r).map (.val d :: ·)
  | _, _ => none
def mkF (n m : Nat) (b : Env → SR) : Env → Res R := fun args => if args.length = n then
    match b (args ++ List.replicate (m - n) .emp) with
    | .ret r ρ => match backA args ρ with | some a => .ok r a | none => .bad
    | .nx ρ => match backA args ρ with | some a => .ok (.val .none) a | none => .bad
    | .exc c ρ => match backA args ρ with | some a => .exc c a | none => .bad
    | _ => .bad
  else .bad
section
variable (K : PySem.W.Frag) (mg : Str → Option Value) (C : Ctx) (o : Nat → List Addr) (σ : St) (H : Hp)
def OkK (Q : VK) (r : R) (ρ : Env) : Prop := match r with
  | .val d => ∀ v H' o', SRo K C o' ρ σ H' → Tx (FF C.B o) H (FF C.B o') H' → Sh K (FF C.B o') H' v d → Q v H'
  | .fresh c => ∀ v H' o' as, as.Nodup → (∀ a ∈ as, C.H0 a = none) → (∀ a ∈ as, ¬ C.B a) → SRo K (C.plus as) o' ρ σ H' → Tx (FF C.B o) H (FF (C.plus as).B o') H' → CR K (FF (C.plus as).B o') H' as v c → Q v H'
def ExK (E : XK) (c : Str) (ρ : Env) : Prop := ∀ H' o', SRo K C o' ρ σ H' → Tx (FF C.B o) H (FF C.B o') H' → ∀ A, mg c = some (.ref A) → E (.ref A) none H'
end
/-- a def's promise -/
def spG (K : PySem.W.Frag) (mg : Str → Option Value) (n : Nat) (f : Env → Res R) : Sp := fun vs H Q E => vs.length = n ∧ ∃ C o ρ, (∀ i v, vs[i]? = some v → C.bv i = v) ∧ SRo K C o ρ (vs.map some) H ∧
  PoG (OkK K C o (vs.map some) H Q) (ExK K mg C o (vs.map some) H E) (f ρ)

theorem gS_app : ∀ (ρ : Env) (n i : Nat), gS (ρ ++ List.replicate n .emp) i = gS ρ i
  | [], n, i => by
    show gS (List.replicate n .emp) i = .emp
    induction n generalizing i with
    | zero => rfl
    | succ n ih => cases i with
      | zero => rfl
      | succ i => exact ih i
  | s :: r, n, 0 => rfl
  | s :: r, n, i + 1 => gS_app r n i
section
variable {K : PySem.W.Frag} {mg : Str → Option Value} {C C' : Ctx} {o o' : Nat → List Addr} {ρ ρ' : Env} {σ σ' : St} {H H' : Hp}
theorem SRo.start (S : SRo K C o ρ σ H) (n : Nat) : SRo K C o (ρ ++ List.replicate n .emp) (σ ++ List.replicate n none) H where
  len := by rw [List.length_append, List.length_append, List.length_replicate, List.length_replicate, S.len]
  same := S.same
  nod := S.nod
  inj := S.inj
  nB := S.nB
  fr := S.fr
  tr := S.tr
  slot := fun i => by
    rw [gS_app]
    by_cases hi : i < σ.length
    · rw [List.getElem?_append_left hi]; exact S.slot i
    · have z := S.slot i
      rw [gS_out (by rw [S.len]; omega)] at z ⊢
      exact z
theorem backA_at : ∀ {as r b : Env}, backA as r = some b → b.length = as.length ∧ ∀ i, (gS as i = .emp ∧ gS b i = .emp) ∨ (∃ d, gS as i = .val d ∧ gS b i = .val d) ∨ ∃ c c', gS as i = .bor c ∧ gS b i = .bor c' ∧ gS r i = .bor c'
  | [], r, b, h => by
    cases h
    exact ⟨rfl, fun i => .inl ⟨rfl, rfl⟩⟩
  | .emp :: as, r, b, h => by simp [backA] at h
  | .own c :: as, r, b, h => by simp [backA] at h
  | .val d :: as, [], b, h => by simp [backA] at h
  | .bor c :: as, [], b, h => by simp [backA] at h
  | .val d :: as, s :: r, b, h => by
    simp only [backA, Option.map_eq_some_iff] at h
    obtain ⟨b', h', rfl⟩ := h
    obtain ⟨l, q⟩ := backA_at h'
    refine ⟨by simp [l], fun i => ?_⟩
    cases i with
    | zero => exact .inr (.inl ⟨d, rfl, rfl⟩)
    | succ i => exact q i
  | .bor c :: as, .emp :: r, b, h => by simp [backA] at h
  | .bor c :: as, .val _ :: r, b, h => by simp [backA] at h
  | .bor c :: as, .own _ :: r, b, h => by simp [backA] at h
  | .bor c :: as, .bor c' :: r, b, h => by
    simp only [backA, Option.map_eq_some_iff] at h
    obtain ⟨b', h', rfl⟩ := h
    obtain ⟨l, q⟩ := backA_at h'
    refine ⟨by simp [l], fun i => ?_⟩
    cases i with
    | zero => exact .inr (.inr ⟨c, c', rfl, rfl, rfl⟩)
    | succ i => exact q i
/-- at a def's end: the arguments' slots alone -/
theorem SRo.back {vs : List V} {as b : Env} (S : SRo K C o as (vs.map some) H) (hbv : ∀ i v, vs[i]? = some v → C.bv i = v) (S' : SRo K C' o' ρ' σ' H') (e : C'.bv = C.bv) (t : Tx (FF C.B o) H (FF C'.B o') H') (h : backA as ρ' = some b) :
    ∃ o2, SRo K C' o2 b (vs.map some) H' ∧ ∀ a, FF C'.B o2 a → FF C'.B o' a := by
  obtain ⟨hl, hb⟩ := backA_at h
  refine ⟨fun i => match gS b i with | .bor _ => o' i | _ => [], ?_, ?_⟩
  · have sub : ∀ i a, a ∈ (match gS b i with | .bor _ => o' i | _ => []) → a ∈ o' i := fun i a ha => by
      split at ha
      · exact ha
      · cases ha
    have le : ∀ a, FF C'.B (fun i => match gS b i with | .bor _ => o' i | _ => []) a → FF C'.B o' a := fun a z => z.elim .inl fun ⟨i, q⟩ => .inr ⟨i, sub i a q⟩
    refine ⟨by rw [hl]; exact S.len, S'.same, fun i => ?_, fun i j a h1 h2 => S'.inj i j a (sub i a h1) (sub j a h2), fun i a h1 => S'.nB i a (sub i a h1), fun i a h1 => S'.fr i a (sub i a h1), fun a z => S'.tr a (le a z), fun i => ?_⟩
    · show (match gS b i with | .bor _ => o' i | _ => []).Nodup
      split
      · exact S'.nod i
      · exact List.nodup_nil
    · show SlR K _ H' (match gS b i with | .bor _ => o' i | _ => []) _ _ _
      rcases hb i with ⟨h1, h2⟩ | ⟨d, h1, h2⟩ | ⟨c, c', h1, h2, h3⟩
      · rw [h2]; rfl
      · have z := S.slot i
        rw [h1] at z
        rw [h2]
        obtain ⟨_, v, ev, sh⟩ := z
        exact ⟨rfl, v, ev, (sh.tx t).tx (.less le)⟩
      · have z := S'.slot i
        have z0 := S.slot i
        rw [h1] at z0
        rw [h3] at z
        rw [h2]
        refine ⟨?_, z.2.tx (.less le) fun _ _ => rfl⟩
        rw [e]
        exact z0.1
  · intro a z
    exact z.elim .inl fun ⟨i, q⟩ => .inr ⟨i, by
      dsimp only at q
      split at q
      · exact q
      · cases q⟩
end
section
variable {P : Program} {w : World} {K : PySem.W.Frag} {mg : Str → Option Value} {base : Heap}
/-- THE RULE for a def -/
theorem fn_ok {x qual : Str} {st : Stmt} {f : Addr} {fd : FuncData} {N ps : List Str} {k : Nat} {body : Env → SR} (F : Fun K x qual st f fd) (S : FnScope N ps (defScope st))
    (hb : ∀ (cdv : Value) (A : Around) (outer : List PySem.Env) (s : Shared) (H : Hp) (E : XK) (C : Ctx), Room k (A.deeper (envOfC qual (defScope st) s.heap.objs.size f cdv)) →
      JSs (cxOf (L2.CX P w) P w K mg base N qual (defScope st) f cdv A outer s H E) C (fun cls d _ H => E cls d H) (defBody st) body) :
    FnOk P w K mg base (L2.CX P w) (k + 1) f fd ps (spG K mg ps.length (mkF ps.length N.length body)) := by
  refine F.okX S (fun vs H Q E h => h.1) (fun cdv A outer s H vs Q E hr h => ?_)
  obtain ⟨hl, C, o, ρ, hbv, S0, h⟩ := h
  refine ⟨_, hb cdv A outer s H E C hr, ρ ++ List.replicate (N.length - vs.length) Sl.emp, o, S0.start (N.length - vs.length), ?_⟩
  unfold mkF at h
  have hρ : ρ.length = vs.length := by rw [S0.len, List.length_map]
  rw [if_pos (by rw [hρ, hl])] at h
  rw [← hl] at h
  cases e : body (ρ ++ List.replicate (N.length - vs.length) .emp) with
  | bad => rw [e] at h; exact h
  | brk ρ' => rw [e] at h; exact h.elim
  | cnt ρ' => rw [e] at h; exact h.elim
  | nx ρ' =>
    rw [e] at h
    dsimp only at h
    cases eb : backA ρ ρ' with
    | none => rw [eb] at h; exact h.elim
    | some a =>
      rw [eb] at h
      intro σ' H' o' S' t
      obtain ⟨o2, S2, l2⟩ := S0.back hbv S' rfl t eb
      exact h .non H' o2 S2 (t.trans (.less l2)) .non
  | exc c ρ' =>
    rw [e] at h
    dsimp only at h
    cases eb : backA ρ ρ' with
    | none => rw [eb] at h; exact h.elim
    | some a =>
      rw [eb] at h
      intro σ' H' o' S' t
      obtain ⟨o2, S2, l2⟩ := S0.back hbv S' rfl t eb
      exact h H' o2 S2 (t.trans (.less l2))
  | ret r ρ' =>
    rw [e] at h
    dsimp only at h
    cases eb : backA ρ ρ' with
    | none => rw [eb] at h; exact h.elim
    | some a =>
      rw [eb] at h
      intro σ'
      cases r with
      | val d =>
        intro v H' o' S' t s
        obtain ⟨o2, S2, l2⟩ := S0.back hbv S' rfl t eb
        exact h v H' o2 S2 (t.trans (.less l2)) (s.tx (.less l2))
      | fresh c =>
        intro v H' o' as nd h0 nB S' t cr
        obtain ⟨o2, S2, l2⟩ := S0.back hbv S' rfl t eb
        exact h v H' o2 as nd h0 nB S2 (t.trans (.less l2)) (cr.tx (.less l2) fun _ _ => rfl)
end

/-! ### calls: arguments by value -/
section
variable {X : Cx} {C : Ctx} {W : WX} {o o1 : Nat → List Addr} {σ : St} {H H1 : Hp} {e : Expr} {es : List Expr} {pos p : Pos} {x : Str}
def vals (ds : List D) : Env := ds.map .val
theorem gS_vals : ∀ (ds : List D) (i : Nat), gS (vals ds) i = match ds[i]? with | some d => .val d | none => .emp
  | [], i => rfl
  | d :: ds, 0 => rfl
  | d :: ds, i + 1 => by
    show gS (vals ds) i = _
    rw [gS_vals ds i, List.getElem?_cons_succ]
theorem SRo.vals {K : PySem.W.Frag} {F : Addr → Prop} {vs : List V} {ds : List D} {H : Hp} (tr : ∀ a, F a → H a ≠ none) (s : ShA K F H vs ds) (bv : Nat → V) : SRo K ⟨F, H, bv⟩ (fun _ => []) (Dn.vals ds) (vs.map some) H where
  len := by rw [Dn.vals, List.length_map, List.length_map, s.length]
  same := .refl H
  nod := fun _ => List.nodup_nil
  inj := fun _ _ _ h => by cases h
  nB := fun _ _ h => by cases h
  fr := fun _ _ h => by cases h
  tr := fun a z => tr a (z.elim id fun ⟨_, q⟩ => by cases q)
  slot := fun i => by
    rw [gS_vals]
    cases e : ds[i]? with
    | none => rfl
    | some d =>
      obtain ⟨v, ev, sh⟩ := s.get e
      exact ⟨rfl, v, by rw [List.getElem?_map, ev]; rfl, sh.tx (.less fun a z => z.elim id fun ⟨_, q⟩ => by cases q)⟩
theorem OkK.of_new {K : PySem.W.Frag} {F : Addr → Prop} {bv : Nat → V} {H : Hp} {σ : St} {Q : VK} {r : R} {ρ : Env} (h : NewOk K F H Q r) : OkK K ⟨F, H, bv⟩ (fun _ => []) σ H Q r ρ := by
  cases r with
  | val d => exact fun v H' o' S' t s => h v H' S'.same (s.tx (.less fun a z => .inl z))
  | fresh c =>
    intro v H' o' as nd h0 nB S' t cr
    exact h v H' as S'.same nd h0 (fun a ha => S'.tr a (.inl (.inr ha))) (cr.tx (.less fun a z => .inl z) fun _ _ => rfl)
def eCall (n : Nat) (f : Env → Res R) (m : Env → Res (List D)) : Env → Res R := fun ρ => bindR (m ρ) fun ds ρ1 => if ds.length = n then
    match f (vals ds) with
    | .ok r _ => .ok r ρ1
    | .exc c _ => .exc c ρ1
    | .bad => .bad
  else .bad
theorem je_call {k n : Nat} {f : Addr} {fd : FuncData} {ps : List Str} {den : Env → Res R} {m : Env → Res (List D)} (F : FnOk X.prog X.w X.K X.mg X.base (L2.CX X.prog X.w) k f fd ps (spG X.K X.mg n den)) (hr : Room k X.A) (hm : X.mg x = some (.ref f)) (hk : PySem.W.keepIn X.K (.ref f) = true) (hb : Binds X.K fd ps []) (tk : Takes X W)
    (ha : JA X C W (e :: es) m) (hg : Gl X x) (hdb : (x == ("__debug__" : Str)) = false := by decide) (he : starEach (e :: es) X.env = (false, eval e X.env) :: starEach es X.env := by rfl) (hpl : (backTo pos (starEach es X.env)).any (·.1) = false := by rfl) :
    JE X C W (.Call (.Name x p) (e :: es) [] pos) (eCall n den m) := PE.imp (pe_callS F hr hg hm hk hb (fun σ => passAt tk σ) ha hdb he hpl) fun σ H Q ⟨ρ, o, S, h⟩ => by
  obtain ⟨ρ0, o0, S0, h0⟩ := stepE (Rl := ShA X.K) S h
  refine ⟨ρ0, o0, S0, h0.imp (fun d ρ1 z v H1 o1 S1 t1 s1 => ?_) fun _ _ z => z⟩
  obtain ⟨ρ1', o1', d', S1', T1, s1', q1⟩ := z v H1 o1 S1 t1 s1
  split at q1
  · rename_i hl
    refine ⟨by rw [s1'.length]; exact hl, ⟨FF C.B o1', H1, fun i => v.getD i .non⟩, fun _ => [], vals d', fun i w e => by show v.getD i .non = w; rw [List.getD_eq_getElem?_getD, e]; rfl, SRo.vals S1'.tr s1' _, ?_⟩
    cases ef : den (vals d') with
    | bad => rw [ef] at q1; exact q1.elim
    | exc c ρ' =>
      rw [ef] at q1
      intro H' o' S' t A hA
      exact q1 H' o1' (S1'.keep S'.same) (.same S'.same) A hA
    | ok r ρ' =>
      rw [ef] at q1
      exact OkK.of_new (newOk S1' q1)
  · exact q1.elim

/-! ### raise -/
def sRaise (c : Str) : Env → SR := fun ρ => .exc c ρ
theorem js_raise {msg : Str} {j : Nat} {p2 pos2 : Pos} {A : Addr} {bmB : List Value} {B newId initId : String} (hc : X.calm = true) (tk : Takes X W) (Fb : ExcBaseFacts B newId initId bmB) (q : PySem.W.excIn X.K A bmB newId = true) (gC : X.mg x = some (.ref A)) (kC : PySem.W.keepIn X.K (.ref A) = true) (r : Raises X (.ref A)) (hg : Gl X x)
    (hdb : (x == ("__debug__" : Str)) = false := by decide) : JS X C W (.Raise (some (.Call (.Name x p) [.Constant (.str msg) j p2] [] pos)) none pos2) (sRaise x) :=
  PS.imp (ps_raise hc tk (pmk_own Fb q gC kC r hg hdb)) fun D σ H ⟨ρ, o, S, h⟩ => h σ H o S (.refl _ _) A gC
end
end Dn
set_option Elab.async false
set_option linter.all false
set_option maxRecDepth 100000
set_option maxHeartbeats 2000000
/-! Dn6: primitive operations on data -/
namespace Dn
open PySem L2

section
variable {X : Cx} {pins : List (Addr × Obj)} {σ : St} {H : Hp} {s : Shared}
/-- list + list, any two that are read -/
theorem op_catR : OpR X (binaryOp .Add) (fun x y H Q => ∃ l b xs zs, x = .ref l ∧ y = .ref b ∧ SqL X.K H l xs ∧ SqL X.K H b zs ∧ xs.length + zs.length ≤ sizeLine ∧ ∀ p, H p = none → Q (.ref p) (upd H p (.lst (xs ++ zs)))) := by
  intro pins s σ H x y v u Q I rx ry h
  obtain ⟨l, b, xs, zs, rfl, rfl, hH, hB, hz, q⟩ := h
  cases rx
  cases ry
  obtain ⟨its, r, pl, _⟩ := I.list hH
  obtain ⟨its2, r2, pl2, _⟩ := I.list hB
  have hl := r.length
  have hl2 := r2.length
  obtain ⟨⟨cls, dd, data, sl⟩, ho, hc, n, hd⟩ := pl.isList
  obtain ⟨⟨cls2, dd2, data2, sl2⟩, ho2, hc2, n2, hd2⟩ := pl2.isList
  simp only at hc hd hc2 hd2
  subst hc hd hc2 hd2
  have e : its.toArray ++ its2.toArray = (its ++ its2).toArray := by simp
  refine PySem.concat_meets ⟨_, ho, rfl⟩ ⟨_, ho2, rfl⟩ PySem.noFill_list_add PySem.seq_list_add PySem.F.slot_list_add PySem.F.entry_list_add (PySem.F.args_list_add_2 _ _) (PyProof.Rows.list_addW l b its.toArray its2.toArray n n2 dd dd2 sl sl2 (by rw [List.size_toArray, List.size_toArray]; omega)) ⟨ho, ho2, ?_⟩
  rw [e]
  exact ⟨.ref _, _, I.lnew (t' := s.toks) (r.append r2) (by rw [List.length_append]; omega), rfl, q _ I.fresh⟩
end
theorem Sh.L {K : PySem.W.Frag} {F : Addr → Prop} {H : Hp} {v : V} {ds : List D} (h : Sh K F H v (.list ds)) : ∃ a xs, v = .ref a ∧ SqL K H a xs ∧ ShA K F H xs ds := by
  cases h with
  | lst h s => exact ⟨_, _, rfl, h.elim (fun z => .inl z.2) .inr, s⟩
theorem Sh.T {K : PySem.W.Frag} {F : Addr → Prop} {H : Hp} {v : V} {ds : List D} (h : Sh K F H v (.tuple ds)) : ∃ a xs, v = .ref a ∧ SqT K H a xs ∧ ShA K F H xs ds := by
  cases h with
  | tup h s => exact ⟨_, _, rfl, h.elim (fun z => .inl z.2) .inr, s⟩
theorem Sh.cases {K : PySem.W.Frag} {F : Addr → Prop} {H : Hp} {v : V} {d : D} (h : Sh K F H v d) : (d = .none ∧ v = .non) ∨ (∃ b, d = .bool b ∧ v = .bl b) ∨ (∃ i, d = .int i ∧ v = .int i) ∨ (∃ x, d = .str x ∧ v = .str x) ∨ (∃ ds a, d = .list ds ∧ v = .ref a) ∨ (∃ ds a, d = .tuple ds ∧ v = .ref a) ∨ ∃ ds a, d = .dict ds ∧ v = .ref a := by
  cases h with
  | non => exact .inl ⟨rfl, rfl⟩
  | bl b => exact .inr (.inl ⟨b, rfl, rfl⟩)
  | int i => exact .inr (.inr (.inl ⟨i, rfl, rfl⟩))
  | str x => exact .inr (.inr (.inr (.inl ⟨x, rfl, rfl⟩)))
  | lst h s => exact .inr (.inr (.inr (.inr (.inl ⟨_, _, rfl, rfl⟩))))
  | tup h s => exact .inr (.inr (.inr (.inr (.inr (.inl ⟨_, _, rfl, rfl⟩)))))
  | dic n r s => exact .inr (.inr (.inr (.inr (.inr (.inr ⟨_, _, rfl, rfl⟩)))))

/-! ### numbers -/
abbrev I' (i : Int) : R := .val (.int i)
abbrev B' (b : Bool) : R := .val (.bool b)
def fAdd : D → D → Option R
  | .int i, .int j => some (.val (.int (i + j)))
  | .str x, .str y => if x.length + y.length ≤ 16777216 then some (.val (.str (x ++ y))) else none
  | .list xs, .list ys => if xs.length + ys.length ≤ 16777216 then some (.fresh (.lst (xs ++ ys))) else none
  | .tuple xs, .tuple ys => if xs.length + ys.length ≤ 16777216 then some (.val (.tuple (xs ++ ys))) else none
  | _, _ => none
def fSub : D → D → Option R
  | .int i, .int j => some (.val (.int (i - j)))
  | _, _ => none
def mulOk (i j : Int) : Bool := decide (i.natAbs.log2 + j.natAbs.log2 < 1000000) || decide (-(2 ^ 64) < i ∧ i < 2 ^ 64) || decide (-(2 ^ 64) < j ∧ j < 2 ^ 64)
def fMul : D → D → Option R
  | .int i, .int j => if mulOk i j = true then some (.val (.int (i * j))) else none
  | _, _ => none
def divOk (j : Int) : Bool := decide (j ≠ 0 ∧ j.natAbs < 1073741824) || decide (0 < j ∧ j.natAbs.log2 < 9000)
def zdiv (i j : Int) : Int := i.fdiv j
def zmod (i j : Int) : Int := i.fmod j
def fFdiv : D → D → Option R
  | .int i, .int j => if divOk j = true then some (.val (.int (zdiv i j))) else none
  | _, _ => none
def fMod : D → D → Option R
  | .int i, .int j => if j ≠ 0 then some (.val (.int (zmod i j))) else none
  | _, _ => none
def fPow : D → D → Option R
  | .int i, .int j => if 0 ≤ j ∧ j ≤ 1000000 ∧ i.natAbs < 2 ^ 64 then some (.val (.int (i ^ j.toNat))) else none
  | _, _ => none
def fNeg : D → Option R
  | .int i => some (.val (.int (-i)))
  | _ => none
theorem zdiv_pos {i j : Int} (h : 0 < j) : zdiv i j = i / j := Int.fdiv_eq_ediv_of_nonneg i (Int.le_of_lt h)
theorem zmod_pos {i j : Int} (h : 0 < j) : zmod i j = i % j := Int.fmod_eq_emod_of_nonneg i (Int.le_of_lt h)
section
variable {X : Cx}
theorem od_add : OpR X (binaryOp .Add) (rD2 X.K fAdd) := by
  intro pins s σ H x y v u Q I rx ry h
  obtain ⟨F, d, e, r, tr, sx, sy, er, q⟩ := h
  unfold fAdd at er
  split at er
  · cases er
    rw [sx.ofInt] at rx
    rw [sy.ofInt] at ry
    exact op_add pins s σ H _ _ v u Q I rx ry ⟨_, _, rfl, rfl, q _ _ (.refl H) (.int _)⟩
  · split at er
    · rename_i hl
      cases er
      rw [sx.ofStr] at rx
      rw [sy.ofStr] at ry
      exact op_add_str pins s σ H _ _ v u Q I rx ry ⟨_, _, rfl, rfl, line_of hl, q _ _ (.refl H) (.str _)⟩
    · cases er
  · split at er
    · rename_i hl
      cases er
      obtain ⟨a, xs, rfl, ra, sa⟩ := sx.L
      obtain ⟨b, ys, rfl, rb, sb⟩ := sy.L
      exact op_catR pins s σ H _ _ v u Q I rx ry ⟨a, b, xs, ys, rfl, rfl, ra, rb, by rw [sa.length, sb.length]; exact line_of hl, new_lst tr (sa.append sb) q⟩
    · cases er
  · split at er
    · rename_i hl
      cases er
      obtain ⟨a, xs, rfl, ra, sa⟩ := sx.T
      obtain ⟨b, ys, rfl, rb, sb⟩ := sy.T
      refine op_catA pins s σ H _ _ v u Q I rx ry ⟨a, b, xs, ys, rfl, rfl, ra, rb, by rw [sa.length, sb.length]; exact line_of hl, fun e => ?_, fun _ e => ?_, fun _ _ => new_tup tr (sa.append sb) q⟩
      · subst e
        cases sa
        exact q _ _ (.refl H) sy
      · subst e
        cases sb
        refine q _ _ (.refl H) ?_
        rw [List.append_nil]
        exact sx
    · cases er
  · cases er
theorem od_sub : OpR X (binaryOp .Sub) (rD2 X.K fSub) := by
  intro pins s σ H x y v u Q I rx ry h
  obtain ⟨F, d, e, r, tr, sx, sy, er, q⟩ := h
  unfold fSub at er
  split at er
  · cases er
    rw [sx.ofInt] at rx
    rw [sy.ofInt] at ry
    exact op_sub pins s σ H _ _ v u Q I rx ry ⟨_, _, rfl, rfl, q _ _ (.refl H) (.int _)⟩
  · cases er
theorem od_mul : OpR X (binaryOp .Mult) (rD2 X.K fMul) := by
  intro pins s σ H x y v u Q I rx ry h
  obtain ⟨F, d, e, r, tr, sx, sy, er, q⟩ := h
  unfold fMul at er
  split at er
  · split at er
    · rename_i hm
      cases er
      rw [sx.ofInt] at rx
      rw [sy.ofInt] at ry
      unfold mulOk at hm
      simp only [Bool.or_eq_true, decide_eq_true_eq] at hm
      rcases hm with (hm | hm) | hm
      · exact op_mulW pins s σ H _ _ v u Q I rx ry ⟨_, _, rfl, rfl, hm, q _ _ (.refl H) (.int _)⟩
      · exact op_mul pins s σ H _ _ v u Q I rx ry ⟨_, _, rfl, rfl, .inl hm, q _ _ (.refl H) (.int _)⟩
      · exact op_mul pins s σ H _ _ v u Q I rx ry ⟨_, _, rfl, rfl, .inr hm, q _ _ (.refl H) (.int _)⟩
    · cases er
  · cases er
theorem od_fdiv : OpR X (binaryOp .FloorDiv) (rD2 X.K fFdiv) := by
  intro pins s σ H x y v u Q I rx ry h
  obtain ⟨F, d, e, r, tr, sx, sy, er, q⟩ := h
  unfold fFdiv at er
  split at er
  · split at er
    · rename_i hm
      cases er
      rw [sx.ofInt] at rx
      rw [sy.ofInt] at ry
      unfold divOk at hm
      simp only [Bool.or_eq_true, decide_eq_true_eq] at hm
      rcases hm with hm | hm
      · exact op_fdivN pins s σ H _ _ v u Q I rx ry ⟨_, _, rfl, rfl, hm, q _ _ (.refl H) (.int _)⟩
      · refine op_fdivW pins s σ H _ _ v u Q I rx ry ⟨_, _, rfl, rfl, hm, ?_⟩
        rw [zdiv_pos hm.1] at q
        exact q _ _ (.refl H) (.int _)
    · cases er
  · cases er
theorem od_mod : OpR X (binaryOp .Mod) (rD2 X.K fMod) := by
  intro pins s σ H x y v u Q I rx ry h
  obtain ⟨F, d, e, r, tr, sx, sy, er, q⟩ := h
  unfold fMod at er
  split at er
  · split at er
    · rename_i hm
      cases er
      rw [sx.ofInt] at rx
      rw [sy.ofInt] at ry
      exact op_modN pins s σ H _ _ v u Q I rx ry ⟨_, _, rfl, rfl, hm, q _ _ (.refl H) (.int _)⟩
    · cases er
  · cases er
theorem od_pow : OpR X (binaryOp .Pow) (rD2 X.K fPow) := by
  intro pins s σ H x y v u Q I rx ry h
  obtain ⟨F, d, e, r, tr, sx, sy, er, q⟩ := h
  unfold fPow at er
  split at er
  · split at er
    · rename_i hm
      cases er
      rw [sx.ofInt] at rx
      rw [sy.ofInt] at ry
      exact op_pow pins s σ H _ _ v u Q I rx ry ⟨_, _, rfl, rfl, hm, q _ _ (.refl H) (.int _)⟩
    · cases er
  · cases er
theorem ud_neg : UnR X (unaryOp .USub) (rD1 X.K fNeg) := by
  intro pins s σ H x v Q I rx h
  obtain ⟨F, d, r, tr, sx, er, q⟩ := h
  unfold fNeg at er
  split at er
  · cases er
    rw [sx.ofInt] at rx
    exact un_neg pins s σ H _ v Q I rx ⟨_, rfl, q _ _ (.refl H) (.int _)⟩
  · cases er
end

/-! ### comparisons -/
def vOf : D → V
  | .none => .non
  | .bool b => .bl b
  | .int i => .int i
  | .str x => .str x
  | _ => .ty ""
def eqOk (x y : D) : Bool := scal (vOf x) (vOf y) || (SeqAt.shaped x && SeqAt.shaped y)
def fEq (x y : D) : Option R := if eqOk x y = true then some (.val (.bool (PyData.eqv x y))) else none
def fNe (x y : D) : Option R := if eqOk x y = true then some (.val (.bool (!PyData.eqv x y))) else none
def cmpI (p : Int → Int → Bool) : D → D → Option R
  | .int i, .int j => some (.val (.bool (p i j)))
  | _, _ => none
def fLt : D → D → Option R := cmpI fun i j => decide (i < j)
def fLe : D → D → Option R := cmpI fun i j => decide (i ≤ j)
def fGt : D → D → Option R := cmpI fun i j => decide (j < i)
def fGe : D → D → Option R := cmpI fun i j => decide (j ≤ i)
def isNon : D → Bool
  | .none => true
  | _ => false
def fIs (x y : D) : Option R := if isNon y = true then some (.val (.bool (isNon x))) else none
def fIsNot (x y : D) : Option R := if isNon y = true then some (.val (.bool (!isNon x))) else none
mutual
theorem Sh.noD {K : PySem.W.Frag} {F : Addr → Prop} {H : Hp} : ∀ (d : D) (v : V), Sh K F H v d → PyData.canLay0 d = true → Dp K H v d
  | .none, _, .non, _ => .non
  | .bool b, _, .bl _, _ => .bl b
  | .int i, _, .int _, _ => .int i
  | .str x, _, .str _, _ => .str x
  | .list ds, _, .lst r s, h => .lst (r.elim (fun z => .inl z.2) .inr) (ShA.noD ds _ s (by simpa [PyData.canLay0] using h))
  | .tuple ds, _, .tup r s, h => .tup (r.elim (fun z => .inl z.2) .inr) (ShA.noD ds _ s (by simpa [PyData.canLay0] using h))
  | .dict ds, _, .dic _ _ _, h => by simp [PyData.canLay0] at h
theorem ShA.noD {K : PySem.W.Frag} {F : Addr → Prop} {H : Hp} : ∀ (ds : List D) (vs : List V), ShA K F H vs ds → PyData.canLayAll0 ds = true → DpAll K H vs ds
  | [], _, .nil, _ => .nil
  | d :: ds, _, .cons h s, q => .cons (Sh.noD d _ h (by simp [PyData.canLayAll0] at q; exact q.1)) (ShA.noD ds _ s (by simp [PyData.canLayAll0] at q; exact q.2))
end

theorem vOf_sh {K : PySem.W.Frag} {F : Addr → Prop} {H : Hp} {v w : V} {d e : D} (h : Sh K F H v d) (h' : Sh K F H w e) (q : scal (vOf d) (vOf e) = true) : v = vOf d ∧ w = vOf e := by
  constructor
  · cases h <;> first | rfl | (simp [vOf, scal] at q)
  · cases h' <;> first | rfl | (cases d <;> simp [vOf, scal] at q)
theorem eqv_sc {d e : D} (q : scal (vOf d) (vOf e) = true) : decide (vOf d = vOf e) = PyData.eqv d e := by
  cases d <;> cases e <;> simp [vOf, scal, PyData.eqv] at q ⊢
  all_goals (rw [Bool.eq_iff_iff]; simp)
section
variable {X : Cx}
theorem od_eq (hu : X.A.units + 64 < cLine) : OpR X (compareOp .Eq) (rD2 X.K fEq) := by
  intro pins s σ H x y v u Q I rx ry h
  obtain ⟨F, d, e, r, tr, sx, sy, er, q⟩ := h
  unfold fEq at er
  split at er
  · rename_i hm
    cases er
    unfold eqOk at hm
    rw [Bool.or_eq_true] at hm
    rcases hm with hm | hm
    · obtain ⟨e1, e2⟩ := vOf_sh sx sy hm
      subst e1
      subst e2
      exact op_eq pins s σ H _ _ v u Q I rx ry ⟨hm, by rw [eqv_sc hm]; exact q _ _ (.refl H) (.bl _)⟩
    · rw [Bool.and_eq_true] at hm
      exact op_eqD hu pins s σ H _ _ v u Q I rx ry ⟨d, e, Sh.noD _ _ sx (SeqAt.canLay_of_shaped hm.1), Sh.noD _ _ sy (SeqAt.canLay_of_shaped hm.2), hm.1, hm.2, q _ _ (.refl H) (.bl _)⟩
  · cases er
theorem od_ne (hu : X.A.units + 64 < cLine) : OpR X (compareOp .NotEq) (rD2 X.K fNe) := by
  intro pins s σ H x y v u Q I rx ry h
  obtain ⟨F, d, e, r, tr, sx, sy, er, q⟩ := h
  unfold fNe at er
  split at er
  · rename_i hm
    cases er
    unfold eqOk at hm
    rw [Bool.or_eq_true] at hm
    rcases hm with hm | hm
    · obtain ⟨e1, e2⟩ := vOf_sh sx sy hm
      subst e1
      subst e2
      exact op_ne pins s σ H _ _ v u Q I rx ry ⟨hm, by rw [eqv_sc hm]; exact q _ _ (.refl H) (.bl _)⟩
    · rw [Bool.and_eq_true] at hm
      exact op_neD hu pins s σ H _ _ v u Q I rx ry ⟨d, e, Sh.noD _ _ sx (SeqAt.canLay_of_shaped hm.1), Sh.noD _ _ sy (SeqAt.canLay_of_shaped hm.2), hm.1, hm.2, q _ _ (.refl H) (.bl _)⟩
  · cases er
theorem od_cmpI {op : CmpOp} {p : Int → Int → Bool} (ho : OpR X (compareOp op) (rI0 fun i j => .bl (p i j))) : OpR X (compareOp op) (rD2 X.K (cmpI p)) := by
  intro pins s σ H x y v u Q I rx ry h
  obtain ⟨F, d, e, r, tr, sx, sy, er, q⟩ := h
  unfold cmpI at er
  split at er
  · cases er
    rw [sx.ofInt] at rx
    rw [sy.ofInt] at ry
    exact ho pins s σ H _ _ v u Q I rx ry ⟨_, _, rfl, rfl, q _ _ (.refl H) (.bl _)⟩
  · cases er
theorem od_lt : OpR X (compareOp .Lt) (rD2 X.K fLt) := od_cmpI op_lt
theorem od_le : OpR X (compareOp .LtE) (rD2 X.K fLe) := od_cmpI op_le
theorem od_gt : OpR X (compareOp .Gt) (rD2 X.K fGt) := od_cmpI op_gt
theorem od_ge : OpR X (compareOp .GtE) (rD2 X.K fGe) := od_cmpI op_ge
theorem isNon_sh {K : PySem.W.Frag} {F : Addr → Prop} {H : Hp} {v : V} {d : D} (h : Sh K F H v d) : isNon d = decide (v = .non) := by
  cases h <;> simp [isNon]
theorem od_is : OpR X (compareOp .Is) (rD2 X.K fIs) := by
  intro pins s σ H x y v u Q I rx ry h
  obtain ⟨F, d, e, r, tr, sx, sy, er, q⟩ := h
  unfold fIs at er
  split at er
  · rename_i hm
    cases er
    have e1 := isNon_sh sy
    rw [hm] at e1
    exact op_isN pins s σ H _ _ v u Q I rx ry ⟨of_decide_eq_true e1.symm, by rw [← isNon_sh sx]; exact q _ _ (.refl H) (.bl _)⟩
  · cases er
theorem od_isnot : OpR X (compareOp .IsNot) (rD2 X.K fIsNot) := by
  intro pins s σ H x y v u Q I rx ry h
  obtain ⟨F, d, e, r, tr, sx, sy, er, q⟩ := h
  unfold fIsNot at er
  split at er
  · rename_i hm
    cases er
    have e1 := isNon_sh sy
    rw [hm] at e1
    exact op_notN pins s σ H _ _ v u Q I rx ry ⟨of_decide_eq_true e1.symm, by rw [← isNon_sh sx]; exact q _ _ (.refl H) (.bl _)⟩
  · cases er
end

/-! ### in -/
def flatD : D → Bool
  | .none => true
  | .bool _ => true
  | .int _ => true
  | .str _ => true
  | _ => false
/-- x in a text | a list or tuple of flat things -/
def inD (x : D) (ds : List D) : Bool := ds.any fun y => PyData.eqv y x
def fInB : D → D → Option Bool
  | .str i, .str j => some (!(Builtin.Str.occurrences j i 0 j.length 1).isEmpty)
  | x, .list ds => if flatD x = true ∧ ds.all flatD = true then some (inD x ds) else none
  | x, .tuple ds => if flatD x = true ∧ ds.all flatD = true then some (inD x ds) else none
  | _, _ => none
def fIn (x y : D) : Option R := (fInB x y).map fun b => .val (.bool b)
def fNotIn (x y : D) : Option R := (fInB x y).map fun b => .val (.bool (!b))
section
variable {K : PySem.W.Frag} {F : Addr → Prop} {H : Hp}
theorem flat_sh {v : V} {d : D} (h : Sh K F H v d) : flatV v = flatD d := by cases h <;> rfl
theorem flat_shA : ∀ {vs : List V} {ds : List D}, ShA K F H vs ds → vs.all flatV = ds.all flatD
  | _, _, .nil => rfl
  | _, _, .cons h s => by rw [List.all_cons, List.all_cons, flat_sh h, flat_shA s]
theorem eqV_sh {v w : V} {d e : D} (h : Sh K F H v d) (h' : Sh K F H w e) (f : flatD d = true) (f' : flatD e = true) : eqV v w = PyData.eqv d e := by
  cases h <;> cases h' <;> first | rfl | (simp [flatD] at f) | (simp [flatD] at f')
theorem inV_sh {v : V} {d : D} (h : Sh K F H v d) (f : flatD d = true) : ∀ {vs : List V} {ds : List D}, ShA K F H vs ds → ds.all flatD = true → inV v vs = inD d ds
  | _, _, .nil, _ => rfl
  | _, _, .cons h' s, q => by
    rw [List.all_cons, Bool.and_eq_true] at q
    have ih := inV_sh h f s q.2
    unfold inV inD at ih ⊢
    rw [List.any_cons, List.any_cons, ih, eqV_sh h' h q.1 f]
end
section
variable {X : Cx}
theorem od_in : OpR X (compareOp .In) (rD2 X.K fIn) := by
  intro pins s σ H x y v u Q I rx ry h
  obtain ⟨F, d, e, r, tr, sx, sy, er, q⟩ := h
  unfold fIn at er
  rw [Option.map_eq_some_iff] at er
  obtain ⟨b, eb, rfl⟩ := er
  unfold fInB at eb
  split at eb
  · cases eb
    rw [sx.ofStr] at rx
    rw [sy.ofStr] at ry
    exact op_in_str pins s σ H _ _ v u Q I rx ry ⟨_, _, rfl, rfl, q _ _ (.refl H) (.bl _)⟩
  · split at eb
    · rename_i hf
      cases eb
      obtain ⟨a, xs, rfl, ra, sa⟩ := sy.L
      refine op_in_seq pins s σ H _ _ v u Q I rx ry ⟨a, xs, rfl, .inl ra, by rw [flat_sh sx]; exact hf.1, by rw [flat_shA sa]; exact hf.2, ?_⟩
      rw [if_neg Bool.false_ne_true, inV_sh sx hf.1 sa hf.2]
      exact q _ _ (.refl H) (.bl _)
    · cases eb
  · split at eb
    · rename_i hf
      cases eb
      obtain ⟨a, xs, rfl, ra, sa⟩ := sy.T
      refine op_in_seq pins s σ H _ _ v u Q I rx ry ⟨a, xs, rfl, .inr ra, by rw [flat_sh sx]; exact hf.1, by rw [flat_shA sa]; exact hf.2, ?_⟩
      rw [if_neg Bool.false_ne_true, inV_sh sx hf.1 sa hf.2]
      exact q _ _ (.refl H) (.bl _)
    · cases eb
  · cases eb
theorem od_notin : OpR X (compareOp .NotIn) (rD2 X.K fNotIn) := by
  intro pins s σ H x y v u Q I rx ry h
  obtain ⟨F, d, e, r, tr, sx, sy, er, q⟩ := h
  unfold fNotIn at er
  rw [Option.map_eq_some_iff] at er
  obtain ⟨b, eb, rfl⟩ := er
  unfold fInB at eb
  split at eb
  · cases eb
    rw [sx.ofStr] at rx
    rw [sy.ofStr] at ry
    exact op_notin_str pins s σ H _ _ v u Q I rx ry ⟨_, _, rfl, rfl, q _ _ (.refl H) (.bl _)⟩
  · split at eb
    · rename_i hf
      cases eb
      obtain ⟨a, xs, rfl, ra, sa⟩ := sy.L
      refine op_notIn_seq pins s σ H _ _ v u Q I rx ry ⟨a, xs, rfl, .inl ra, by rw [flat_sh sx]; exact hf.1, by rw [flat_shA sa]; exact hf.2, ?_⟩
      rw [if_pos rfl, inV_sh sx hf.1 sa hf.2]
      exact q _ _ (.refl H) (.bl _)
    · cases eb
  · split at eb
    · rename_i hf
      cases eb
      obtain ⟨a, xs, rfl, ra, sa⟩ := sy.T
      refine op_notIn_seq pins s σ H _ _ v u Q I rx ry ⟨a, xs, rfl, .inr ra, by rw [flat_sh sx]; exact hf.1, by rw [flat_shA sa]; exact hf.2, ?_⟩
      rw [if_pos rfl, inV_sh sx hf.1 sa hf.2]
      exact q _ _ (.refl H) (.bl _)
    · cases eb
  · cases eb
end

/-! ### subscripts, slices -/
def fIx : D → D → Option R
  | .list ds, .int i => (atI ds i).map .val
  | .tuple ds, .int i => (atI ds i).map .val
  | .str z, .int i => if z.length ≤ 16777216 then (atI z.cps.toList i).map fun c => .val (.str ⟨#[c]⟩) else none
  | _, _ => none
theorem atI_sh {K : PySem.W.Frag} {F : Addr → Prop} {H : Hp} {vs : List V} {ds : List D} {i : Int} {d : D} (s : ShA K F H vs ds) (h : atI ds i = some d) : ∃ v, atI vs i = some v ∧ Sh K F H v d := by
  unfold atI at h ⊢
  rw [s.length]
  cases e : ixN ds.length i with
  | none => rw [e] at h; cases h
  | some j =>
    rw [e] at h
    exact s.get h
def rDP2 (K : PySem.W.Frag) (f : D → D → Option R) : R2 := fun x y H Q => ∃ F d e r, (∀ a, F a → H a ≠ none) ∧ Pk K F H x d ∧ Sh K F H y e ∧ f d e = some r ∧ NewOk K F H Q r
section
variable {X : Cx}
theorem ix_p : IxR X (rDP2 X.K fIx) := by
  intro value slice pins s σ H x y v u Q I rx ry h hs
  obtain ⟨F, d, e, r, tr, sx, sy, er, q⟩ := h
  unfold fIx at er
  split at er
  · rw [Option.map_eq_some_iff] at er
    obtain ⟨b, eb, rfl⟩ := er
    obtain ⟨a, xs, rfl, ra, sa⟩ := sx
    obtain ⟨w, ew, sw⟩ := atI_sh sa eb
    exact ix_list value slice pins s σ H _ _ v u Q I rx ry ⟨a, xs, _, w, rfl, sy.ofInt, ra, ew, q _ _ (.refl H) sw⟩ hs
  · rw [Option.map_eq_some_iff] at er
    obtain ⟨b, eb, rfl⟩ := er
    obtain ⟨a, xs, rfl, ra, sa⟩ := Sh.T sx
    obtain ⟨w, ew, sw⟩ := atI_sh sa eb
    exact ix_tup value slice pins s σ H _ _ v u Q I rx ry ⟨a, xs, _, w, rfl, sy.ofInt, ra, ew, q _ _ (.refl H) sw⟩ hs
  · split at er
    · rename_i hl
      rw [Option.map_eq_some_iff] at er
      obtain ⟨b, eb, rfl⟩ := er
      exact ix_str value slice pins s σ H _ _ v u Q I rx ry ⟨_, _, b, Sh.ofStr sx, sy.ofInt, line_of hl, eb, q _ _ (.refl H) (.str _)⟩ hs
    · cases er
  · cases er
theorem ix_d : IxR X (rD2 X.K fIx) := fun value slice pins s σ H x y v u Q I rx ry ⟨F, d, e, r, tr, sx, sy, er, q⟩ hs => ix_p value slice pins s σ H x y v u Q I rx ry ⟨F, d, e, r, tr, sx.pk, sy, er, q⟩ hs
end
/-- x[i], x a name: read at once -/
def eIxV (i : Nat) (mb : Env → Res D) : Env → Res R := fun ρ => bindR (ePk i ρ) fun _ _ => bindR (mb ρ) fun y ρ1 => bindR (ePk i ρ1) fun x ρ2 => optR (fIx x y) ρ2
def cutD (ds : List D) (lo hi : Option Int) : List D := (ds.drop (HT.sIx ds.length 0 lo)).take (HT.sIx ds.length ds.length hi - HT.sIx ds.length 0 lo)
def fSl (x : D) (lo hi : Option Int) : Option R := match x with
  | .list ds => some (.fresh (.lst (cutD ds lo hi)))
  | .tuple ds => some (.val (.tuple (cutD ds lo hi)))
  | .str z => if z.length ≤ 16777216 then some (.val (.str (cutS z lo hi))) else none
  | _ => none
def rSlD (K : PySem.W.Frag) : V → Option Int → Option Int → Hp → VK → Prop := fun x lo hi H Q => ∃ F d r, (∀ a, F a → H a ≠ none) ∧ Pk K F H x d ∧ fSl d lo hi = some r ∧ NewOk K F H Q r
theorem cut_sh {K : PySem.W.Frag} {F : Addr → Prop} {H : Hp} {vs : List V} {ds : List D} {lo hi : Option Int} (s : ShA K F H vs ds) : ShA K F H (cutV vs lo hi) (cutD ds lo hi) := by
  unfold cutV cutD
  rw [s.length]
  exact (s.drop _).take _
section
variable {X : Cx}
theorem sl_d : L2.SlR X (rSlD X.K) := by
  intro pins s σ H x v vl vu lo hi sl Q I rx hs pl pu h
  obtain ⟨F, d, r, tr, sx, er, q⟩ := h
  unfold fSl at er
  split at er
  · cases er
    obtain ⟨a, xs, rfl, ra, sa⟩ := sx
    exact sl_list pins s σ H _ v vl vu lo hi sl Q I rx hs pl pu ⟨a, xs, rfl, ra, new_lst tr (cut_sh sa) q⟩
  · rename_i ds
    cases er
    obtain ⟨a, xs, rfl, ra, sa⟩ := Sh.T sx
    refine sl_tupA pins s σ H _ v vl vu lo hi sl Q I rx hs pl pu ⟨a, xs, rfl, ra, fun hw => ?_, fun _ => new_tup tr (cut_sh sa) q⟩
    have e : cutD ds lo hi = ds := by
      unfold cutD
      rw [← sa.length, hw.1, hw.2, List.drop_zero, Nat.sub_zero, sa.length, List.take_length]
    refine q _ _ (.refl H) ?_
    rw [e]
    exact sx
  · split at er
    · rename_i hl
      cases er
      exact sl_str pins s σ H _ v vl vu lo hi sl Q I rx hs pl pu ⟨_, Sh.ofStr sx, line_of hl, q _ _ (.refl H) (.str _)⟩
    · cases er
  · cases er
variable {C : Ctx} {W : WX} {e b : Expr} {ma mb : Env → Res D} {pos p2 : Pos}
def oNone : Env → Res (Option Int) := fun ρ => .ok none ρ
def asI : D → Option (Option Int)
  | .int i => some (some i)
  | _ => none
def oSome (m : Env → Res D) : Env → Res (Option Int) := fun ρ => bindR (m ρ) fun d ρ1 => optR (asI d) ρ1
theorem jo_none : JO X C W none oNone := PO.imp po_none fun σ H Q ⟨ρ, o, S, q⟩ => q none H o S (.refl _ _) rfl
theorem jo_some (h : JV X C W e ma) : JO X C W (some e) (oSome ma) := PO.imp (po_some h) fun σ H Q ⟨ρ, o, S, h⟩ => by
  obtain ⟨ρ0, o0, S0, h0⟩ := stepV (Rl := Sh X.K) S h
  refine ⟨ρ0, o0, S0, h0.imp (fun d ρ1 z v H1 o1 S1 t1 s1 => ?_) fun _ _ z => z⟩
  obtain ⟨ρ1', o1', d', S1', T1, s1', q1⟩ := z v H1 o1 S1 t1 s1
  cases d' with
  | int i => exact ⟨i, s1'.ofInt, q1 (some i) H1 o1' S1' (.refl _ _) rfl⟩
  | _ => exact q1.elim
/-- a slice: the whole is read behind its bounds; x a name | any value -/
def eSlV (i : Nat) (ml mh : Env → Res (Option Int)) : Env → Res R := fun ρ => bindR (ePk i ρ) fun _ _ => bindR (ml ρ) fun lo ρ1 => bindR (mh ρ1) fun hi ρ2 => bindR (ePk i ρ2) fun x ρ3 => optR (fSl x lo hi) ρ3
def eSl (m : Env → Res D) (ml mh : Env → Res (Option Int)) : Env → Res R := fun ρ => bindR (m ρ) fun x ρ0 => bindR (ml ρ0) fun lo ρ1 => bindR (mh ρ1) fun hi ρ2 => optR (fSl x lo hi) ρ2
/-- what a slot holds, for one who knows its value -/
theorem pk_at {i : Nat} {ρ : Env} {o : Nat → List Addr} {σ : St} {H : Hp} {v : V} {γ : Type} {Ok : γ → Env → Prop} {Ex : Str → Env → Prop} {k : D → Env → Res γ} (S : SRo X.K C o ρ σ H) (hv : σ[i]? = some (some v)) (h : PoG Ok Ex (bindR (ePk i ρ) k)) : ∃ d, Pk X.K (FF C.B o) H v d ∧ PoG Ok Ex (k d ρ) := by
  have z := S.slot i
  unfold ePk at h
  cases g : gS ρ i with
  | emp => rw [g] at h; exact h.elim
  | val d =>
    rw [g] at h z
    obtain ⟨_, w, ew, s⟩ := z
    rw [ew] at hv; cases hv
    exact ⟨d, s.pk, h⟩
  | own c =>
    rw [g] at h z
    obtain ⟨w, ew, s⟩ := z
    rw [ew] at hv; cases hv
    exact ⟨c.toD, s.pk, h⟩
  | bor c =>
    rw [g] at h z
    rw [z.1] at hv; cases hv
    exact ⟨c.toD, z.2.pk, h⟩
theorem val_at {i : Nat} {ρ : Env} {o : Nat → List Addr} {σ : St} {H : Hp} {γ : Type} {Ok : γ → Env → Prop} {Ex : Str → Env → Prop} {rr : Res γ} (S : SRo X.K C o ρ σ H) (h : PoG Ok Ex (bindR (ePk i ρ) fun _ _ => rr)) : ∃ v, σ[i]? = some (some v) ∧ PoG Ok Ex rr := by
  have z := S.slot i
  unfold ePk at h
  cases g : gS ρ i with
  | emp => rw [g] at h; exact h.elim
  | val d => rw [g] at h z; exact ⟨_, z.2.choose_spec.1, h⟩
  | own c => rw [g] at h z; exact ⟨_, z.choose_spec.1, h⟩
  | bor c => rw [g] at h z; exact ⟨_, z.1, h⟩
theorem je_ixV {i : Nat} (ha : PE X e (tVar i)) (hb : JV X C W b mb) (hs : PlainIx b) : JE X C W (.Subscript e b pos) (eIxV i mb) :=
  PE.imp (pe_ix ix_p ha hb hs) fun σ H Q ⟨ρ, o, S, h⟩ => by
    unfold eIxV at h
    obtain ⟨v, hv, h⟩ := val_at S h
    refine ⟨v, hv, ?_⟩
    obtain ⟨ρ0, o0, S0, h0⟩ := stepE (Rl := Sh X.K) S h
    refine ⟨ρ0, o0, S0, h0.imp (fun d ρ1 z v1 H1 o1 S1 t1 s1 => ?_) fun _ _ z => z⟩
    obtain ⟨ρ1', o1', d', S1', T1, s1', q1⟩ := z v1 H1 o1 S1 t1 s1
    obtain ⟨dx, pk, q2⟩ := pk_at S1' hv q1
    obtain ⟨r, er, q⟩ := optE q2
    exact ⟨FF C.B o1', dx, d', r, S1'.tr, pk, s1', er, newOk S1' q⟩
theorem je_slV {i : Nat} {lo hi : Option Expr} {ml mh : Env → Res (Option Int)} (ha : PE X e (tVar i)) (hl : JO X C W lo ml) (hh : JO X C W hi mh) : JE X C W (.Subscript e (.Slice lo hi none p2) pos) (eSlV i ml mh) :=
  PE.imp (pe_slice sl_d ha hl hh) fun σ H Q ⟨ρ, o, S, h⟩ => by
    unfold eSlV at h
    obtain ⟨v, hv, h⟩ := val_at S h
    refine ⟨v, hv, ?_⟩
    obtain ⟨ρ0, o0, S0, h0⟩ := stepE (Rl := RlO) S h
    refine ⟨ρ0, o0, S0, h0.imp (fun d ρ1 z v1 H1 o1 S1 t1 s1 => ?_) fun _ _ z => z⟩
    obtain ⟨ρ1', o1', d', S1', T1, s1', q1⟩ := z v1 H1 o1 S1 t1 s1
    obtain ⟨ρ2, o2, S2, h2⟩ := stepE (Rl := RlO) S1' q1
    refine ⟨ρ2, o2, S2, h2.imp (fun d ρ1 z v2 H1 o1 S1 t1 s2 => ?_) fun _ _ z => z⟩
    obtain ⟨ρ3', o3', d3', S3', T3, s3', q3⟩ := z v2 H1 o1 S1 t1 s2
    have e1 : v1 = d' := s1'
    have e2 : v2 = d3' := s3'
    subst e1
    subst e2
    obtain ⟨dx, pk, q2⟩ := pk_at S3' hv q3
    obtain ⟨r, er, q⟩ := optE q2
    exact ⟨FF C.B o3', dx, r, S3'.tr, pk, er, newOk S3' q⟩
theorem je_sl {lo hi : Option Expr} {ml mh : Env → Res (Option Int)} (ha : JV X C W e ma) (hl : JO X C W lo ml) (hh : JO X C W hi mh) : JE X C W (.Subscript e (.Slice lo hi none p2) pos) (eSl ma ml mh) :=
  PE.imp (pe_slice sl_d ha hl hh) fun σ H Q ⟨ρ, o, S, h⟩ => by
    obtain ⟨ρ00, o00, S00, h00⟩ := stepE (Rl := Sh X.K) S h
    refine ⟨ρ00, o00, S00, h00.imp (fun d ρ1 z v H1 o1 S1 t1 s1 => ?_) fun _ _ z => z⟩
    obtain ⟨ρ0', o0', d0', S0', T0, s0', q0⟩ := z v H1 o1 S1 t1 s1
    obtain ⟨ρ0, o0, S0, h0⟩ := stepE (Rl := RlO) S0' q0
    refine ⟨ρ0, o0, S0, h0.imp (fun d ρ1 z v1 H1 o1 S1 t1 s1 => ?_) fun _ _ z => z⟩
    obtain ⟨ρ1', o1', d', S1', T1, s1', q1⟩ := z v1 H1 o1 S1 t1 s1
    obtain ⟨ρ2, o2, S2, h2⟩ := stepE (Rl := RlO) S1' q1
    refine ⟨ρ2, o2, S2, h2.imp (fun d ρ1 z v2 H1 o1 S1 t1 s2 => ?_) fun _ _ z => z⟩
    obtain ⟨ρ3', o3', d3', S3', T3, s3', q3⟩ := z v2 H1 o1 S1 t1 s2
    have e1 : v1 = d' := s1'
    have e2 : v2 = d3' := s3'
    subst e1
    subst e2
    obtain ⟨r, er, q⟩ := optE q3
    exact ⟨FF C.B o3', d0', r, S3'.tr, ((s0'.tx T1).tx T3).pk, er, newOk S3' q⟩
/-- a comparison of three -/
theorem je_chain {op op' : CmpOp} {f g : D → D → Option R} {c : Expr} {mc : Env → Res D} (ho : OpR X (compareOp op) (rD2 X.K f)) (ho' : OpR X (compareOp op') (rD2 X.K g)) (ha : JV X C W e ma) (hb : JV X C W b mb) (hc : JV X C W c mc)
    (hm : lastMarks [op, op'] [b, c] = false := by with_unfolding_all rfl) : JE X C W (.Compare e [op, op'] [b, c] pos) (eChain f g ma mb mc) :=
  PE.imp (pe_chain ho ho' ha hb hc hm) fun σ H Q ⟨ρ, o, S, h⟩ => by
    obtain ⟨ρ0, o0, S0, h0⟩ := stepE (Rl := Sh X.K) S h
    refine ⟨ρ0, o0, S0, h0.imp (fun d ρ1 z v H1 o1 S1 t1 s1 => ?_) fun _ _ z => z⟩
    obtain ⟨ρ1', o1', d', S1', T1, s1', q1⟩ := z v H1 o1 S1 t1 s1
    obtain ⟨ρ2, o2, S2, h2⟩ := stepE (Rl := Sh X.K) S1' q1
    refine ⟨ρ2, o2, S2, h2.imp (fun d2 ρ3 z2 v2 H2 o3 S3 t3 s3 => ?_) fun _ _ z => z⟩
    obtain ⟨ρ4, o4, d4, S4, T4, s4, q4⟩ := z2 v2 H2 o3 S3 t3 s3
    cases ef : f d' d4 with
    | none => rw [ef] at q4; exact q4.elim
    | some r =>
      rw [ef, optR_some, bindR_ok] at q4
      cases eb : asB r with
      | none => simp only [eb] at q4; exact q4.elim
      | some k =>
        have er := asB_eq eb
        subst er
        refine ⟨FF C.B o4, d', d4, _, S4.tr, s1'.tx T4, s4, ef, fun v' H' sm sh => ⟨k, sh.ofBool, ?_⟩⟩
        cases k with
        | false =>
          simp only [eb] at q4
          rw [if_neg Bool.false_ne_true]
          exact q4 _ H' o4 (S4.keep sm) (.same sm) (.bl false)
        | true =>
          simp only [eb] at q4
          rw [if_pos rfl]
          have S5 := S4.keep sm
          have q5 : PoG (OkE X C o4 σ H' Q) (ExP X C W o4 σ H') (bindR (mc ρ4) fun z ρ5 => optR (g d4 z) ρ5) := q4.imp (fun _ _ => OkE.shift (.same sm)) fun _ _ => ExP.shift (.same sm)
          obtain ⟨ρ6, o6, S6, h6⟩ := stepE (Rl := Sh X.K) S5 q5
          refine ⟨ρ6, o6, S6, h6.imp (fun d6 ρ7 z7 v7 H7 o7 S7 t7 s7 => ?_) fun _ _ z => z⟩
          obtain ⟨ρ8, o8, d8, S8, T8, s8, q8⟩ := z7 v7 H7 o7 S7 t7 s7
          obtain ⟨r, er, q⟩ := optE q8
          exact ⟨FF C.B o8, d4, d8, r, S8.tr, (s4.tx (.same sm)).tx T8, s8, er, newOk S8 q⟩
end
end Dn
set_option Elab.async false
set_option linter.all false
set_option maxRecDepth 100000
set_option maxHeartbeats 2000000
/-! Dn7: built-ins of one argument, isinstance, what loops walk, methods of own lists and dicts -/
namespace Dn
open PySem L2

theorem bt_len : bootBuiltins "len" = some (.builtin "len") := by decide +kernel
theorem bt_abs : bootBuiltins "abs" = some (.builtin "abs") := by decide +kernel
theorem bt_isi : bootBuiltins "isinstance" = some (.builtin "isinstance") := by decide +kernel
theorem bt_int : bootBuiltins "int" = some (.type "int") := by decide +kernel
theorem bt_str : bootBuiltins "str" = some (.type "str") := by decide +kernel
theorem bt_bool : bootBuiltins "bool" = some (.type "bool") := by decide +kernel
theorem bt_list : bootBuiltins "list" = some (.type "list") := by decide +kernel
theorem bt_tuple : bootBuiltins "tuple" = some (.type "tuple") := by decide +kernel
theorem bt_dict : bootBuiltins "dict" = some (.type "dict") := by decide +kernel
theorem bt_sum : bootBuiltins "sum" = some (.builtin "sum") := by decide +kernel
theorem bt_min : bootBuiltins "min" = some (.builtin "min") := by decide +kernel
theorem bt_max : bootBuiltins "max" = some (.builtin "max") := by decide +kernel
theorem bt_all : bootBuiltins "all" = some (.builtin "all") := by decide +kernel
theorem bt_any : bootBuiltins "any" = some (.builtin "any") := by decide +kernel
theorem bt_sorted : bootBuiltins "sorted" = some (.builtin "sorted") := by decide +kernel

/-! ### kinds -/
def tyN : D → String
  | .none => "NoneType"
  | .bool _ => "bool"
  | .int _ => "int"
  | .str _ => "str"
  | .list _ => "list"
  | .tuple _ => "tuple"
  | .dict _ => "dict"
def isInt : D → Bool
  | .int _ => true
  | .bool _ => true
  | _ => false
def isBool : D → Bool
  | .bool _ => true
  | _ => false
def isStr : D → Bool
  | .str _ => true
  | _ => false
def isTup : D → Bool
  | .tuple _ => true
  | _ => false
def isLst : D → Bool
  | .list _ => true
  | _ => false
def isDct : D → Bool
  | .dict _ => true
  | _ => false
theorem kit_int : ∀ d : D, kitB (tyN d) "int" = some (isInt d)
  | .none => (by decide +kernel : kitB "NoneType" "int" = some false)
  | .bool _ => (by decide +kernel : kitB "bool" "int" = some true)
  | .int _ => (by decide +kernel : kitB "int" "int" = some true)
  | .str _ => (by decide +kernel : kitB "str" "int" = some false)
  | .list _ => (by decide +kernel : kitB "list" "int" = some false)
  | .tuple _ => (by decide +kernel : kitB "tuple" "int" = some false)
  | .dict _ => (by decide +kernel : kitB "dict" "int" = some false)
theorem kit_bool : ∀ d : D, kitB (tyN d) "bool" = some (isBool d)
  | .none => (by decide +kernel : kitB "NoneType" "bool" = some false)
  | .bool _ => (by decide +kernel : kitB "bool" "bool" = some true)
  | .int _ => (by decide +kernel : kitB "int" "bool" = some false)
  | .str _ => (by decide +kernel : kitB "str" "bool" = some false)
  | .list _ => (by decide +kernel : kitB "list" "bool" = some false)
  | .tuple _ => (by decide +kernel : kitB "tuple" "bool" = some false)
  | .dict _ => (by decide +kernel : kitB "dict" "bool" = some false)
theorem kit_str : ∀ d : D, kitB (tyN d) "str" = some (isStr d)
  | .none => (by decide +kernel : kitB "NoneType" "str" = some false)
  | .bool _ => (by decide +kernel : kitB "bool" "str" = some false)
  | .int _ => (by decide +kernel : kitB "int" "str" = some false)
  | .str _ => (by decide +kernel : kitB "str" "str" = some true)
  | .list _ => (by decide +kernel : kitB "list" "str" = some false)
  | .tuple _ => (by decide +kernel : kitB "tuple" "str" = some false)
  | .dict _ => (by decide +kernel : kitB "dict" "str" = some false)
theorem kit_tuple : ∀ d : D, kitB (tyN d) "tuple" = some (isTup d)
  | .none => (by decide +kernel : kitB "NoneType" "tuple" = some false)
  | .bool _ => (by decide +kernel : kitB "bool" "tuple" = some false)
  | .int _ => (by decide +kernel : kitB "int" "tuple" = some false)
  | .str _ => (by decide +kernel : kitB "str" "tuple" = some false)
  | .list _ => (by decide +kernel : kitB "list" "tuple" = some false)
  | .tuple _ => (by decide +kernel : kitB "tuple" "tuple" = some true)
  | .dict _ => (by decide +kernel : kitB "dict" "tuple" = some false)
theorem kit_list : ∀ d : D, kitB (tyN d) "list" = some (isLst d)
  | .none => (by decide +kernel : kitB "NoneType" "list" = some false)
  | .bool _ => (by decide +kernel : kitB "bool" "list" = some false)
  | .int _ => (by decide +kernel : kitB "int" "list" = some false)
  | .str _ => (by decide +kernel : kitB "str" "list" = some false)
  | .list _ => (by decide +kernel : kitB "list" "list" = some true)
  | .tuple _ => (by decide +kernel : kitB "tuple" "list" = some false)
  | .dict _ => (by decide +kernel : kitB "dict" "list" = some false)
theorem kit_dict : ∀ d : D, kitB (tyN d) "dict" = some (isDct d)
  | .none => (by decide +kernel : kitB "NoneType" "dict" = some false)
  | .bool _ => (by decide +kernel : kitB "bool" "dict" = some false)
  | .int _ => (by decide +kernel : kitB "int" "dict" = some false)
  | .str _ => (by decide +kernel : kitB "str" "dict" = some false)
  | .list _ => (by decide +kernel : kitB "list" "dict" = some false)
  | .tuple _ => (by decide +kernel : kitB "tuple" "dict" = some false)
  | .dict _ => (by decide +kernel : kitB "dict" "dict" = some true)
section
variable {K : PySem.W.Frag} {F : Addr → Prop} {H : Hp}
theorem rd_tyL {a : Addr} {xs : List V} (r : SqL K H a xs) : TyX K H (.ref a) (.type "list") := by
  rcases r with (r | ⟨o, r⟩) | ⟨o, its, n, hk, hc, _⟩
  · exact .base (.lst r)
  · exact .base (.frz r)
  · exact .kList hk hc
theorem rd_tyD {a : Addr} {xs : List (Key × V)} (r : Rd H a (.dK xs)) : TyX K H (.ref a) (.type "dict") := by
  rcases r with r | ⟨o, r⟩
  · exact .base (.dK r)
  · exact .fDict r
theorem TyX.keep {K : PySem.W.Frag} {H H' : Hp} {v : V} {t : Value} (sm : Same H H') (ty : TyX K H v t) : TyX K H' v t := by
  cases ty with
  | base h => cases h with
    | non => exact .base .non
    | bl b => exact .base (.bl b)
    | int i => exact .base (.int i)
    | str i => exact .base (.str i)
    | flt i => exact .base (.flt i)
    | lst r => exact .base (.lst (sm _ _ r))
    | frz r => exact .base (.frz (sm _ _ r))
    | tup r => exact .base (.tup (sm _ _ r))
    | dK r => exact .base (.dK (sm _ _ r))
    | dT r => exact .base (.dT (sm _ _ r))
    | ins r a b c d e => exact .base (.ins (sm _ _ r) a b c d e)
  | byt b => exact .byt b
  | set r => exact .set (sm _ _ r)
  | kList e c => exact .kList e c
  | kTuple e c => exact .kTuple e c
  | kDict e c => exact .kDict e c
  | fTuple r => exact .fTuple (sm _ _ r)
  | fDict r => exact .fDict (sm _ _ r)
theorem pk_ty {v : V} {d : D} (h : Pk K F H v d) : TyX K H v (.type (tyN d)) := by
  cases d with
  | none => cases h; exact .base .non
  | bool b => cases h; exact .base (.bl b)
  | int i => cases h; exact .base (.int i)
  | str x => cases h; exact .base (.str x)
  | list ds =>
    obtain ⟨a, xs, rfl, r, s⟩ := h
    exact rd_tyL r
  | dict ds =>
    obtain ⟨a, xs, rfl, r, s⟩ := h
    exact rd_tyD r
  | tuple ds =>
    have h : Sh K F H v (.tuple ds) := h
    cases h with
    | tup hh s =>
      rcases hh with ⟨n, r⟩ | ⟨o, its, n, hk, hc, _⟩
      · rcases r with r | ⟨o, r⟩
        · exact .base (.tup r)
        · exact .fTuple r
      · exact .kTuple hk hc
end
section
variable {X : Cx} {C : Ctx} {W : WX} {e b : Expr} {ma mb : Env → Res D} {pos p p1 p2 : Pos}
def fP (q : D → Bool) : D → Option R := fun d => some (.val (.bool (q d)))
/-- isinstance(e, T) -/
theorem je_isi {T : Str} {T' : String} {q : D → Bool} (hq : ∀ d, kitB (tyN d) T' = some (q d)) (hv : bootBuiltins T = some (.type T')) (hm : X.mg "isinstance" = none) (hmT : X.mg T = none) (ha : JP X C W e ma) (hg : Gl X "isinstance") (hgT : Gl X T)
    (hnT : T ≠ "__name__" := by decide) (hdT : (T == ("__debug__" : Str)) = false := by decide) (hs1 : starEach [.Name T p1] X.env = (false, eval (.Name T p1) X.env) :: starEach [] X.env := by rfl)
    (hs : starEach (e :: [.Name T p1]) X.env = (false, eval e X.env) :: starEach [.Name T p1] X.env := by rfl) (hpl : (backTo pos (starEach [.Name T p1] X.env)).any (·.1) = false := by rfl) :
    JE X C W (.Call (.Name "isinstance" p) [e, .Name T p1] [] pos) (eOp1 (fP q) ma) :=
  PE.imp (pe_callB call_isi hg hm bt_isi (pa_cons ha (pa_cons (pe_bltn (v := .ty T') hgT hmT hv rfl hnT hdT) pa_nil hs1) hs) (by decide) (by decide) hs hpl) fun σ H Q ⟨ρ, o, S, h⟩ => by
    obtain ⟨ρ0, o0, S0, h0⟩ := stepE (Rl := Pk X.K) S h
    refine ⟨ρ0, o0, S0, h0.imp (fun d ρ1 z v H1 o1 S1 t1 s1 => ?_) fun _ _ z => z⟩
    obtain ⟨ρ1', o1', d', S1', T1, s1', q1⟩ := z v H1 o1 S1 t1 s1
    exact ⟨v, .ty T', .type (tyN d'), .type T', q d', rfl, .ty T', pk_ty s1', kit_ty (hq d'), (newOk (r := .val (.bool (q d'))) S1' q1) _ _ (.refl _) (.bl _)⟩
/-- isinstance(e, (T, U)) -/
theorem je_isi2 {T U : Str} {T' U' : String} {q r : D → Bool} {k : Nat} {pt : Pos} (hq : ∀ d, kitB (tyN d) T' = some (q d)) (hr : ∀ d, kitB (tyN d) U' = some (r d)) (hv : bootBuiltins T = some (.type T')) (hu : bootBuiltins U = some (.type U')) (hm : X.mg "isinstance" = none) (hmT : X.mg T = none) (hmU : X.mg U = none) (ha : JP X C W e ma) (hg : Gl X "isinstance") (hgT : Gl X T) (hgU : Gl X U)
    (hnT : T ≠ "__name__" := by decide) (hdT : (T == ("__debug__" : Str)) = false := by decide) (hnU : U ≠ "__name__" := by decide) (hdU : (U == ("__debug__" : Str)) = false := by decide) (hsU : starEach [.Name U p2] X.env = (false, eval (.Name U p2) X.env) :: starEach [] X.env := by rfl)
    (hsT : starEach [.Name T p1, .Name U p2] X.env = (false, eval (.Name T p1) X.env) :: starEach [.Name U p2] X.env := by rfl)
    (hs1 : starEach [.Tuple [.Name T p1, .Name U p2] k pt] X.env = (false, eval (.Tuple [.Name T p1, .Name U p2] k pt) X.env) :: starEach [] X.env := by rfl)
    (hs : starEach (e :: [.Tuple [.Name T p1, .Name U p2] k pt]) X.env = (false, eval e X.env) :: starEach [.Tuple [.Name T p1, .Name U p2] k pt] X.env := by rfl) (hpl : (backTo pos (starEach [.Tuple [.Name T p1, .Name U p2] k pt] X.env)).any (·.1) = false := by rfl) :
    JE X C W (.Call (.Name "isinstance" p) [e, .Tuple [.Name T p1, .Name U p2] k pt] [] pos) (eOp1 (fP fun d => q d || r d) ma) :=
  PE.imp (pe_callB call_isiT hg hm bt_isi (pa_cons ha (pa_cons (pe_tup (pa_cons (pe_bltn (v := .ty T') hgT hmT hv rfl hnT hdT) (pa_cons (pe_bltn (v := .ty U') hgU hmU hu rfl hnU hdU) pa_nil hsU) hsT)) pa_nil hs1) hs) (by decide) (by decide) hs hpl) fun σ H Q ⟨ρ, o, S, h⟩ => by
    obtain ⟨ρ0, o0, S0, h0⟩ := stepE (Rl := Pk X.K) S h
    refine ⟨ρ0, o0, S0, h0.imp (fun d ρ1 z v H1 o1 S1 t1 s1 => ?_) fun _ _ z => z⟩
    obtain ⟨ρ1', o1', d', S1', T1, s1', q1⟩ := z v H1 o1 S1 t1 s1
    refine ⟨line_of (by show 2 ≤ 16777216; decide), fun tp htp => ⟨v, tp, [.ty T', .ty U'], .type (tyN d'), [.type T', .type U'], q d' || r d', rfl, upd_same, .cons (.ty T') (.cons (.ty U') .nil), ?_, ?_, (newOk (r := .val (.bool (q d' || r d'))) S1' q1) _ _ (same_new htp) (.bl _)⟩⟩
    · exact TyX.keep (same_new htp) (pk_ty s1')
    · exact kitAny_cons (kit_ty (hq d')) (fun hb => by
        rw [hb, Bool.false_or]
        exact kitAny_cons (kit_ty (hr d')) (fun hb => by rw [hb]; rfl) fun hb => by rw [hb]) fun hb => by rw [hb]; rfl

/-! ### one argument -/
def fLen : D → Option R
  | .list ds => some (.val (.int ds.length))
  | .tuple ds => some (.val (.int ds.length))
  | .str z => if z.length ≤ 16777216 then some (.val (.int z.length)) else none
  | .dict ds => some (.val (.int ds.length))
  | _ => none
def fInt : D → Option R
  | .int i => some (.val (.int i))
  | .bool b => some (.val (.int (if b then 1 else 0)))
  | _ => none
def fAbs : D → Option R
  | .int i => some (.val (.int (if i < 0 then -i else i)))
  | _ => none
def fStr : D → Option R
  | .int i => if i.natAbs.log2 < 1920 then some (.val (.str (toString i))) else none
  | _ => none
def fTuple : D → Option R
  | .list ds => some (.val (.tuple ds))
  | .tuple ds => some (.val (.tuple ds))
  | _ => none
def fList : D → Option R
  | .list ds => some (.fresh (.lst ds))
  | .tuple ds => some (.fresh (.lst ds))
  | _ => none
theorem ShK.length {K : PySem.W.Frag} {F : Addr → Prop} {H : Hp} : ∀ {vs : List (Key × V)} {ds : List (D × D)}, ShK K F H vs ds → vs.length = ds.length
  | _, _, .nil => rfl
  | _, _, .cons _ s => by rw [List.length_cons, List.length_cons, ShK.length s]
theorem Pk.int {K : PySem.W.Frag} {F : Addr → Prop} {H : Hp} {v : V} {i : Int} (h : Pk K F H v (.int i)) : v = .int i := Sh.ofInt h
theorem Pk.bool {K : PySem.W.Frag} {F : Addr → Prop} {H : Hp} {v : V} {i : Bool} (h : Pk K F H v (.bool i)) : v = .bl i := Sh.ofBool h
theorem Pk.str {K : PySem.W.Frag} {F : Addr → Prop} {H : Hp} {v : V} {i : Str} (h : Pk K F H v (.str i)) : v = .str i := Sh.ofStr h
theorem Pk.tup {K : PySem.W.Frag} {F : Addr → Prop} {H : Hp} {v : V} {ds : List D} (h : Pk K F H v (.tuple ds)) : ∃ a xs, v = .ref a ∧ SqT K H a xs ∧ ShA K F H xs ds := Sh.T h
theorem cr_len : CallR X (.builtin "len") (rP1 X.K fLen) := by
  intro pins s σ H xs us Q I r h
  obtain ⟨x, F, d, rr, rfl, tr, sx, er, q⟩ := h
  unfold fLen at er
  split at er
  · cases er
    obtain ⟨a, xs, rfl, ra, sa⟩ := sx
    exact call_len pins s σ H _ us Q I r ⟨.ref a, xs.length, rfl, .inl ⟨xs, ra, rfl⟩, by rw [sa.length]; exact q _ _ (.refl H) (.int _)⟩
  · cases er
    obtain ⟨a, xs, rfl, ra, sa⟩ := sx.tup
    exact call_len pins s σ H _ us Q I r ⟨.ref a, xs.length, rfl, .inr ⟨xs, ra, rfl⟩, by rw [sa.length]; exact q _ _ (.refl H) (.int _)⟩
  · split at er
    · rename_i hl
      cases er
      rw [sx.str] at r
      exact call_len pins s σ H _ us Q I r ⟨_, _, rfl, ⟨line_of hl, rfl⟩, q _ _ (.refl H) (.int _)⟩
    · cases er
  · cases er
    obtain ⟨a, xs, rfl, ra, sa⟩ := sx
    obtain ⟨u, rfl, ru⟩ := vals1 r
    cases ru
    exact d_len I ra fun t s' I' => ⟨.int xs.length, H, I', ⟨t, rfl⟩, by rw [sa.length]; exact q _ _ (.refl H) (.int _)⟩
  · cases er
theorem cr_int : CallR X (.type "int") (rP1 X.K fInt) := by
  intro pins s σ H xs us Q I r h
  obtain ⟨x, F, d, rr, rfl, tr, sx, er, q⟩ := h
  unfold fInt at er
  split at er
  · cases er
    rw [sx.int] at r
    exact call_int1 pins s σ H _ us Q I r (.inl ⟨_, rfl, q _ _ (.refl H) (.int _)⟩)
  · cases er
    rw [sx.bool] at r
    exact call_int1 pins s σ H _ us Q I r (.inr ⟨_, rfl, q _ _ (.refl H) (.int _)⟩)
  · cases er
theorem cr_abs : CallR X (.builtin "abs") (rP1 X.K fAbs) := by
  intro pins s σ H xs us Q I r h
  obtain ⟨x, F, d, rr, rfl, tr, sx, er, q⟩ := h
  unfold fAbs at er
  split at er
  · cases er
    rw [sx.int] at r
    exact call_abs pins s σ H _ us Q I r ⟨_, rfl, q _ _ (.refl H) (.int _)⟩
  · cases er
theorem cr_str : CallR X (.type "str") (rP1 X.K fStr) := by
  intro pins s σ H xs us Q I r h
  obtain ⟨x, F, d, rr, rfl, tr, sx, er, q⟩ := h
  unfold fStr at er
  split at er
  · split at er
    · rename_i hl
      cases er
      rw [sx.int] at r
      exact call_str_int pins s σ H _ us Q I r ⟨_, rfl, hl, q _ _ (.refl H) (.str _)⟩
    · cases er
  · cases er
theorem cr_tuple : CallR X (.type "tuple") (rP1 X.K fTuple) := by
  intro pins s σ H xs us Q I r h
  obtain ⟨x, F, d, rr, rfl, tr, sx, er, q⟩ := h
  unfold fTuple at er
  split at er
  · cases er
    obtain ⟨a, xs, rfl, ra, sa⟩ := sx
    exact call_tuple_of pins s σ H _ us Q I r ⟨a, xs, rfl, .inl ⟨ra, new_tup tr sa q⟩⟩
  · cases er
    obtain ⟨a, xs, rfl, ra, sa⟩ := Pk.tup sx
    exact call_tuple_of pins s σ H _ us Q I r ⟨a, xs, rfl, .inr ⟨ra, q _ _ (.refl H) sx⟩⟩
  · cases er
theorem cr_list : CallR X (.type "list") (rP1 X.K fList) := by
  intro pins s σ H xs us Q I r h
  obtain ⟨x, F, d, rr, rfl, tr, sx, er, q⟩ := h
  unfold fList at er
  split at er
  · cases er
    obtain ⟨a, xs, rfl, ra, sa⟩ := sx
    exact call_list_of pins s σ H _ us Q I r ⟨a, xs, rfl, .inl ra, new_lst tr sa q⟩
  · cases er
    obtain ⟨a, xs, rfl, ra, sa⟩ := Pk.tup sx
    exact call_list_of pins s σ H _ us Q I r ⟨a, xs, rfl, .inr ra, new_lst tr sa q⟩
  · cases er

/-! ### truth of any value -/
def truD : D → Option Bool
  | .none => some false
  | .bool b => some b
  | .int i => some (i != 0)
  | .str z => if z.length ≤ 16777216 then some ((z.length : Int) != 0) else none
  | .list ds => some (!ds.isEmpty)
  | .tuple ds => some (!ds.isEmpty)
  | .dict _ => none
def tTru (m : Env → Res D) : Env → Res Bool := fun ρ => bindR (m ρ) fun d ρ1 => optR (truD d) ρ1
theorem isEmpty_sh {K : PySem.W.Frag} {F : Addr → Prop} {H : Hp} {vs : List V} {ds : List D} (s : ShA K F H vs ds) : vs.isEmpty = ds.isEmpty := by cases s <;> rfl
theorem jt_tru (h : JP X C W e ma) (he : ∀ whole, isTrue e X.env whole = (do let v ← whole; standAt e.pos; holding [v] (truthy v)) := by intro _; rfl) : JT X C W e (tTru ma) :=
  PT.imp (pt_truth h he) fun σ H Q ⟨ρ, o, S, h⟩ => by
    obtain ⟨ρ0, o0, S0, h0⟩ := stepV (Rl := Pk X.K) S h
    refine ⟨ρ0, o0, S0, h0.imp (fun d ρ1 z v H1 o1 S1 t1 s1 => ?_) fun _ _ z => z⟩
    obtain ⟨ρ1', o1', d', S1', T1, s1', q1⟩ := z v H1 o1 S1 t1 s1
    have fin : ∀ k, truD d' = some k → Q k H1 := fun k e => by
      rw [e] at q1
      exact q1 k H1 o1' S1' (.refl _ _) rfl
    cases d' with
    | none => rw [Sh.ofNone s1']; exact ⟨false, rfl, fin _ rfl⟩
    | bool b => rw [s1'.bool]; exact ⟨b, rfl, fin _ rfl⟩
    | int i => rw [s1'.int]; exact ⟨_, rfl, fin _ rfl⟩
    | str z =>
      rw [s1'.str]
      by_cases hl : z.length ≤ 16777216
      · exact ⟨_, ⟨line_of hl, rfl⟩, fin _ (if_pos hl)⟩
      · have e0 : truD (.str z) = none := if_neg hl
        rw [e0] at q1; exact q1.elim
    | list ds =>
      obtain ⟨a, xs, rfl, r, s⟩ := s1'
      exact ⟨_, .inl ⟨xs, r, rfl⟩, by rw [isEmpty_sh s]; exact fin _ rfl⟩
    | tuple ds =>
      obtain ⟨a, xs, rfl, r, s⟩ := s1'.tup
      exact ⟨_, .inr (.inl ⟨xs, r, rfl⟩), by rw [isEmpty_sh s]; exact fin _ rfl⟩
    | dict ds => exact q1.elim

/-! ### what is walked -/
def iterD : D → Option (List D)
  | .list ds => some ds
  | .tuple ds => some ds
  | .str z => some (z.cps.toList.map fun c => .str ⟨#[c]⟩)
  | _ => none
def eIt (m : Env → Res D) : Env → Res (List D) := fun ρ => bindR (m ρ) fun d ρ1 => optR (iterD d) ρ1
theorem it_list {K : PySem.W.Frag} {F : Addr → Prop} {H : Hp} {a : Addr} {xs : List V} {ds : List D} (h : (¬ F a ∧ Rd H a (.lst xs)) ∨ SqLK K a xs) (s : ShA K F H xs ds) : ItOk K F H (Itl K a) ds := by
  intro F' H' t tr
  have r' : SqL K H' a xs := h.elim (fun z => .inl (t.rd z.1 z.2).2) .inr
  have s' := s.tx t
  refine ⟨⟨xs, r', by rw [s.length]; exact Nat.le_refl _⟩, fun i d e => ?_⟩
  obtain ⟨v, ev, sv⟩ := s'.get e
  refine ⟨⟨xs, v, r', ev⟩, fun x H2 y => ?_⟩
  obtain ⟨e2, y⟩ := y
  subst e2
  have := y xs r'
  rw [ev] at this
  cases this
  exact ⟨.refl _, sv⟩
theorem it_tup {K : PySem.W.Frag} {F : Addr → Prop} {H : Hp} {a : Addr} {xs : List V} {ds : List D} (h : (¬ F a ∧ Rd H a (.tup xs)) ∨ SqTK K a xs) (s : ShA K F H xs ds) : ItOk K F H (Itt K a) ds := by
  intro F' H' t tr
  have r' : SqT K H' a xs := h.elim (fun z => .inl (t.rd z.1 z.2).2) .inr
  have s' := s.tx t
  refine ⟨⟨xs, r', by rw [s.length]; exact Nat.le_refl _⟩, fun i d e => ?_⟩
  obtain ⟨v, ev, sv⟩ := s'.get e
  refine ⟨⟨xs, v, r', ev⟩, fun x H2 y => ?_⟩
  obtain ⟨e2, y⟩ := y
  subst e2
  have := y xs r'
  rw [ev] at this
  cases this
  exact ⟨.refl _, sv⟩
theorem it_str {K : PySem.W.Frag} {F : Addr → Prop} {H : Hp} {z : Str} : ItOk K F H (Its z) (z.cps.toList.map fun c => .str ⟨#[c]⟩) := by
  intro F' H' t tr
  refine ⟨by show z.cps.size ≤ _; simp, fun i d e => ?_⟩
  rw [List.getElem?_map, Option.map_eq_some_iff] at e
  obtain ⟨c, ec, rfl⟩ := e
  rw [Array.getElem?_toList] at ec
  refine ⟨(Array.getElem?_eq_some_iff.mp ec).1, fun x H2 y => ?_⟩
  obtain ⟨e2, c', ec', rfl⟩ := y
  subst e2
  rw [ec] at ec'
  cases ec'
  exact ⟨.refl _, .str _⟩
variable {tg : Expr}
theorem ji_any (he : JV X C W e ma) : JI X C W tg e (eIt ma) := PI.imp (PI.or (PI.or (pi_list he) (pi_tup he)) (pi_str he)) fun σ H Q ⟨ρ, o, S, h⟩ => by
  unfold eIt at h
  cases em : ma ρ with
  | bad => rw [em] at h; exact h.elim
  | exc c ρ1 => rw [em] at h; exact .inl (.inl ⟨ρ, o, S, by rw [em]; exact h⟩)
  | ok d ρ1 =>
    rw [em, bindR_ok] at h
    cases d with
    | list ds => exact .inl (.inl ⟨ρ, o, S, by
        rw [em]
        intro v H1 o1 S1 t1 s1
        cases s1 with
        | lst r s => exact ⟨_, rfl, ⟨_, r.elim (fun z => .inl z.2) .inr⟩, h _ H1 o1 S1 t1 (it_list r s)⟩⟩)
    | tuple ds => exact .inl (.inr ⟨ρ, o, S, by
        rw [em]
        intro v H1 o1 S1 t1 s1
        cases s1 with
        | tup r s => exact ⟨_, rfl, ⟨_, r.elim (fun z => .inl z.2) .inr⟩, h _ H1 o1 S1 t1 (it_tup r s)⟩⟩)
    | str z => exact .inr ⟨ρ, o, S, by
        rw [em]
        intro v H1 o1 S1 t1 s1
        exact ⟨z, s1.ofStr, h _ H1 o1 S1 t1 it_str⟩⟩
    | _ => exact h.elim
def rgD (lo : Int) (n : Nat) : List D := (List.range n).map fun i => .int (lo + (i : Nat))
theorem it_rg {K : PySem.W.Frag} {F : Addr → Prop} {H : Hp} {lo : Int} {n : Nat} : ItOk K F H (Itr lo n) (rgD lo n) := by
  intro F' H' t tr
  refine ⟨by show n ≤ _; simp [rgD], fun i d e => ?_⟩
  unfold rgD at e
  rw [List.getElem?_map, Option.map_eq_some_iff] at e
  obtain ⟨c, ec, rfl⟩ := e
  have hi : i < n := by
    have := (List.getElem?_eq_some_iff.mp ec).1
    simpa using this
  rw [List.getElem?_range hi] at ec
  cases ec
  refine ⟨hi, fun x H2 y => ?_⟩
  obtain ⟨e2, rfl⟩ := y
  subst e2
  exact ⟨.refl _, .int _⟩
def inB (n : Int) : Bool := decide (-(2 ^ 62) ≤ n ∧ n < 2 ^ 62)
def rg1 : D → Option (List D)
  | .int n => if inB n = true then some (rgD 0 n.toNat) else none
  | _ => none
def rg2 : D → D → Option (List D)
  | .int a, .int b => if inB a = true ∧ inB b = true then some (rgD a (b - a).toNat) else none
  | _, _ => none
def eRg1 (m : Env → Res D) : Env → Res (List D) := fun ρ => bindR (m ρ) fun d ρ1 => optR (rg1 d) ρ1
def eRg2 (m : Env → Res (List D)) : Env → Res (List D) := fun ρ => bindR (m ρ) fun ds ρ1 => match ds with | [a, b] => optR (rg2 a b) ρ1 | _ => .bad
theorem stepI {σ : St} {o : Nat → List Addr} {H : Hp} {α β : Type} {Rl : (Addr → Prop) → Hp → β → α → Prop} {Q : It → Hp → Prop} {m : Env → Res α} {k : α → Env → Res (List D)} {ρ : Env} (S : SRo X.K C o ρ σ H)
    (h : PoG (fun ds ρ' => ∀ J H' o', SRo X.K C o' ρ' σ H' → Tx (FF C.B o) H (FF C.B o') H' → ItOk X.K (FF C.B o') H' J ds → Q J H') (ExP X C W o σ H) (bindR (m ρ) k)) :
    tV X C W Rl m σ H (fun v H1 => ∃ ρ1 o1 d, SRo X.K C o1 ρ1 σ H1 ∧ Tx (FF C.B o) H (FF C.B o1) H1 ∧ Rl (FF C.B o1) H1 v d ∧ PoG (fun ds ρ' => ∀ J H' o', SRo X.K C o' ρ' σ H' → Tx (FF C.B o1) H1 (FF C.B o') H' → ItOk X.K (FF C.B o') H' J ds → Q J H') (ExP X C W o1 σ H1) (k d ρ1)) :=
  step (Ok := fun H o ds ρ' => ∀ J H' o', SRo X.K C o' ρ' σ H' → Tx (FF C.B o) H (FF C.B o') H' → ItOk X.K (FF C.B o') H' J ds → Q J H') S (fun _ _ _ _ t z J H' o' S' t' => z J H' o' S' (t.trans t')) h
theorem ji_rg1 (hm : X.mg "range" = none) (ha : JV X C W e ma) (hg : Gl X "range") (hs : starEach [e] X.env = [(false, eval e X.env)] := by rfl) : JI X C W tg (.Call (.Name "range" p) [e] [] pos) (eRg1 ma) :=
  PI.imp (pi_range1 hg hm (pa_cons ha pa_nil hs) hs) fun σ H Q ⟨ρ, o, S, h⟩ => by
    obtain ⟨ρ0, o0, S0, h0⟩ := stepI (Rl := Sh X.K) S h
    refine ⟨ρ0, o0, S0, h0.imp (fun d ρ1 z v H1 o1 S1 t1 s1 => ?_) fun _ _ z => z⟩
    obtain ⟨ρ1', o1', d', S1', T1, s1', q1⟩ := z v H1 o1 S1 t1 s1
    cases d' with
    | int n =>
      unfold rg1 at q1
      dsimp only at q1
      split at q1
      · rename_i hb
        have hb := of_decide_eq_true hb
        exact ⟨n, by rw [s1'.ofInt], hb.1, hb.2, q1 _ H1 o1' S1' (.refl _ _) it_rg⟩
      · exact q1.elim
    | _ => exact q1.elim
theorem ji_rg2 {m : Env → Res (List D)} (hm : X.mg "range" = none) (ha : JA X C W [e, b] m) (hg : Gl X "range") (hs : starEach [e, b] X.env = [(false, eval e X.env), (false, eval b X.env)] := by rfl) (hs2 : starEach [b] X.env = [(false, eval b X.env)] := by rfl) : JI X C W tg (.Call (.Name "range" p) [e, b] [] pos) (eRg2 m) :=
  PI.imp (pi_range2 hg hm ha hs hs2) fun σ H Q ⟨ρ, o, S, h⟩ => by
    obtain ⟨ρ0, o0, S0, h0⟩ := stepI (Rl := ShA X.K) S h
    refine ⟨ρ0, o0, S0, h0.imp (fun d ρ1 z v H1 o1 S1 t1 s1 => ?_) fun _ _ z => z⟩
    obtain ⟨ρ1', o1', d', S1', T1, s1', q1⟩ := z v H1 o1 S1 t1 s1
    cases s1' with
    | nil => exact q1.elim
    | cons ha s2 =>
      cases s2 with
      | nil => exact q1.elim
      | cons hb s3 =>
        cases s3 with
        | cons _ _ => exact q1.elim
        | nil =>
          rename_i d1 _ d2
          cases d1 with
          | int n1 =>
            cases d2 with
            | int n2 =>
              dsimp only [rg2] at q1
              split at q1
              · rename_i hbb
                have h1 := of_decide_eq_true hbb.1
                have h2 := of_decide_eq_true hbb.2
                exact ⟨n1, n2, by rw [ha.ofInt, hb.ofInt], ⟨h1.1, h1.2, h2.1, h2.2⟩, q1 _ H1 o1' S1' (.refl _ _) it_rg⟩
              · exact q1.elim
            | _ => exact q1.elim
          | _ => exact q1.elim

/-! ### own lists: append, pop, extend, xs[i] = e -/
def lstAt : Sl → Option (List D)
  | .own (.lst xs) => some xs
  | .bor (.lst xs) => some xs
  | _ => none
def lstTo : Sl → List D → Sl
  | .bor _, xs => .bor (.lst xs)
  | _, xs => .own (.lst xs)
theorem lst_at {o : Nat → List Addr} {ρ : Env} {σ : St} {H : Hp} {i : Nat} {xs : List D} (S : SRo X.K C o ρ σ H) (h : lstAt (gS ρ i) = some xs) : ∃ a vs, σ[i]? = some (some (.ref a)) ∧ o i = [a] ∧ H a = some (.lst vs) ∧ ShA X.K (FF C.B o) H vs xs ∧ i < ρ.length := by
  have hl : i < ρ.length := by
    by_cases hl : i < ρ.length
    · exact hl
    · rw [gS_out (by omega)] at h; cases h
  have z := S.slot i
  cases g : gS ρ i with
  | emp => rw [g] at h; cases h
  | val d => rw [g] at h; cases h
  | own c =>
    rw [g] at h z
    cases c with
    | lst ys =>
      cases h
      obtain ⟨v, ev, a, vs, e1, e2, e3, e4⟩ := z
      subst e2
      exact ⟨a, vs, ev, e1, e3, e4, hl⟩
    | dic _ => cases h
  | bor c =>
    rw [g] at h z
    cases c with
    | lst ys =>
      cases h
      obtain ⟨ev, a, vs, e1, e2, e3, e4⟩ := z
      rw [e2] at ev
      exact ⟨a, vs, ev, e1, e3, e4, hl⟩
    | dic _ => cases h
theorem lst_wr {o : Nat → List Addr} {ρ : Env} {σ : St} {H : Hp} {i : Nat} {a : Addr} {xs ys : List D} {ws : List V} (S : SRo X.K C o ρ σ H) (h : lstAt (gS ρ i) = some xs) (ea : σ[i]? = some (some (.ref a))) (s : ShA X.K (FF C.B o) H ws ys) :
    SRo X.K C o (sS ρ i (lstTo (gS ρ i) ys)) σ (upd H a (.lst ws)) ∧ Tx (FF C.B o) H (FF C.B o) (upd H a (.lst ws)) := by
  obtain ⟨a', vs, ea', eo, eH, sh, hl⟩ := lst_at S h
  rw [ea] at ea'
  cases ea'
  refine S.wr eo hl fun H' t e => ?_
  have z := S.slot i
  cases g : gS ρ i with
  | emp => rw [g] at h; cases h
  | val d => rw [g] at h; cases h
  | own c => exact ⟨.ref a, ea, a, ws, rfl, rfl, e, s.tx t⟩
  | bor c =>
    rw [g] at z
    rw [z.1] at ea
    have eb : C.bv i = .ref a := Option.some.inj (Option.some.inj ea)
    exact ⟨z.1, a, ws, rfl, eb, e, s.tx t⟩
def sApp (i : Nat) (m : Env → Res R) : Env → SR := fun ρ => match lstAt (gS ρ i) with
  | none => .bad
  | some _ => bindRS (m ρ) fun r ρ1 => match lstAt (gS ρ1 i) with
    | some xs => if xs.length < 16777216 then .nx (sS ρ1 i (lstTo (gS ρ1 i) (xs ++ [r.toD]))) else .bad
    | none => .bad
theorem tyV_l {o : Nat → List Addr} {ρ : Env} {σ : St} {H : Hp} {i : Nat} {xs : List D} (S : SRo X.K C o ρ σ H) (h : lstAt (gS ρ i) = some xs) : ∃ a, σ[i]? = some (some (.ref a)) ∧ tyV X.K "list" (.ref a) H := by
  obtain ⟨a, vs, ea, eo, eH, sh, hl⟩ := lst_at S h
  exact ⟨a, ea, .inl ⟨rfl, vs, .of eH⟩⟩
variable {apos : Pos} {m : Env → Res R}
theorem js_app {i : Nat} (ho : PE X b (tVar i)) (he : JE X C W e m) (hp : ∀ {te : TE}, PE X e te → PS X (.Expr (.Call (.Attribute b "append" apos) [e] [] p) pos) (tDrop (tBM X.K "list" rAppend (tVar i) (tCons te tNil)))) :
    JS X C W (.Expr (.Call (.Attribute b "append" apos) [e] [] p) pos) (sApp i m) := PS.imp (hp he) fun D σ H ⟨ρ, o, S, h⟩ => by
  unfold sApp at h
  cases g : lstAt (gS ρ i) with
  | none => simp only [g] at h; exact h.elim
  | some xs =>
    simp only [g] at h
    obtain ⟨a, ea, ty⟩ := tyV_l S g
    refine ⟨.ref a, ea, ty, ?_⟩
    refine stepSE S h fun r ρ1 z => OkE.of_val fun v H1 o1 S1 t s => ?_
    cases g1 : lstAt (gS ρ1 i) with
    | none => simp only [g1] at z; exact z.elim
    | some ys =>
      simp only [g1] at z
      split at z
      · rename_i hl
        obtain ⟨a1, vs1, ea1, eo1, eH1, sh1, hl1⟩ := lst_at S1 g1
        rw [ea] at ea1
        cases ea1
        obtain ⟨S2, t2⟩ := lst_wr (ws := vs1 ++ [v]) (ys := ys ++ [r.toD]) S1 g1 ea (sh1.append (.one s))
        exact ⟨a, vs1, v, rfl, rfl, eH1, by rw [sh1.length]; exact line_lt hl, z σ _ o1 S2 (t.trans t2)⟩
      · exact z.elim
def ePop (i : Nat) : Env → Res R := fun ρ => match lstAt (gS ρ i) with
  | some xs => match xs.getLast? with
    | some d => .ok (.val d) (sS ρ i (lstTo (gS ρ i) xs.dropLast))
    | none => .bad
  | none => .bad
theorem je_pop {i : Nat} (hp : PE X e (tBM0 X.K "list" rPop (tVar i))) : JE X C W e (ePop i) := PE.imp hp fun σ H Q ⟨ρ, o, S, h⟩ => by
  unfold ePop at h
  cases g : lstAt (gS ρ i) with
  | none => simp only [g] at h; exact h.elim
  | some xs =>
    simp only [g] at h
    cases gl : xs.getLast? with
    | none => simp only [gl] at h; exact h.elim
    | some d =>
      simp only [gl] at h
      obtain ⟨a, ea, ty⟩ := tyV_l S g
      obtain ⟨a1, vs1, ea1, eo1, eH1, sh1, hl1⟩ := lst_at S g
      rw [ea] at ea1
      cases ea1
      rw [List.getLast?_eq_getElem?] at gl
      obtain ⟨v, ev, sv⟩ := sh1.get gl
      have sd : ShA X.K (FF C.B o) H vs1.dropLast xs.dropLast := by
        rw [List.dropLast_eq_take, List.dropLast_eq_take, sh1.length]
        exact sh1.take _
      obtain ⟨S2, t2⟩ := lst_wr S g ea sd
      exact ⟨.ref a, ea, ty, a, vs1, v, rfl, rfl, eH1, by rw [sh1.length]; exact ev, h v _ o S2 t2 (sv.tx t2)⟩
/-- xs[k] = e -/
def sSetL (i : Nat) (me mk : Env → Res D) : Env → SR := fun ρ => bindRS (me ρ) fun x ρ1 => match lstAt (gS ρ1 i) with
  | none => .bad
  | some _ => bindRS (mk ρ1) fun k ρ2 => match lstAt (gS ρ2 i), k with
    | some xs, .int n => match ixN xs.length n with
      | some j => .nx (sS ρ2 i (lstTo (gS ρ2 i) (xs.set j x)))
      | none => .bad
    | _, _ => .bad
theorem js_setL {i : Nat} {tpos : Pos} {kx : Expr} {mk : Env → Res D} (he : JV X C W e ma) (ho : PE X b (tVar i)) (hk : JV X C W kx mk) (hp : PS X (.Assign [.Subscript b kx tpos] e pos) (tAsg (tV X C W (Sh X.K) ma) (gSub (tVar i) (tV X C W (Sh X.K) mk) rSetL))) :
    JS X C W (.Assign [.Subscript b kx tpos] e pos) (sSetL i ma mk) := PS.imp hp fun D σ H ⟨ρ, o, S, h⟩ => by
  obtain ⟨ρ0, o0, S0, h0⟩ := stepS (Rl := Sh X.K) S h
  refine ⟨ρ0, o0, S0, h0.imp (fun d ρ1 z v H1 o1 S1 t1 s1 => ?_) fun _ _ z => z⟩
  obtain ⟨ρ1', o1', d', S1', T1, s1', q1⟩ := z v H1 o1 S1 t1 s1
  cases g : lstAt (gS ρ1' i) with
  | none => simp only [g] at q1; exact q1.elim
  | some xs0 =>
    simp only [g] at q1
    obtain ⟨a, vs, ea, eo, eH, sh, hl⟩ := lst_at S1' g
    refine ⟨.ref a, ea, ?_⟩
    obtain ⟨ρ2, o2, S2, h2⟩ := stepS (Rl := Sh X.K) S1' q1
    refine ⟨ρ2, o2, S2, h2.imp (fun d2 ρ3 z2 v2 H2 o3 S3 t3 s3 => ?_) fun _ _ z => z⟩
    obtain ⟨ρ4, o4, d4, S4, T4, s4, q4⟩ := z2 v2 H2 o3 S3 t3 s3
    cases g4 : lstAt (gS ρ4 i) with
    | none => simp only [g4] at q4; exact q4.elim
    | some xs =>
      cases d4 with
      | int n =>
        simp only [g4] at q4
        cases ej : ixN xs.length n with
        | none => simp only [ej] at q4; exact q4.elim
        | some j =>
          simp only [ej] at q4
          obtain ⟨a1, vs1, ea1, eo1, eH1, sh1, hl1⟩ := lst_at S4 g4
          rw [ea] at ea1
          cases ea1
          obtain ⟨S5, t5⟩ := lst_wr (ws := vs1.set j v) S4 g4 ea (ShA.set (s1'.tx T4) j sh1)
          exact ⟨a, vs1, n, j, rfl, s4.ofInt, eH1, by rw [sh1.length]; exact ej, q4 σ _ o4 S5 t5⟩
      | _ => simp only [g4] at q4; exact q4.elim
end
end Dn
set_option Elab.async false
set_option linter.all false
set_option maxRecDepth 100000
set_option maxHeartbeats 2000000
/-! Dn8: own dicts, extend -/
namespace Dn
open PySem L2

section
variable {X : Cx} {C : Ctx} {W : WX} {e b kx : Expr} {ma mb mk : Env → Res D} {pos p p1 p2 apos tpos : Pos}
/-! ### dicts whose keys are ints and texts -/
def keyD : D → Option Key
  | .int i => some (.inl i)
  | .str x => some (.inr x)
  | _ => none
def lookD (ds : List (D × D)) (k : Key) : Option D := (ds.find? fun p => decide (keyD p.1 = some k)).map (·.2)
theorem keyD_kd (k : Key) : keyD (kd k) = some k := by cases k <;> rfl
theorem look_sh {K : PySem.W.Frag} {F : Addr → Prop} {H : Hp} (k : Key) : ∀ {vs : List (Key × V)} {ds : List (D × D)}, ShK K F H vs ds → (valV vs k = none ∧ lookD ds k = none) ∨ ∃ v d, valV vs k = some v ∧ lookD ds k = some d ∧ Sh K F H v d
  | _, _, .nil => .inl ⟨rfl, rfl⟩
  | (k', v) :: vs, (_, d) :: ds, .cons h s => by
    by_cases e : k' = k
    · subst e
      exact .inr ⟨v, d, valV_pos rfl, by unfold lookD; rw [List.find?_cons]; simp [keyD_kd], h⟩
    · have e1 : valV ((k', v) :: vs) k = valV vs k := by unfold valV; rw [List.find?_cons]; simp [e]
      have e2 : lookD ((kd k', d) :: ds) k = lookD ds k := by unfold lookD; rw [List.find?_cons]; simp [keyD_kd, e]
      rw [e1, e2]
      exact look_sh k s
theorem key_sh {K : PySem.W.Frag} {F : Addr → Prop} {H : Hp} {v : V} {d : D} {k : Key} (h : Sh K F H v d) (e : keyD d = some k) : v = kV k := by
  cases h with
  | int i => cases e; rfl
  | str x => cases e; rfl
  | _ => cases e
theorem DGet.r {H : Hp} {a : Addr} {kvs : List (Key × V)} {k : Key} (e : Rd H a (.dK kvs)) : DGet H a (kV k) (valV kvs k) := .inl ⟨kvs, k, e, rfl, rfl⟩
/-- {} -/
def eDic0 : Env → Res R := fun ρ => .ok (.fresh (.dic [])) ρ
theorem je_dic0 : JE X C W (.Dict [] [] pos) eDic0 := PE.imp pe_dnewK fun σ H Q ⟨ρ, o, S, h⟩ => fun p hp =>
  newOk S (r := .fresh (.dic [])) h _ _ [p] (same_new hp) (by simp) (fun a ha => by simp at ha; rw [ha]; exact hp) (fun a ha => by simp at ha; rw [ha, upd_same]; exact fun z => nomatch z) ⟨p, [], rfl, rfl, upd_same, .nil⟩
/-- k in d, k not in d; d a name -/
def eDin (neg : Bool) (i : Nat) (mk : Env → Res D) : Env → Res R := fun ρ => bindR (mk ρ) fun k ρ1 => bindR (ePk i ρ1) fun d ρ2 => match d, keyD k with
  | .dict ds, some q => .ok (.val (.bool (if neg then !(lookD ds q).isSome else (lookD ds q).isSome))) ρ2
  | _, _ => .bad
theorem din_imp {neg : Bool} {i : Nat} {o : Nat → List Addr} {ρ : Env} {σ : St} {H : Hp} {Q : VK} (S : SRo X.K C o ρ σ H) (h : PoG (OkE X C o σ H Q) (ExP X C W o σ H) (eDin neg i mk ρ)) :
    tV X C W (Sh X.K) mk σ H fun y H1 => (tVar i) σ H1 fun x H2 => ∃ a oo, x = .ref a ∧ DGet H2 a y oo ∧ Q (.bl (if neg then !oo.isSome else oo.isSome)) H2 := by
  obtain ⟨ρ0, o0, S0, h0⟩ := stepE (Rl := Sh X.K) S h
  refine ⟨ρ0, o0, S0, h0.imp (fun d ρ1 z v H1 o1 S1 t1 s1 => ?_) fun _ _ z => z⟩
  obtain ⟨ρ1', o1', d', S1', T1, s1', q1⟩ := z v H1 o1 S1 t1 s1
  have hv : ∃ w, σ[i]? = some (some w) := by
    have z := S1'.slot i
    unfold ePk at q1
    cases g : gS ρ1' i with
    | emp => rw [g] at q1; exact q1.elim
    | val d => rw [g] at z; exact ⟨_, z.2.choose_spec.1⟩
    | own c => rw [g] at z; exact ⟨_, z.choose_spec.1⟩
    | bor c => rw [g] at z; exact ⟨_, z.1⟩
  obtain ⟨w, hv⟩ := hv
  obtain ⟨dx, pk, q2⟩ := pk_at S1' hv q1
  refine ⟨w, hv, ?_⟩
  cases dx with
  | dict ds =>
    cases ek : keyD d' with
    | none => simp only [ek] at q2; exact q2.elim
    | some q =>
      simp only [ek] at q2
      obtain ⟨a, kvs, rfl, r, s⟩ := pk
      refine ⟨a, valV kvs q, rfl, by rw [key_sh s1' ek]; exact DGet.r r, ?_⟩
      have e : (valV kvs q).isSome = (lookD ds q).isSome := by
        rcases look_sh q s with ⟨h1, h2⟩ | ⟨v, d, h1, h2, _⟩
        · rw [h1, h2]; rfl
        · rw [h1, h2]; rfl
      rw [e]
      exact newOk (r := .val (.bool _)) S1' q2 _ _ (.refl _) (.bl _)
  | _ => exact q2.elim
theorem je_din {i : Nat} (hu : X.A.units + 1 < cLine) (hk : JV X C W kx mk) (ho : PE X b (tVar i)) (hm : behindInMarks .In b = false := by rfl) : JE X C W (.Compare kx [.In] [b] pos) (eDin false i mk) := PE.imp (pe_cmp (pc_din hu hk ho) hm) fun σ H Q ⟨ρ, o, S, h⟩ => din_imp S h
theorem je_dnin {i : Nat} (hu : X.A.units + 1 < cLine) (hk : JV X C W kx mk) (ho : PE X b (tVar i)) (hm : behindInMarks .NotIn b = false := by rfl) : JE X C W (.Compare kx [.NotIn] [b] pos) (eDin true i mk) := PE.imp (pe_cmp (pc_dnotin hu hk ho) hm) fun σ H Q ⟨ρ, o, S, h⟩ => din_imp S h
theorem jt_din {i : Nat} (hu : X.A.units + 1 < cLine) (hk : JV X C W kx mk) (ho : PE X b (tVar i)) (hm : behindInMarks .In b = false := by rfl) : JT X C W (.Compare kx [.In] [b] pos) (tBoolD (eDin false i mk)) := PT.imp (pt_cmp (pc_din hu hk ho) hm) fun σ H Q ⟨ρ, o, S, h⟩ => by
  obtain ⟨ρ0, o0, S0, h0⟩ := tB_imp S h
  exact din_imp S0 h0
theorem jt_dnin {i : Nat} (hu : X.A.units + 1 < cLine) (hk : JV X C W kx mk) (ho : PE X b (tVar i)) (hm : behindInMarks .NotIn b = false := by rfl) : JT X C W (.Compare kx [.NotIn] [b] pos) (tBoolD (eDin true i mk)) := PT.imp (pt_cmp (pc_dnotin hu hk ho) hm) fun σ H Q ⟨ρ, o, S, h⟩ => by
  obtain ⟨ρ0, o0, S0, h0⟩ := tB_imp S h
  exact din_imp S0 h0
def putD (kvs : List (Key × D)) (k : Key) (d : D) : List (Key × D) :=
  if (kvs.any fun kv => decide (kv.1 = k)) = true then kvs.map (fun kv => if kv.1 = k then (kv.1, d) else kv) else kvs ++ [(k, d)]
def lookC (kvs : List (Key × D)) (k : Key) : Option D := (kvs.find? fun p => decide (p.1 = k)).map (·.2)
theorem lookD_map (kvs : List (Key × D)) (k : Key) : lookD (kvs.map fun p => (kd p.1, p.2)) k = lookC kvs k := by
  unfold lookD lookC
  induction kvs with
  | nil => rfl
  | cons p r ih =>
    rw [List.map_cons, List.find?_cons, List.find?_cons]
    by_cases e : p.1 = k
    · simp [e, keyD_kd]
    · have e' : decide (keyD (kd p.1) = some k) = false := decide_eq_false (by rw [keyD_kd]; exact fun z => e (Option.some.inj z))
      have e2 : decide (p.1 = k) = false := decide_eq_false e
      rw [e', e2]
      exact ih
theorem put_sh {K : PySem.W.Frag} {F : Addr → Prop} {H : Hp} {k : Key} {v : V} {d : D} (h : Sh K F H v d) {vs : List (Key × V)} {kvs : List (Key × D)} (s : ShD K F H vs kvs) : ShD K F H (putK vs k v) (putD kvs k d) := by
  have any : ∀ {vs : List (Key × V)} {kvs : List (Key × D)}, ShD K F H vs kvs → (vs.any fun kv => decide (kv.1 = k)) = kvs.any fun kv => decide (kv.1 = k) := by
    intro vs kvs s
    induction s with
    | nil => rfl
    | cons h' _ ih => rw [List.any_cons, List.any_cons, ih, h'.1]
  have mp : ∀ {vs : List (Key × V)} {kvs : List (Key × D)}, ShD K F H vs kvs → ShD K F H (vs.map fun kv => if kv.1 = k then (kv.1, v) else kv) (kvs.map fun kv => if kv.1 = k then (kv.1, d) else kv) := by
    intro vs kvs s
    induction s with
    | nil => exact .nil
    | @cons p q _ _ h' _ ih =>
      rw [List.map_cons, List.map_cons]
      refine .cons ?_ ih
      obtain ⟨e, sh⟩ := h'
      by_cases c : p.1 = k
      · rw [if_pos c, if_pos (e ▸ c)]; exact ⟨e, h⟩
      · rw [if_neg c, if_neg (e ▸ c)]; exact ⟨e, sh⟩
  have ap : ∀ {vs : List (Key × V)} {kvs : List (Key × D)}, ShD K F H vs kvs → ShD K F H (vs ++ [(k, v)]) (kvs ++ [(k, d)]) := by
    intro vs kvs s
    induction s with
    | nil => exact .cons ⟨rfl, h⟩ .nil
    | cons h' _ ih => exact .cons h' ih
  unfold putK putD
  rw [any s]
  split
  · exact mp s
  · exact ap s
def dicAt : Sl → Option (List (Key × D))
  | .own (.dic xs) => some xs
  | .bor (.dic xs) => some xs
  | _ => none
def dicTo : Sl → List (Key × D) → Sl
  | .bor _, xs => .bor (.dic xs)
  | _, xs => .own (.dic xs)
theorem dic_at {o : Nat → List Addr} {ρ : Env} {σ : St} {H : Hp} {i : Nat} {xs : List (Key × D)} (S : SRo X.K C o ρ σ H) (h : dicAt (gS ρ i) = some xs) : ∃ a vs, σ[i]? = some (some (.ref a)) ∧ o i = [a] ∧ H a = some (.dK vs) ∧ ShD X.K (FF C.B o) H vs xs ∧ i < ρ.length := by
  have hl : i < ρ.length := by
    by_cases hl : i < ρ.length
    · exact hl
    · rw [gS_out (by omega)] at h; cases h
  have z := S.slot i
  cases g : gS ρ i with
  | emp => rw [g] at h; cases h
  | val d => rw [g] at h; cases h
  | own c =>
    rw [g] at h z
    cases c with
    | dic ys =>
      cases h
      obtain ⟨v, ev, a, vs, e1, e2, e3, e4⟩ := z
      subst e2
      exact ⟨a, vs, ev, e1, e3, e4, hl⟩
    | lst _ => cases h
  | bor c =>
    rw [g] at h z
    cases c with
    | dic ys =>
      cases h
      obtain ⟨ev, a, vs, e1, e2, e3, e4⟩ := z
      rw [e2] at ev
      exact ⟨a, vs, ev, e1, e3, e4, hl⟩
    | lst _ => cases h
theorem dic_wr {o : Nat → List Addr} {ρ : Env} {σ : St} {H : Hp} {i : Nat} {a : Addr} {xs ys : List (Key × D)} {ws : List (Key × V)} (S : SRo X.K C o ρ σ H) (h : dicAt (gS ρ i) = some xs) (ea : σ[i]? = some (some (.ref a))) (s : ShD X.K (FF C.B o) H ws ys) :
    SRo X.K C o (sS ρ i (dicTo (gS ρ i) ys)) σ (upd H a (.dK ws)) ∧ Tx (FF C.B o) H (FF C.B o) (upd H a (.dK ws)) := by
  obtain ⟨a', vs, ea', eo, eH, sh, hl⟩ := dic_at S h
  rw [ea] at ea'
  cases ea'
  refine S.wr eo hl fun H' t e => ?_
  have z := S.slot i
  cases g : gS ρ i with
  | emp => rw [g] at h; cases h
  | val d => rw [g] at h; cases h
  | own c => exact ⟨.ref a, ea, a, ws, rfl, rfl, e, s.tx t⟩
  | bor c =>
    rw [g] at z
    rw [z.1] at ea
    have eb : C.bv i = .ref a := Option.some.inj (Option.some.inj ea)
    exact ⟨z.1, a, ws, rfl, eb, e, s.tx t⟩
theorem ShD.length {K : PySem.W.Frag} {F : Addr → Prop} {H : Hp} {vs : List (Key × V)} {kvs : List (Key × D)} (s : ShD K F H vs kvs) : vs.length = kvs.length := by
  induction s with
  | nil => rfl
  | cons _ _ ih => rw [List.length_cons, List.length_cons, ih]
/-- d[k] = e -/
def sSetD (i : Nat) (me mk : Env → Res D) : Env → SR := fun ρ => bindRS (me ρ) fun x ρ1 => match dicAt (gS ρ1 i) with
  | none => .bad
  | some _ => bindRS (mk ρ1) fun k ρ2 => match dicAt (gS ρ2 i), keyD k with
    | some kvs, some q => if kvs.length < 16777216 then .nx (sS ρ2 i (dicTo (gS ρ2 i) (putD kvs q x))) else .bad
    | _, _ => .bad
theorem js_setD {i : Nat} (hu : X.A.units + 1 < cLine) (he : JV X C W e ma) (ho : PE X b (tVar i)) (hk : JV X C W kx mk) (hs : swapsWith e (some (.Subscript b kx tpos)) pos.line X.env = pure false := by rfl) :
    JS X C W (.Assign [.Subscript b kx tpos] e pos) (sSetD i ma mk) := PS.imp (ps_dput hu ho hk he hs) fun D σ H ⟨ρ, o, S, h⟩ => by
  obtain ⟨ρ0, o0, S0, h0⟩ := stepS (Rl := Sh X.K) S h
  refine ⟨ρ0, o0, S0, h0.imp (fun d ρ1 z v H1 o1 S1 t1 s1 => ?_) fun _ _ z => z⟩
  obtain ⟨ρ1', o1', d', S1', T1, s1', q1⟩ := z v H1 o1 S1 t1 s1
  cases g : dicAt (gS ρ1' i) with
  | none => simp only [g] at q1; exact q1.elim
  | some xs0 =>
    simp only [g] at q1
    obtain ⟨a, vs, ea, eo, eH, sh, hl⟩ := dic_at S1' g
    refine ⟨.ref a, ea, ?_⟩
    obtain ⟨ρ2, o2, S2, h2⟩ := stepS (Rl := Sh X.K) S1' q1
    refine ⟨ρ2, o2, S2, h2.imp (fun d2 ρ3 z2 v2 H2 o3 S3 t3 s3 => ?_) fun _ _ z => z⟩
    obtain ⟨ρ4, o4, d4, S4, T4, s4, q4⟩ := z2 v2 H2 o3 S3 t3 s3
    cases g4 : dicAt (gS ρ4 i) with
    | none => simp only [g4] at q4; exact q4.elim
    | some kvs =>
      cases ek : keyD d4 with
      | none => simp only [g4, ek] at q4; exact q4.elim
      | some q =>
        simp only [g4, ek] at q4
        split at q4
        · rename_i hlen
          obtain ⟨a1, vs1, ea1, eo1, eH1, sh1, hl1⟩ := dic_at S4 g4
          rw [ea] at ea1
          cases ea1
          obtain ⟨S5, t5⟩ := dic_wr (ws := putK vs1 q v) S4 g4 ea (put_sh (s1'.tx T4) sh1)
          exact ⟨a, _, rfl, by rw [key_sh s4 ek]; exact DPut.k eH1 (by rw [sh1.length]; exact line_lt hlen), q4 σ _ o4 S5 t5⟩
        · exact q4.elim

/-! ### extend by a new list -/
def sExt (i : Nat) (m : Env → Res R) : Env → SR := fun ρ => match lstAt (gS ρ i) with
  | none => .bad
  | some _ => bindRS (m ρ) fun r ρ1 => match lstAt (gS ρ1 i), r with
    | some xs, .fresh (.lst ys) => if xs.length + ys.length ≤ 16777216 then .nx (sS ρ1 i (lstTo (gS ρ1 i) (xs ++ ys))) else .bad
    | _, _ => .bad
theorem js_ext {m : Env → Res R} {i : Nat} (he : JE X C W e m) (hp : ∀ {te : TE}, PE X e te → PS X (.Expr (.Call (.Attribute b "extend" apos) [e] [] p) pos) (tDrop (tBM X.K "list" rExtend (tVar i) (tCons te tNil)))) :
    JS X C W (.Expr (.Call (.Attribute b "extend" apos) [e] [] p) pos) (sExt i m) := PS.imp (hp he) fun D σ H ⟨ρ, o, S, h⟩ => by
  unfold sExt at h
  cases g : lstAt (gS ρ i) with
  | none => simp only [g] at h; exact h.elim
  | some xs =>
    simp only [g] at h
    obtain ⟨a, ea, ty⟩ := tyV_l S g
    refine ⟨.ref a, ea, ty, ?_⟩
    refine stepSE S h fun r ρ1 z => ?_
    cases g1 : lstAt (gS ρ1 i) with
    | none => simp only [g1] at z; exact z.elim
    | some ys =>
      cases r with
      | val d => simp only [g1] at z; exact z.elim
      | fresh c =>
        cases c with
        | dic _ => simp only [g1] at z; exact z.elim
        | lst zs =>
          simp only [g1] at z
          split at z
          · rename_i hl
            intro v H1 o1 as nd h0 nB S1 t cr
            obtain ⟨bb, ws, rfl, rfl, eb, sb⟩ := cr
            have S1' := S1.less
            have g1' : lstAt (gS ρ1 i) = some ys := g1
            obtain ⟨a1, vs1, ea1, eo1, eH1, sh1, hl1⟩ := lst_at S1' g1'
            rw [ea] at ea1
            cases ea1
            have sb' : ShA X.K (FF C.B o1) H1 ws zs := sb.tx (.less fun a z => z.elim (fun q => .inl (.inl q)) .inr)
            obtain ⟨S2, t2⟩ := lst_wr (ws := vs1 ++ ws) (ys := ys ++ zs) S1' g1' ea (sh1.append sb')
            exact ⟨a, bb, vs1, ws, rfl, rfl, eH1, eb, by rw [sh1.length, sb.length]; exact line_of hl, z σ _ o1 S2 (t.dropB.trans t2)⟩
          · exact z.elim
end
end Dn
set_option Elab.async false
set_option linter.all false
set_option maxRecDepth 100000
set_option maxHeartbeats 1000000
/-! Dn9: the ends -/
namespace Dn
open PySem L2
open PyProof.Rows (envOfC)

def Known (P : Program) (w : World) (K : PySem.W.Frag) (mg : Str → Option Value) (base : Heap) (x : Str) (ps : List Str) (k : Nat) (den : Env → Res R) : Prop :=
  ∃ a fd, FnOk P w K mg base (L2.CX P w) k a fd ps (spG K mg ps.length den) ∧ mg x = some (.ref a) ∧ PySem.W.keepIn K (.ref a) = true ∧ Binds K fd ps []
def Err (K : PySem.W.Frag) (mg : Str → Option Value) (x : Str) : Prop :=
  ∃ A, PySem.W.excIn K A [.type "ValueError", .type "Exception", .type "BaseException", .type "object"] "ValueError.__new__" = true ∧ mg x = some (.ref A) ∧ PySem.W.keepIn K (.ref A) = true ∧ PySem.W.subIn K (.ref A) (.type "BaseException") = some true ∧ PySem.W.typeIn K (.ref A) = some (.type "type")
section
variable {P : Program} {w : World} {K : PySem.W.Frag} {mg : Str → Option Value} {base : Heap}
theorem known {x qual : Str} {st : Stmt} {f : Addr} {fd : FuncData} {N ps : List Str} {k : Nat} {body : Env → SR} (F : Fun K x qual st f fd) (S : FnScope N ps (defScope st))
    (hb : ∀ (cdv : Value) (A : Around) (outer : List PySem.Env) (s : Shared) (H : Hp) (E : XK) (C : Ctx), Room k (A.deeper (envOfC qual (defScope st) s.heap.objs.size f cdv)) →
      Takes (cxOf (L2.CX P w) P w K mg base N qual (defScope st) f cdv A outer s H E) (fun cls d _ H => E cls d H) →
      PassesOwn (model P w) (cxOf (L2.CX P w) P w K mg base N qual (defScope st) f cdv A outer s H E).A (cxOf (L2.CX P w) P w K mg base N qual (defScope st) f cdv A outer s H E).env (cxOf (L2.CX P w) P w K mg base N qual (defScope st) f cdv A outer s H E).xe →
      JSs (cxOf (L2.CX P w) P w K mg base N qual (defScope st) f cdv A outer s H E) C (fun cls d _ H => E cls d H) (defBody st) body) :
    FnOk P w K mg base (L2.CX P w) (k + 1) f fd ps (spG K mg ps.length (mkF ps.length N.length body)) :=
  fn_ok F S fun cdv A outer s H E C hr => hb cdv A outer s H E C hr (takes_of rfl rfl rfl rfl) (passes_of rfl)
/-- what law(script) promises: for a list of at most 63 ints the answer is True -/
def spLaw (K : PySem.W.Frag) : Sp := fun vs H Q _ => ∃ (a : Addr) (ns : List Int), vs = [.ref a] ∧ SqL K H a (ns.map V.int) ∧ ns.length ≤ 63 ∧ ∀ H', Q (.bl true) H'
theorem shA_ints {F : Addr → Prop} {H : Hp} : ∀ ns : List Int, ShA K F H (ns.map V.int) (ns.map PyData.int)
  | [] => .nil
  | i :: r => .cons (.int i) (shA_ints r)
def script (ns : List Int) : D := .list (ns.map .int)
theorem law_start {d : Env → Res R} (hp : ∀ ns : List Int, ns.length ≤ 63 → ∃ ρ, d [.val (script ns)] = .ok (.val (.bool true)) ρ) {vs : List V} {H : Hp} {Q : VK} {E : XK} (h : spLaw K vs H Q E) : spG K mg 1 d vs H Q E := by
  obtain ⟨a, ns, rfl, hS, hl, q⟩ := h
  refine ⟨rfl, ⟨fun _ => False, H, fun i => ([.ref a] : List V).getD i .non⟩, fun _ => [], vals [script ns], fun i v e => by show ([.ref a] : List V).getD i .non = v; rw [List.getD_eq_getElem?_getD, e]; rfl, SRo.vals (fun a z => z.elim) (.cons ?_ .nil) _, ?_⟩
  · rcases hS with r | r
    · exact .lst (.inl ⟨fun z => z, r⟩) (shA_ints ns)
    · exact .lst (.inr r) (shA_ints ns)
  · obtain ⟨ρ, e⟩ := hp ns hl
    have e : d (vals [script ns]) = .ok (.val (.bool true)) ρ := e
    rw [e]
    intro v H' o' S t s
    cases s
    exact q H'
theorem law_fn {k : Nat} {f : Addr} {fd : FuncData} {ps : List Str} {d : Env → Res R} (hp : ∀ ns : List Int, ns.length ≤ 63 → ∃ ρ, d [.val (script ns)] = .ok (.val (.bool true)) ρ) (F : FnOk P w K mg base (L2.CX P w) k f fd ps (spG K mg 1 d)) :
    FnOk P w K mg base (L2.CX P w) k f fd ps (spLaw K) := F.imp fun _ _ _ _ h => law_start hp h
end
theorem walk {l : PySem.W.OpenLaw} {q : Program} {loose : List Str} {XP : (Str → Option Value) → Heap → Prop} {YP : World → Heap → Prop} {d : DefRec} {K : Params → PySem.W.Frag} (k : Nat) (hn : l.most = some 63) (hr : Room k callerA) (hdf : d.params.defaults = [])
    (hY : ∀ (w : World) (h : Heap), YP w h → (K w.params).In h)
    (F : ∀ (w : World) (mg : Str → Option Value) (fa : Addr) (h : Heap), (K w.params).In h → h.Ns mainGlobals mg → mg d.name = some (.ref fa) →
      ∃ fd : FuncData, (∀ (s : Shared) (u : Value), BindsTo s fd ⟨[u], []⟩ [("script", u)]) ∧ ∀ base : Heap, (K w.params).In base → base.Ns mainGlobals mg → FnOk l.prog w (K w.params) mg base (L2.CX l.prog w) k fa fd ["script"] (spLaw (K w.params))) :
    PySem.W.WalkO q loose XP YP l.row.toRowW d [] (fun f vs => PySem.call f vs) :=
  L2.walk_of (n := 63) (k := k) (x := "script") (CX := fun w => L2.CX l.prog w) (sp := fun w => spLaw (K w.params)) hn (by decide) hdf hr hY F (fun _ _ a ns hl _ hS => ⟨a, ns, rfl, hS, hl, fun _ => rfl⟩) fun _ H s e s' z => by
    obtain ⟨_, _, _, _, _, _, _, _, _, _, _, _, z⟩ := z
    exact z
end Dn
set_option Elab.async false
set_option linter.all false
set_option maxRecDepth 100000
namespace Law
open PySem Dn
noncomputable section
def b_is_whole : Dn.Env → SR := sRet (eAndD (eOp1 (fP isInt) (ePk 0)) (eNotD (eOp1 (fP isBool) (ePk 0))))
def d_is_whole : Dn.Env → Res R := mkF 1 1 b_is_whole
def b_is_whole_in : Dn.Env → SR := sRet (eAndD (eCall 1 d_is_whole (aCons (toV (eVar 0)) (aNil))) (eChain fLe fLe (toV (eVar 1)) (toV (eVar 0)) (toV (eVar 2))))
def d_is_whole_in : Dn.Env → Res R := mkF 3 3 b_is_whole_in
def b_is_name : Dn.Env → SR := sSeq (sIf (tNotD (tTru (toV (eOp1 (fP isStr) (ePk 0))))) (sRet (eC (.bool false))) (sNil))
    (sSeq (sIf (tOrD (tBoolD (eOp2 fLt (toV (eOp1 fLen (ePk 0))) (toV (eC (.int 1))))) (tBoolD (eOp2 fGt (toV (eOp1 fLen (ePk 0))) (toV (eC (.int 8)))))) (sRet (eC (.bool false))) (sNil))
    (sSeq (sIf (tBoolD (eOp2 fNotIn (toV (eIxV 0 (toV (eC (.int 0))))) (toV (eC (.str "abcdefghijklmnopqrstuvwxyz"))))) (sRet (eC (.bool false))) (sNil))
    (sSeq (sFor (gNm 1) (eIt (toV (eVar 0))) (sIf (tAndD (tBoolD (eOp2 fNotIn (toV (eVar 1)) (toV (eC (.str "abcdefghijklmnopqrstuvwxyz"))))) (tBoolD (eOp2 fNotIn (toV (eVar 1)) (toV (eC (.str "0123456789")))))) (sRet (eC (.bool false))) (sNil)))
    (sRet (eC (.bool true))))))
def d_is_name : Dn.Env → Res R := mkF 1 2 b_is_name
def b_is_tuple_of : Dn.Env → SR := sRet (eAndD (eOp1 (fP isTup) (ePk 0)) (eChain fLe fLe (toV (eVar 1)) (toV (eOp1 fLen (ePk 0))) (toV (eVar 2))))
def d_is_tuple_of : Dn.Env → Res R := mkF 3 3 b_is_tuple_of
def b_is_names : Dn.Env → SR := sSeq (sIf (tNotD (tTru (toV (eCall 3 d_is_tuple_of (aCons (toV (eVar 0)) (aCons (toV (eVar 1)) (aCons (toV (eVar 2)) (aNil)))))))) (sRet (eC (.bool false))) (sNil))
    (sSeq (sAsg 3 (eDic0))
    (sSeq (sFor (gNm 4) (eIt (toV (eVar 0))) (sSeq (sIf (tOrD (tNotD (tTru (toV (eCall 1 d_is_name (aCons (toV (eVar 4)) (aNil)))))) (tBoolD (eDin false 3 (toV (eVar 4))))) (sRet (eC (.bool false))) (sNil))
    (sSetD 3 (toV (eC (.bool true))) (toV (eVar 4)))))
    (sRet (eC (.bool true)))))
def d_is_names : Dn.Env → Res R := mkF 3 5 b_is_names
def b_is_rising : Dn.Env → SR := sSeq (sIf (tNotD (tTru (toV (eOp1 (fP isTup) (ePk 0))))) (sRet (eC (.bool false))) (sNil))
    (sSeq (sFor (gNm 1) (eIt (toV (eVar 0))) (sIf (tNotD (tTru (toV (eCall 1 d_is_whole (aCons (toV (eVar 1)) (aNil)))))) (sRet (eC (.bool false))) (sNil)))
    (sSeq (sFor (gNm 2) (eRg2 (aCons (toV (eC (.int 1))) (aCons (toV (eOp1 fLen (ePk 0))) (aNil)))) (sIf (tBoolD (eOp2 fGe (toV (eIxV 0 (toV (eOp2 fSub (toV (eVar 2)) (toV (eC (.int 1))))))) (toV (eIxV 0 (toV (eVar 2)))))) (sRet (eC (.bool false))) (sNil)))
    (sRet (eC (.bool true)))))
def d_is_rising : Dn.Env → Res R := mkF 1 3 b_is_rising
def b_is_single : Dn.Env → SR := sRet (eOrD (eOp2 fIs (toV (eVar 0)) (toV (eC .none))) (eOp1 (fP fun d => isInt d || isStr d) (ePk 0)))
def d_is_single : Dn.Env → Res R := mkF 1 1 b_is_single
def b_is_plain : Dn.Env → SR := sSeq (sAsg 1 (eOpN fLst (aCons (toV (eVar 0)) (aNil))))
    (sSeq (sWhile (tTru (ePk 1)) (sSeq (sAsg 2 (ePop 1))
    (sIf (tTru (toV (eOp1 (fP isTup) (ePk 2)))) (sExt 1 (eOp1 fList (ePk 2))) (sIf (tNotD (tTru (toV (eCall 1 d_is_single (aCons (toV (eVar 2)) (aNil)))))) (sRet (eC (.bool false))) (sNil)))))
    (sRet (eC (.bool true))))
def d_is_plain : Dn.Env → Res R := mkF 1 3 b_is_plain
def b_same_single : Dn.Env → SR := sSeq (sIf (tOrD (tBoolD (eOp2 fIs (toV (eVar 0)) (toV (eC .none)))) (tBoolD (eOp2 fIs (toV (eVar 1)) (toV (eC .none))))) (sRet (eAndD (eOp2 fIs (toV (eVar 0)) (toV (eC .none))) (eOp2 fIs (toV (eVar 1)) (toV (eC .none))))) (sNil))
    (sSeq (sIf (tOrD (tTru (toV (eOp1 (fP isBool) (ePk 0)))) (tTru (toV (eOp1 (fP isBool) (ePk 1))))) (sRet (eAndD (eOp1 (fP isBool) (ePk 0)) (eAndD (eOp1 (fP isBool) (ePk 1)) (eOp2 fEq (toV (eVar 0)) (toV (eVar 1)))))) (sNil))
    (sSeq (sIf (tOrD (tTru (toV (eOp1 (fP isInt) (ePk 0)))) (tTru (toV (eOp1 (fP isInt) (ePk 1))))) (sRet (eAndD (eOp1 (fP isInt) (ePk 0)) (eAndD (eOp1 (fP isInt) (ePk 1)) (eOp2 fEq (toV (eVar 0)) (toV (eVar 1)))))) (sNil))
    (sRet (eAndD (eOp1 (fP isStr) (ePk 0)) (eAndD (eOp1 (fP isStr) (ePk 1)) (eOp2 fEq (toV (eVar 0)) (toV (eVar 1))))))))
def d_same_single : Dn.Env → Res R := mkF 2 2 b_same_single
def b_same : Dn.Env → SR := sSeq (sAsg 2 (eOpN fLst (aCons (toV (eOpN fTup (aCons (toV (eVar 0)) (aCons (toV (eVar 1)) (aNil))))) (aNil))))
    (sSeq (sWhile (tTru (ePk 2)) (sSeq (sAsgG (gTp 2 (gsCons (gNm 3) (gsCons (gNm 4) (gsNil)))) (toV (ePop 2)))
    (sIf (tOrD (tTru (toV (eOp1 (fP isTup) (ePk 3)))) (tTru (toV (eOp1 (fP isTup) (ePk 4))))) (sSeq (sIf (tOrD (tNotD (tTru (toV (eOp1 (fP isTup) (ePk 3))))) (tNotD (tTru (toV (eOp1 (fP isTup) (ePk 4)))))) (sRet (eC (.bool false))) (sNil))
    (sSeq (sIf (tBoolD (eOp2 fNe (toV (eOp1 fLen (ePk 3))) (toV (eOp1 fLen (ePk 4))))) (sRet (eC (.bool false))) (sNil))
    (sFor (gNm 5) (eRg1 (toV (eOp1 fLen (ePk 3)))) (sApp 2 (eOpN fTup (aCons (toV (eIxV 3 (toV (eVar 5)))) (aCons (toV (eIxV 4 (toV (eVar 5)))) (aNil)))))))) (sIf (tNotD (tTru (toV (eCall 2 d_same_single (aCons (toV (eVar 3)) (aCons (toV (eVar 4)) (aNil))))))) (sRet (eC (.bool false))) (sNil)))))
    (sRet (eC (.bool true))))
def d_same : Dn.Env → Res R := mkF 2 6 b_same
def b_is_answer : Dn.Env → SR := sSeq (sIf (tOrD (tNotD (tTru (toV (eCall 3 d_is_tuple_of (aCons (toV (eVar 0)) (aCons (toV (eC (.int 2))) (aCons (toV (eC (.int 2))) (aNil)))))))) (tNotD (tTru (toV (eOp1 (fP isStr) (toV (eIxV 0 (toV (eC (.int 0)))))))))) (sRet (eC (.bool false))) (sNil))
    (sRet (eOrD (eOp2 fEq (toV (eIxV 0 (toV (eC (.int 0))))) (toV (eC (.str "yes")))) (eOp2 fEq (toV (eIxV 0 (toV (eC (.int 0))))) (toV (eC (.str "no"))))))
def d_is_answer : Dn.Env → Res R := mkF 1 1 b_is_answer
def b__law_cell : Dn.Env → SR := sSeq (sIf (tBoolD (eOp2 fLt (toV (eVar 1)) (toV (eOp1 fLen (ePk 0))))) (sRet (eOp1 fInt (toV (eIxV 0 (toV (eVar 1)))))) (sNil))
    (sRet (eC (.int 0)))
def d__law_cell : Dn.Env → Res R := mkF 2 2 b__law_cell
def b__law_draws : Dn.Env → SR := sSeq (sAsg 3 (eOp1 fAbs (toV (eCall 2 d__law_cell (aCons (toV (eVar 0)) (aCons (toV (eVar 1)) (aNil)))))))
    (sSeq (sAsg 4 (eVar 3))
    (sSeq (sAsg 5 (eOpN fLst (aNil)))
    (sSeq (sFor (gNm 6) (eRg1 (toV (eVar 2))) (sIf (tAndD (tBoolD (eOp2 fGe (toV (eVar 3)) (toV (eOp2 fPow (toV (eC (.int 10))) (toV (eC (.int 18))))))) (tBoolD (eOp2 fGt (toV (eVar 4)) (toV (eC (.int 0)))))) (sSeq (sApp 5 (eOp2 fMod (toV (eOp1 fInt (ePk 4))) (toV (eC (.int 5040)))))
    (sAsg 4 (eOp2 fFdiv (toV (eVar 4)) (toV (eC (.int 5040)))))) (sSeq (sAsg 7 (eOp2 fMod (toV (eOp1 fInt (toV (eOp2 fAdd (toV (eOp2 fAdd (toV (eOp2 fMul (toV (eVar 3)) (toV (eC (.int 48271))))) (toV (eOp2 fMul (toV (eOp2 fAdd (toV (eVar 6)) (toV (eC (.int 1))))) (toV (eC (.int 69621))))))) (toV (eOp2 fMul (toV (eOp2 fAdd (toV (eVar 1)) (toV (eC (.int 1))))) (toV (eC (.int 40692))))))))) (toV (eC (.int 2147483647)))))
    (sSeq (sAsg 7 (eOp2 fAdd (toV (eOp2 fMul (toV (eOp2 fAdd (toV (eOp2 fMod (toV (eOp1 fInt (ePk 7))) (toV (eC (.int 46337))))) (toV (eC (.int 1))))) (toV (eOp2 fAdd (toV (eOp2 fFdiv (toV (eVar 7)) (toV (eC (.int 46337))))) (toV (eC (.int 1))))))) (toV (eOp2 fMul (toV (eVar 6)) (toV (eC (.int 7919)))))))
    (sApp 5 (eOp2 fMod (toV (eOp1 fInt (toV (eOp2 fFdiv (toV (eVar 7)) (toV (eC (.int 3))))))) (toV (eC (.int 5040)))))))))
    (sRet (eVar 5)))))
def d__law_draws : Dn.Env → Res R := mkF 3 8 b__law_draws
def b__law_is : Dn.Env → SR := sRet (eAndD (eOp1 (fP isBool) (ePk 0)) (eOp2 fEq (toV (eVar 0)) (toV (eVar 1))))
def d__law_is : Dn.Env → Res R := mkF 2 2 b__law_is
def b__law_names : Dn.Env → SR := sSeq (sAsg 2 (eC (.str "qabcdefghijklmnoprstuvwxyz")))
    (sSeq (sAsg 3 (eC (.str "z0123456789abcdefghijklmnopqrstuvwxy")))
    (sSeq (sAsg 4 (eOpN fLst (aNil)))
    (sSeq (sFor (gNm 5) (eRg1 (toV (eVar 1))) (sSeq (sAsg 7 (eOp1 fInt (toV (eIxV 0 (toV (eOp2 fMod (toV (eOp1 fInt (ePk 5))) (toV (eOp1 fLen (ePk 0)))))))))
    (sSeq (sAsg 8 (eOp2 fAdd (toV (eOp2 fAdd (toV (eIxV 2 (toV (eOp2 fMod (toV (eOp1 fInt (ePk 5))) (toV (eC (.int 26))))))) (toV (eIxV 3 (toV (eOp2 fFdiv (toV (eVar 5)) (toV (eC (.int 26))))))))) (toV (eSl (toV (eC (.str "9ab0zy"))) (oNone) (oSome (toV (eOp2 fMod (toV (eVar 7)) (toV (eC (.int 7))))))))))
    (sSeq (sIf (tAndD (tBoolD (eOp2 fLt (toV (eVar 5)) (toV (eC (.int 26))))) (tBoolD (eOp2 fEq (toV (eOp2 fMod (toV (eOp2 fFdiv (toV (eVar 7)) (toV (eC (.int 7))))) (toV (eC (.int 3))))) (toV (eC (.int 0)))))) (sAsg 8 (eIxV 2 (toV (eVar 5)))) (sNil))
    (sApp 4 (eVar 8))))))
    (sSeq (sAsg 6 (eOp2 fMod (toV (eOp1 fInt (toV (eIxV 0 (toV (eC (.int 0))))))) (toV (eOp2 fAdd (toV (eVar 1)) (toV (eC (.int 1)))))))
    (sRet (eOp1 fTuple (toV (eOp2 fAdd (toV (eSlV 4 (oSome (toV (eVar 6))) (oNone))) (toV (eSlV 4 (oNone) (oSome (toV (eVar 6)))))))))))))
def d__law_names : Dn.Env → Res R := mkF 2 9 b__law_names
def b__law_odd_name : Dn.Env → SR := sSeq (sAsg 2 (eOpN fLst (aCons (toV (eC (.str ""))) (aCons (toV (eC (.str "9a"))) (aCons (toV (eC (.str "A"))) (aCons (toV (eC (.str "abcdefghi"))) (aCons (toV (eC (.str "a_b"))) (aCons (toV (eC (.str "a b"))) (aCons (toV (eC (.str "aB"))) (aCons (toV (eC (.str " a"))) (aCons (toV (eC (.str "a."))) (aCons (toV (eC (.int 1))) (aCons (toV (eC .none)) (aCons (toV (eC (.bool true))) (aCons (toV (eOpN fTup (aCons (toV (eC (.str "a"))) (aNil)))) (aCons (toV (eOpN fLst (aCons (toV (eC (.str "a"))) (aNil)))) (aCons (toV (eC (.str "0"))) (aCons (toV (eC (.str "abcdefg-"))) (aCons (toV (eC (.str "ab\n"))) (aNil))))))))))))))))))))
    (sSeq (sIf (tAndD (tBoolD (eOp2 fGt (toV (eOp1 fLen (ePk 0))) (toV (eC (.int 1))))) (tBoolD (eOp2 fEq (toV (eOp2 fMod (toV (eOp1 fInt (ePk 1))) (toV (eC (.int 3))))) (toV (eC (.int 0)))))) (sRet (eC .none)) (sNil))
    (sRet (eIxV 2 (toV (eOp2 fMod (toV (eOp1 fInt (toV (eOp2 fFdiv (toV (eVar 1)) (toV (eC (.int 3))))))) (toV (eC (.int 17))))))))
def d__law_odd_name : Dn.Env → Res R := mkF 2 3 b__law_odd_name
def b__law_held_names : Dn.Env → SR := sSeq (sAsg 4 (eOp1 fLen (ePk 0)))
    (sSeq (sFor (gTp 2 (gsCons (gNm 5) (gsCons (gNm 6) (gsNil)))) (eIt (toV (eOpN fLst (aCons (toV (eOpN fTup (aCons (toV (eC (.int 0))) (aCons (toV (eC (.int 200))) (aNil))))) (aCons (toV (eOpN fTup (aCons (toV (eVar 4)) (aCons (toV (eVar 4)) (aNil))))) (aCons (toV (eOpN fTup (aCons (toV (eOp2 fAdd (toV (eVar 4)) (toV (eC (.int 1))))) (aCons (toV (eC (.int 300))) (aNil))))) (aCons (toV (eOpN fTup (aCons (toV (eC (.int 0))) (aCons (toV (eOp2 fSub (toV (eVar 4)) (toV (eC (.int 1))))) (aNil))))) (aCons (toV (eOpN fTup (aCons (toV (eVar 1)) (aCons (toV (eVar 2)) (aNil))))) (aNil))))))))) (sSeq (sIf (tNotD (tTru (toV (eCall 2 d__law_is (aCons (toV (eCall 3 d_is_names (aCons (toV (eVar 0)) (aCons (toV (eVar 5)) (aCons (toV (eVar 6)) (aNil)))))) (aCons (toV (eAndD (eVar 3) (eChain fLe fLe (toV (eVar 5)) (toV (eVar 4)) (toV (eVar 6))))) (aNil))))))) (sRet (eC (.bool false))) (sNil))
    (sSeq (sIf (tNotD (tTru (toV (eCall 2 d__law_is (aCons (toV (eCall 3 d_is_tuple_of (aCons (toV (eVar 0)) (aCons (toV (eVar 5)) (aCons (toV (eVar 6)) (aNil)))))) (aCons (toV (eChain fLe fLe (toV (eVar 5)) (toV (eVar 4)) (toV (eVar 6)))) (aNil))))))) (sRet (eC (.bool false))) (sNil))
    (sIf (tOrD (tNotD (tTru (toV (eCall 2 d__law_is (aCons (toV (eCall 3 d_is_names (aCons (toV (eOp1 fList (ePk 0))) (aCons (toV (eVar 5)) (aCons (toV (eVar 6)) (aNil)))))) (aCons (toV (eC (.bool false))) (aNil))))))) (tNotD (tTru (toV (eCall 2 d__law_is (aCons (toV (eCall 3 d_is_tuple_of (aCons (toV (eOp1 fList (ePk 0))) (aCons (toV (eVar 5)) (aCons (toV (eVar 6)) (aNil)))))) (aCons (toV (eC (.bool false))) (aNil)))))))) (sRet (eC (.bool false))) (sNil)))))
    (sRet (eC (.bool true))))
def d__law_held_names : Dn.Env → Res R := mkF 4 7 b__law_held_names
def b__law_ask_names : Dn.Env → SR := sSeq (sAsg 2 (eOp2 fMod (toV (eOp1 fInt (toV (eIxV 0 (toV (eC (.int 0))))))) (toV (eC (.int 201)))))
    (sSeq (sIf (tBoolD (eOp2 fEq (toV (eOp2 fMod (toV (eOp1 fInt (toV (eIxV 0 (toV (eC (.int 1))))))) (toV (eC (.int 3))))) (toV (eC (.int 0))))) (sAsg 2 (eOp2 fMod (toV (eOp1 fInt (toV (eIxV 0 (toV (eC (.int 0))))))) (toV (eC (.int 9))))) (sNil))
    (sSeq (sAsg 3 (eCall 2 d__law_names (aCons (toV (eVar 1)) (aCons (toV (eVar 2)) (aNil)))))
    (sSeq (sAsg 4 (eOp2 fMod (toV (eOp1 fInt (toV (eIxV 0 (toV (eC (.int 2))))))) (toV (eC (.int 210)))))
    (sSeq (sAsg 5 (eOp2 fAdd (toV (eVar 4)) (toV (eOp2 fMod (toV (eOp1 fInt (toV (eIxV 0 (toV (eC (.int 3))))))) (toV (eC (.int 60)))))))
    (sSeq (sIf (tNotD (tTru (toV (eCall 4 d__law_held_names (aCons (toV (eVar 3)) (aCons (toV (eVar 4)) (aCons (toV (eVar 5)) (aCons (toV (eC (.bool true))) (aNil))))))))) (sRet (eC (.bool false))) (sNil))
    (sSeq (sFor (gNm 6) (eIt (toV (eSlV 3 (oNone) (oSome (toV (eC (.int 30))))))) (sIf (tNotD (tTru (toV (eCall 2 d__law_is (aCons (toV (eCall 1 d_is_name (aCons (toV (eVar 6)) (aNil)))) (aCons (toV (eC (.bool true))) (aNil))))))) (sRet (eC (.bool false))) (sNil)))
    (sSeq (sAsg 7 (eOp2 fAdd (toV (eC (.str "k"))) (toV (eSl (toV (eOp1 fStr (toV (eOp2 fAdd (toV (eC (.int 1000000))) (toV (eOp1 fInt (toV (eIxV 0 (toV (eC (.int 5))))))))))) (oSome (toV (eC (.int 1)))) (oNone)))))
    (sSeq (sIf (tOrD (tNotD (tTru (toV (eCall 2 d__law_is (aCons (toV (eCall 3 d_is_names (aCons (toV (eOpN fTup (aCons (toV (eOp2 fAdd (toV (eVar 7)) (toV (eC (.str "a"))))) (aCons (toV (eOp2 fAdd (toV (eVar 7)) (toV (eC (.str "b"))))) (aNil))))) (aCons (toV (eC (.int 0))) (aCons (toV (eC (.int 200))) (aNil)))))) (aCons (toV (eC (.bool true))) (aNil))))))) (tNotD (tTru (toV (eCall 2 d__law_is (aCons (toV (eCall 3 d_is_names (aCons (toV (eOpN fTup (aCons (toV (eOp2 fAdd (toV (eVar 7)) (toV (eC (.str "a"))))) (aCons (toV (eOp2 fAdd (toV (eVar 7)) (toV (eC (.str "a"))))) (aNil))))) (aCons (toV (eC (.int 0))) (aCons (toV (eC (.int 200))) (aNil)))))) (aCons (toV (eC (.bool false))) (aNil)))))))) (sRet (eC (.bool false))) (sNil))
    (sSeq (sIf (tOrD (tNotD (tTru (toV (eCall 2 d__law_is (aCons (toV (eCall 2 d_same (aCons (toV (eOp2 fAdd (toV (eVar 7)) (toV (eC (.str "a"))))) (aCons (toV (eOp2 fAdd (toV (eVar 7)) (toV (eC (.str "b"))))) (aNil))))) (aCons (toV (eC (.bool false))) (aNil))))))) (tNotD (tTru (toV (eCall 2 d__law_is (aCons (toV (eCall 1 d_is_name (aCons (toV (eOp2 fAdd (toV (eVar 7)) (toV (eC (.str "ab"))))) (aNil)))) (aCons (toV (eC (.bool false))) (aNil)))))))) (sRet (eC (.bool false))) (sNil))
    (sSeq (sIf (tBoolD (eOp2 fEq (toV (eVar 2)) (toV (eC (.int 0))))) (sRet (eC (.bool true))) (sNil))
    (sSeq (sAsg 8 (eOp2 fMod (toV (eOp1 fInt (toV (eIxV 0 (toV (eC (.int 4))))))) (toV (eVar 2))))
    (sSeq (sAsg 9 (eCall 2 d__law_odd_name (aCons (toV (eVar 3)) (aCons (toV (eIxV 0 (toV (eC (.int 5))))) (aNil)))))
    (sSeq (sIf (tAndD (tBoolD (eOp2 fIs (toV (eVar 9)) (toV (eC .none)))) (tAndD (tBoolD (eOp2 fEq (toV (eOp2 fMod (toV (eOp1 fInt (toV (eIxV 0 (toV (eC (.int 5))))))) (toV (eC (.int 3))))) (toV (eC (.int 0))))) (tBoolD (eOp2 fGt (toV (eVar 2)) (toV (eC (.int 1))))))) (sAsg 9 (eIxV 3 (toV (eOp2 fMod (toV (eOp1 fInt (toV (eOp2 fAdd (toV (eOp2 fAdd (toV (eVar 8)) (toV (eC (.int 1))))) (toV (eOp2 fMod (toV (eOp1 fInt (toV (eIxV 0 (toV (eC (.int 6))))))) (toV (eOp2 fSub (toV (eVar 2)) (toV (eC (.int 1))))))))))) (toV (eVar 2)))))) (sIf (tNotD (tTru (toV (eCall 2 d__law_is (aCons (toV (eCall 1 d_is_name (aCons (toV (eVar 9)) (aNil)))) (aCons (toV (eC (.bool false))) (aNil))))))) (sRet (eC (.bool false))) (sNil)))
    (sRet (eCall 4 d__law_held_names (aCons (toV (eOp2 fAdd (toV (eOp2 fAdd (toV (eSlV 3 (oNone) (oSome (toV (eVar 8))))) (toV (eOpN fTup (aCons (toV (eVar 9)) (aNil)))))) (toV (eSlV 3 (oSome (toV (eOp2 fAdd (toV (eVar 8)) (toV (eC (.int 1)))))) (oNone))))) (aCons (toV (eVar 4)) (aCons (toV (eVar 5)) (aCons (toV (eC (.bool false))) (aNil))))))))))))))))))))
def d__law_ask_names : Dn.Env → Res R := mkF 2 10 b__law_ask_names
def b__law_ask_rising : Dn.Env → SR := sSeq (sAsg 2 (eOp2 fMod (toV (eOp1 fInt (toV (eIxV 0 (toV (eC (.int 0))))))) (toV (eC (.int 201)))))
    (sSeq (sAsg 3 (eOp2 fMul (toV (eOp2 fSub (toV (eOp1 fInt (toV (eIxV 0 (toV (eC (.int 1))))))) (toV (eC (.int 2520))))) (toV (eOp2 fIx (toV (eOpN fLst (aCons (toV (eC (.int 1))) (aCons (toV (eOp2 fPow (toV (eC (.int 10))) (toV (eC (.int 20))))) (aNil))))) (toV (eOp2 fMod (toV (eOp1 fInt (toV (eIxV 0 (toV (eC (.int 1))))))) (toV (eC (.int 2)))))))))
    (sSeq (sAsg 4 (eOpN fLst (aNil)))
    (sSeq (sFor (gNm 5) (eRg1 (toV (eVar 2))) (sSeq (sAsg 10 (eOp1 fInt (toV (eIxV 1 (toV (eOp2 fMod (toV (eOp1 fInt (ePk 5))) (toV (eOp1 fLen (ePk 1)))))))))
    (sSeq (sAsg 3 (eOp2 fAdd (toV (eOp2 fAdd (toV (eVar 3)) (toV (eC (.int 1))))) (toV (eOp2 fMul (toV (eOp2 fFdiv (toV (eVar 10)) (toV (eC (.int 4))))) (toV (eOp2 fIx (toV (eOpN fLst (aCons (toV (eC (.int 0))) (aCons (toV (eC (.int 0))) (aCons (toV (eC (.int 1))) (aCons (toV (eOp2 fPow (toV (eC (.int 10))) (toV (eC (.int 26))))) (aNil))))))) (toV (eOp2 fMod (toV (eVar 10)) (toV (eC (.int 4)))))))))))
    (sApp 4 (eVar 3)))))
    (sSeq (sAsg 6 (eOp1 fTuple (ePk 4)))
    (sSeq (sIf (tOrD (tNotD (tTru (toV (eCall 2 d__law_is (aCons (toV (eCall 1 d_is_rising (aCons (toV (eVar 6)) (aNil)))) (aCons (toV (eC (.bool true))) (aNil))))))) (tNotD (tTru (toV (eCall 2 d__law_is (aCons (toV (eCall 1 d_is_rising (aCons (toV (eVar 4)) (aNil)))) (aCons (toV (eC (.bool false))) (aNil)))))))) (sRet (eC (.bool false))) (sNil))
    (sSeq (sIf (tBoolD (eOp2 fLt (toV (eVar 2)) (toV (eC (.int 2))))) (sRet (eC (.bool true))) (sNil))
    (sSeq (sAsg 7 (eOp2 fAdd (toV (eC (.int 1))) (toV (eOp2 fMod (toV (eOp1 fInt (toV (eIxV 0 (toV (eC (.int 2))))))) (toV (eOp2 fSub (toV (eVar 2)) (toV (eC (.int 1)))))))))
    (sSeq (sFor (gNm 8) (eIt (toV (eOpN fLst (aCons (toV (eIxV 6 (toV (eOp2 fSub (toV (eVar 7)) (toV (eC (.int 1))))))) (aCons (toV (eOp2 fSub (toV (eIxV 6 (toV (eOp2 fSub (toV (eVar 7)) (toV (eC (.int 1))))))) (toV (eC (.int 1))))) (aCons (toV (eC (.bool true))) (aCons (toV (eC .none)) (aCons (toV (eOp1 fStr (toV (eIxV 6 (toV (eVar 7)))))) (aCons (toV (eOpN fTup (aCons (toV (eIxV 6 (toV (eVar 7)))) (aNil)))) (aCons (toV (eOpN fLst (aCons (toV (eIxV 6 (toV (eVar 7)))) (aNil)))) (aNil))))))))))) (sIf (tNotD (tTru (toV (eCall 2 d__law_is (aCons (toV (eCall 1 d_is_rising (aCons (toV (eOp2 fAdd (toV (eOp2 fAdd (toV (eSlV 6 (oNone) (oSome (toV (eVar 7))))) (toV (eOpN fTup (aCons (toV (eVar 8)) (aNil)))))) (toV (eSlV 6 (oSome (toV (eOp2 fAdd (toV (eVar 7)) (toV (eC (.int 1)))))) (oNone))))) (aNil)))) (aCons (toV (eC (.bool false))) (aNil))))))) (sRet (eC (.bool false))) (sNil)))
    (sSeq (sFor (gNm 8) (eIt (toV (eOpN fLst (aCons (toV (eIxV 6 (toV (eC (.int 0))))) (aCons (toV (eIxV 6 (toV (eOp1 fNeg (toV (eC (.int 1))))))) (aCons (toV (eOp1 fNeg (toV (eIxV 6 (toV (eOp1 fNeg (toV (eC (.int 1))))))))) (aCons (toV (eC (.int 0))) (aNil)))))))) (sSeq (sAsg 11 (eChain fLe fLe (toV (eIxV 6 (toV (eC (.int 0))))) (toV (eVar 8)) (toV (eIxV 6 (toV (eOp1 fNeg (toV (eC (.int 1)))))))))
    (sIf (tOrD (tNotD (tTru (toV (eCall 2 d__law_is (aCons (toV (eCall 1 d_is_whole (aCons (toV (eVar 8)) (aNil)))) (aCons (toV (eC (.bool true))) (aNil))))))) (tNotD (tTru (toV (eCall 2 d__law_is (aCons (toV (eCall 3 d_is_whole_in (aCons (toV (eVar 8)) (aCons (toV (eIxV 6 (toV (eC (.int 0))))) (aCons (toV (eIxV 6 (toV (eOp1 fNeg (toV (eC (.int 1))))))) (aNil)))))) (aCons (toV (eVar 11)) (aNil)))))))) (sRet (eC (.bool false))) (sNil))))
    (sSeq (sAsg 9 (eOpN fLst (aCons (toV (eOpN fTup (aCons (toV (eOp2 fSub (toV (eIxV 6 (toV (eC (.int 0))))) (toV (eC (.int 1))))) (aCons (toV (eC (.bool false))) (aNil))))) (aCons (toV (eOpN fTup (aCons (toV (eOp2 fAdd (toV (eIxV 6 (toV (eOp1 fNeg (toV (eC (.int 1))))))) (toV (eC (.int 1))))) (aCons (toV (eC (.bool false))) (aNil))))) (aCons (toV (eOpN fTup (aCons (toV (eC (.bool true))) (aCons (toV (eC (.bool false))) (aNil))))) (aCons (toV (eOpN fTup (aCons (toV (eOp1 fStr (toV (eIxV 6 (toV (eC (.int 0))))))) (aCons (toV (eC (.bool false))) (aNil))))) (aCons (toV (eOpN fTup (aCons (toV (eC .none)) (aCons (toV (eC (.bool false))) (aNil))))) (aNil))))))))
    (sSeq (sFor (gTp 2 (gsCons (gNm 8) (gsCons (gNm 11) (gsNil)))) (eIt (toV (eVar 9))) (sIf (tNotD (tTru (toV (eCall 2 d__law_is (aCons (toV (eCall 3 d_is_whole_in (aCons (toV (eVar 8)) (aCons (toV (eIxV 6 (toV (eC (.int 0))))) (aCons (toV (eIxV 6 (toV (eOp1 fNeg (toV (eC (.int 1))))))) (aNil)))))) (aCons (toV (eVar 11)) (aNil))))))) (sRet (eC (.bool false))) (sNil)))
    (sRet (eC (.bool true))))))))))))))
def d__law_ask_rising : Dn.Env → Res R := mkF 2 12 b__law_ask_rising
def b__law_leaf : Dn.Env → SR := sRet (eOp2 fIx (toV (eOpN fLst (aCons (toV (eC (.int 0))) (aCons (toV (eC (.int 1))) (aCons (toV (eOp1 fNeg (toV (eC (.int 1))))) (aCons (toV (eC (.bool true))) (aCons (toV (eC (.bool false))) (aCons (toV (eC .none)) (aCons (toV (eC (.str ""))) (aCons (toV (eC (.str "a"))) (aCons (toV (eC (.str "yes"))) (aCons (toV (eOp2 fPow (toV (eC (.int 10))) (toV (eC (.int 30))))) (aCons (toV (eOpN fTup (aNil))) (aCons (toV (eOpN fTup (aCons (toV (eC (.int 1))) (aCons (toV (eC (.str "b"))) (aNil))))) (aNil))))))))))))))) (toV (eOp2 fMod (toV (eOp1 fInt (ePk 0))) (toV (eC (.int 12))))))
def d__law_leaf : Dn.Env → Res R := mkF 1 1 b__law_leaf
def b__law_tree : Dn.Env → SR := sSeq (sAsg 4 (eVar 3))
    (sSeq (sIf (tBoolD (eOp2 fNe (toV (eVar 2)) (toV (eC (.int 0))))) (sAsg 4 (eCall 1 d__law_leaf (aCons (toV (eIxV 1 (toV (eC (.int 0))))) (aNil)))) (sNil))
    (sSeq (sFor (gNm 5) (eRg2 (aCons (toV (eC (.int 1))) (aCons (toV (eOp2 fAdd (toV (eVar 0)) (toV (eC (.int 1))))) (aNil)))) (sSeq (sAsg 6 (eOp1 fInt (toV (eIxV 1 (toV (eOp2 fMod (toV (eOp1 fInt (ePk 5))) (toV (eOp1 fLen (ePk 1)))))))))
    (sSeq (sAsg 7 (eCall 1 d__law_leaf (aCons (toV (eVar 6)) (aNil))))
    (sSeq (sIf (tBoolD (eOp2 fEq (toV (eVar 5)) (toV (eVar 2)))) (sAsg 7 (eVar 3)) (sNil))
    (sAsg 4 (eOp2 fIx (toV (eOpN fLst (aCons (toV (eOpN fTup (aCons (toV (eVar 4)) (aCons (toV (eVar 7)) (aNil))))) (aCons (toV (eOpN fTup (aCons (toV (eVar 7)) (aCons (toV (eVar 4)) (aNil))))) (aCons (toV (eOpN fTup (aCons (toV (eVar 7)) (aCons (toV (eVar 4)) (aCons (toV (eVar 7)) (aNil)))))) (aNil)))))) (toV (eOp2 fMod (toV (eOp2 fFdiv (toV (eVar 6)) (toV (eC (.int 12))))) (toV (eC (.int 3)))))))))))
    (sRet (eVar 4))))
def d__law_tree : Dn.Env → Res R := mkF 4 8 b__law_tree
def b__law_ask_trees : Dn.Env → SR := sSeq (sAsg 2 (eOp2 fAdd (toV (eC (.int 1))) (toV (eOp2 fMod (toV (eOp1 fInt (toV (eIxV 0 (toV (eC (.int 0))))))) (toV (eC (.int 150)))))))
    (sSeq (sAsg 3 (eOp2 fMod (toV (eOp1 fInt (toV (eIxV 0 (toV (eC (.int 1))))))) (toV (eOp2 fAdd (toV (eVar 2)) (toV (eC (.int 1)))))))
    (sSeq (sAsg 4 (eOpN fLst (aCons (toV (eOpN fTup (aCons (toV (eC (.int 1))) (aCons (toV (eC (.bool true))) (aNil))))) (aCons (toV (eOpN fTup (aCons (toV (eC (.int 0))) (aCons (toV (eC (.bool false))) (aNil))))) (aCons (toV (eOpN fTup (aCons (toV (eC (.str ""))) (aCons (toV (eOpN fTup (aNil))) (aNil))))) (aCons (toV (eOpN fTup (aCons (toV (eC .none)) (aCons (toV (eC (.int 0))) (aNil))))) (aCons (toV (eOpN fTup (aCons (toV (eC (.str "a"))) (aCons (toV (eC (.str "b"))) (aNil))))) (aCons (toV (eOpN fTup (aCons (toV (eOpN fTup (aCons (toV (eC (.int 1))) (aNil)))) (aCons (toV (eOpN fTup (aCons (toV (eC (.int 1))) (aCons (toV (eC (.int 1))) (aNil))))) (aNil))))) (aCons (toV (eOpN fTup (aCons (toV (eC (.bool false))) (aCons (toV (eC .none)) (aNil))))) (aCons (toV (eOpN fTup (aCons (toV (eC (.str "1"))) (aCons (toV (eC (.int 1))) (aNil))))) (aCons (toV (eOpN fTup (aCons (toV (eOp1 fNeg (toV (eC (.int 1))))) (aCons (toV (eC (.int 1))) (aNil))))) (aCons (toV (eOpN fTup (aCons (toV (eOp2 fPow (toV (eC (.int 10))) (toV (eC (.int 30))))) (aCons (toV (eOp2 fAdd (toV (eOp2 fPow (toV (eC (.int 10))) (toV (eC (.int 30))))) (toV (eC (.int 1))))) (aNil))))) (aCons (toV (eOpN fTup (aCons (toV (eOpN fTup (aNil))) (aCons (toV (eC .none)) (aNil))))) (aNil))))))))))))))
    (sSeq (sAsgG (gTp 2 (gsCons (gNm 9) (gsCons (gNm 10) (gsNil)))) (toV (eIxV 4 (toV (eOp2 fMod (toV (eOp1 fInt (toV (eIxV 0 (toV (eC (.int 2))))))) (toV (eC (.int 11))))))))
    (sSeq (sAsg 5 (eCall 4 d__law_tree (aCons (toV (eVar 2)) (aCons (toV (eVar 1)) (aCons (toV (eVar 3)) (aCons (toV (eVar 9)) (aNil)))))))
    (sSeq (sAsg 6 (eCall 4 d__law_tree (aCons (toV (eVar 2)) (aCons (toV (eVar 1)) (aCons (toV (eVar 3)) (aCons (toV (eVar 9)) (aNil)))))))
    (sSeq (sAsg 7 (eCall 4 d__law_tree (aCons (toV (eVar 2)) (aCons (toV (eVar 1)) (aCons (toV (eVar 3)) (aCons (toV (eVar 10)) (aNil)))))))
    (sSeq (sIf (tOrD (tNotD (tTru (toV (eCall 2 d__law_is (aCons (toV (eCall 2 d_same (aCons (toV (eVar 5)) (aCons (toV (eVar 6)) (aNil))))) (aCons (toV (eC (.bool true))) (aNil))))))) (tNotD (tTru (toV (eCall 2 d__law_is (aCons (toV (eCall 2 d_same (aCons (toV (eVar 6)) (aCons (toV (eVar 5)) (aNil))))) (aCons (toV (eC (.bool true))) (aNil)))))))) (sRet (eC (.bool false))) (sNil))
    (sSeq (sIf (tOrD (tNotD (tTru (toV (eCall 2 d__law_is (aCons (toV (eCall 2 d_same (aCons (toV (eVar 5)) (aCons (toV (eVar 7)) (aNil))))) (aCons (toV (eC (.bool false))) (aNil))))))) (tNotD (tTru (toV (eCall 2 d__law_is (aCons (toV (eCall 2 d_same (aCons (toV (eVar 7)) (aCons (toV (eVar 5)) (aNil))))) (aCons (toV (eC (.bool false))) (aNil)))))))) (sRet (eC (.bool false))) (sNil))
    (sSeq (sFor (gNm 8) (eIt (toV (eOpN fLst (aCons (toV (eOpN fLst (aNil))) (aCons (toV (eOpN fLst (aCons (toV (eC (.int 1))) (aNil)))) (aCons (toV (eDic0)) (aNil))))))) (sSeq (sAsg 11 (eCall 4 d__law_tree (aCons (toV (eVar 2)) (aCons (toV (eVar 1)) (aCons (toV (eVar 3)) (aCons (toV (eVar 8)) (aNil)))))))
    (sIf (tOrD (tNotD (tTru (toV (eCall 2 d__law_is (aCons (toV (eCall 1 d_is_plain (aCons (toV (eVar 11)) (aNil)))) (aCons (toV (eC (.bool false))) (aNil))))))) (tOrD (tNotD (tTru (toV (eCall 2 d__law_is (aCons (toV (eCall 2 d_same (aCons (toV (eVar 11)) (aCons (toV (eVar 11)) (aNil))))) (aCons (toV (eC (.bool false))) (aNil))))))) (tNotD (tTru (toV (eCall 2 d__law_is (aCons (toV (eCall 2 d_same (aCons (toV (eVar 5)) (aCons (toV (eVar 11)) (aNil))))) (aCons (toV (eC (.bool false))) (aNil))))))))) (sRet (eC (.bool false))) (sNil))))
    (sSeq (sFor (gTp 2 (gsCons (gNm 12) (gsCons (gNm 13) (gsNil)))) (eIt (toV (eOpN fLst (aCons (toV (eOpN fTup (aCons (toV (eVar 5)) (aCons (toV (eC (.bool true))) (aNil))))) (aCons (toV (eOpN fTup (aCons (toV (eVar 7)) (aCons (toV (eC (.bool true))) (aNil))))) (aCons (toV (eOpN fTup (aCons (toV (eOpN fLst (aCons (toV (eVar 5)) (aNil)))) (aCons (toV (eC (.bool false))) (aNil))))) (aNil))))))) (sIf (tNotD (tTru (toV (eCall 2 d__law_is (aCons (toV (eCall 1 d_is_plain (aCons (toV (eVar 12)) (aNil)))) (aCons (toV (eVar 13)) (aNil))))))) (sRet (eC (.bool false))) (sNil)))
    (sSeq (sFor (gTp 2 (gsCons (gNm 12) (gsCons (gNm 13) (gsNil)))) (eIt (toV (eOpN fLst (aCons (toV (eOpN fTup (aCons (toV (eOpN fTup (aCons (toV (eC (.str "yes"))) (aCons (toV (eVar 5)) (aNil))))) (aCons (toV (eC (.bool true))) (aNil))))) (aCons (toV (eOpN fTup (aCons (toV (eOpN fTup (aCons (toV (eC (.str "no"))) (aCons (toV (eVar 7)) (aNil))))) (aCons (toV (eC (.bool true))) (aNil))))) (aCons (toV (eOpN fTup (aCons (toV (eOpN fTup (aCons (toV (eC (.str "Yes"))) (aCons (toV (eVar 5)) (aNil))))) (aCons (toV (eC (.bool false))) (aNil))))) (aCons (toV (eOpN fTup (aCons (toV (eOpN fTup (aCons (toV (eC (.str "yes"))) (aCons (toV (eVar 5)) (aCons (toV (eVar 5)) (aNil)))))) (aCons (toV (eC (.bool false))) (aNil))))) (aCons (toV (eOpN fTup (aCons (toV (eOpN fLst (aCons (toV (eC (.str "no"))) (aCons (toV (eVar 5)) (aNil))))) (aCons (toV (eC (.bool false))) (aNil))))) (aNil))))))))) (sIf (tNotD (tTru (toV (eCall 2 d__law_is (aCons (toV (eCall 1 d_is_answer (aCons (toV (eVar 12)) (aNil)))) (aCons (toV (eVar 13)) (aNil))))))) (sRet (eC (.bool false))) (sNil)))
    (sRet (eCall 2 d__law_is (aCons (toV (eCall 1 d_is_answer (aCons (toV (eOpN fTup (aCons (toV (eVar 5)) (aCons (toV (eC (.str "yes"))) (aNil))))) (aNil)))) (aCons (toV (eC (.bool false))) (aNil))))))))))))))))
def d__law_ask_trees : Dn.Env → Res R := mkF 2 14 b__law_ask_trees
def b_law : Dn.Env → SR := sSeq (sAsg 1 (eCall 3 d__law_draws (aCons (toV (eVar 0)) (aCons (toV (eC (.int 0))) (aCons (toV (eC (.int 20))) (aNil))))))
    (sSeq (sIf (tNotD (tTru (toV (eCall 2 d__law_ask_names (aCons (toV (eSlV 1 (oSome (toV (eC (.int 0)))) (oSome (toV (eC (.int 7)))))) (aCons (toV (eCall 3 d__law_draws (aCons (toV (eVar 0)) (aCons (toV (eC (.int 1))) (aCons (toV (eC (.int 50))) (aNil)))))) (aNil))))))) (sRet (eC (.bool false))) (sNil))
    (sSeq (sIf (tNotD (tTru (toV (eCall 2 d__law_ask_rising (aCons (toV (eSlV 1 (oSome (toV (eC (.int 7)))) (oSome (toV (eC (.int 10)))))) (aCons (toV (eCall 3 d__law_draws (aCons (toV (eVar 0)) (aCons (toV (eC (.int 2))) (aCons (toV (eC (.int 50))) (aNil)))))) (aNil))))))) (sRet (eC (.bool false))) (sNil))
    (sRet (eAndD (eCall 2 d__law_ask_trees (aCons (toV (eSlV 1 (oSome (toV (eC (.int 10)))) (oSome (toV (eC (.int 13)))))) (aCons (toV (eCall 3 d__law_draws (aCons (toV (eVar 0)) (aCons (toV (eC (.int 3))) (aCons (toV (eC (.int 50))) (aNil)))))) (aNil)))) (eCall 2 d__law_ask_names (aCons (toV (eSlV 1 (oSome (toV (eC (.int 13)))) (oSome (toV (eC (.int 20)))))) (aCons (toV (eCall 3 d__law_draws (aCons (toV (eVar 0)) (aCons (toV (eC (.int 4))) (aCons (toV (eC (.int 50))) (aNil)))))) (aNil))))))))
def d_law : Dn.Env → Res R := mkF 1 2 b_law
end
end Law
set_option Elab.async false
set_option linter.all false
set_option maxRecDepth 100000
set_option maxHeartbeats 1000000
/-! Dm1: plain Lean about dens: evaluation by simp, loops by rules -/
namespace Dn
open PySem L2

/-! ### evaluation -/
section
variable {α β : Type} {ρ : Dn.Env} {s t : Dn.Env → SR} {i j : Nat} {a b : Dn.Env → Res D} {m : Dn.Env → Res R} {tb tc : Dn.Env → Res Bool} {f : D → D → Option R}
@[simp] theorem gS_zero {s : Sl} {r : Dn.Env} : gS (s :: r) 0 = s := id rfl
@[simp] theorem gS_succ {s : Sl} {r : Dn.Env} {i : Nat} : gS (s :: r) (i + 1) = gS r i := id rfl
@[simp] theorem sS_zero {s t : Sl} {r : Dn.Env} : sS (s :: r) 0 t = t :: r := id rfl
@[simp] theorem sS_succ {s t : Sl} {r : Dn.Env} {i : Nat} : sS (s :: r) (i + 1) t = s :: sS r i t := id rfl
@[simp] theorem toD_val {d : D} : (R.val d).toD = d := id rfl
@[simp] theorem toD_fresh {c : Cell} : (R.fresh c).toD = c.toD := id rfl
@[simp] theorem toD_lst {xs : List D} : (Cell.lst xs).toD = .list xs := id rfl
@[simp] theorem sl_val {d : D} : (R.val d).sl = .val d := id rfl
@[simp] theorem sl_fresh {c : Cell} : (R.fresh c).sl = .own c := id rfl
theorem ite_b {γ : Sort _} {c : Bool} {x y : γ} : (match c with | true => x | false => y) = if c = true then x else y := by cases c <;> rfl
def toVk (r : Res R) : Res D := bindR r fun r ρ1 => .ok r.toD ρ1
@[simp] theorem toVk_ok {r : R} : toVk (.ok r ρ) = .ok r.toD ρ := id rfl
@[simp] theorem toVk_exc {c : Str} : toVk (.exc c ρ) = .exc c ρ := id rfl
@[simp] theorem toV_ap : toV m ρ = toVk (m ρ) := id rfl
def o2b (f : D → D → Option R) (x : D) (r : Res D) : Res R := bindR r fun y ρ2 => optR (f x y) ρ2
@[simp] theorem o2b_ok {x y : D} : o2b f x (.ok y ρ) = optR (f x y) ρ := id rfl
@[simp] theorem o2b_exc {x : D} {c : Str} : o2b f x (.exc c ρ) = .exc c ρ := id rfl
def o2a (f : D → D → Option R) (b : Dn.Env → Res D) (r : Res D) : Res R := bindR r fun x ρ1 => o2b f x (b ρ1)
@[simp] theorem o2a_ok {x : D} : o2a f b (.ok x ρ) = o2b f x (b ρ) := id rfl
@[simp] theorem o2a_exc {c : Str} : o2a f b (.exc c ρ) = .exc c ρ := id rfl
@[simp] theorem eOp2_ap : eOp2 f a b ρ = o2a f b (a ρ) := id rfl
def o1 (f : D → Option R) (r : Res D) : Res R := bindR r fun x ρ1 => optR (f x) ρ1
@[simp] theorem o1_ok {f : D → Option R} {x : D} : o1 f (.ok x ρ) = optR (f x) ρ := id rfl
@[simp] theorem o1_exc {f : D → Option R} {c : Str} : o1 f (.exc c ρ) = .exc c ρ := id rfl
@[simp] theorem eOp1_ap {f : D → Option R} : eOp1 f a ρ = o1 f (a ρ) := id rfl
def oN (f : List D → Option R) (r : Res (List D)) : Res R := bindR r fun x ρ1 => optR (f x) ρ1
@[simp] theorem oN_ok {f : List D → Option R} {x : List D} : oN f (.ok x ρ) = optR (f x) ρ := id rfl
@[simp] theorem oN_exc {f : List D → Option R} {c : Str} : oN f (.exc c ρ) = .exc c ρ := id rfl
@[simp] theorem eOpN_ap {f : List D → Option R} {a : Dn.Env → Res (List D)} : eOpN f a ρ = oN f (a ρ) := id rfl
@[simp] theorem eVar_ap : eVar i ρ = match gS ρ i with
  | .val d => .ok (.val d) ρ
  | .own c => .ok (.val c.toD) (sS ρ i (.val c.toD))
  | _ => .bad := id rfl
@[simp] theorem ePk_ap : ePk i ρ = match gS ρ i with
  | .val d => .ok d ρ
  | .own c => .ok c.toD ρ
  | .bor c => .ok c.toD ρ
  | .emp => .bad := id rfl
@[simp] theorem eC_ap {d : D} : eC d ρ = .ok (.val d) ρ := id rfl
@[simp] theorem aNil_ap : aNil ρ = .ok [] ρ := id rfl
def ac2 (x : D) (r : Res (List D)) : Res (List D) := bindR r fun xs ρ2 => .ok (x :: xs) ρ2
@[simp] theorem ac2_ok {x : D} {xs : List D} : ac2 x (.ok xs ρ) = .ok (x :: xs) ρ := id rfl
@[simp] theorem ac2_exc {x : D} {c : Str} : ac2 x (.exc c ρ) = .exc c ρ := id rfl
def ac1 (m : Dn.Env → Res (List D)) (r : Res D) : Res (List D) := bindR r fun x ρ1 => ac2 x (m ρ1)
@[simp] theorem ac1_ok {m : Dn.Env → Res (List D)} {x : D} : ac1 m (.ok x ρ) = ac2 x (m ρ) := id rfl
@[simp] theorem ac1_exc {m : Dn.Env → Res (List D)} {c : Str} : ac1 m (.exc c ρ) = .exc c ρ := id rfl
@[simp] theorem aCons_ap {r : Dn.Env → Res (List D)} : aCons a r ρ = ac1 r (a ρ) := id rfl
@[simp] theorem asB_b {c : Bool} : asB (.val (.bool c)) = some c := id rfl
def tBk (r : Res R) : Res Bool := bindR r fun r ρ1 => optR (asB r) ρ1
@[simp] theorem tBk_ok {r : R} : tBk (.ok r ρ) = optR (asB r) ρ := id rfl
@[simp] theorem tBk_exc {c : Str} : tBk (.exc c ρ) = .exc c ρ := id rfl
@[simp] theorem tBoolD_ap : tBoolD m ρ = tBk (m ρ) := id rfl
def tAk (t : Dn.Env → Res Bool) (r : Res Bool) : Res Bool := bindR r fun c ρ1 => if c = true then t ρ1 else .ok false ρ1
@[simp] theorem tAk_ok {c : Bool} : tAk tc (.ok c ρ) = if c = true then tc ρ else .ok false ρ := id rfl
@[simp] theorem tAk_exc {c : Str} : tAk tc (.exc c ρ) = .exc c ρ := id rfl
@[simp] theorem tAndD_ap : tAndD tb tc ρ = tAk tc (tb ρ) := by
  unfold tAndD tAk; congr; funext c ρ1; cases c <;> rfl
def tOk (t : Dn.Env → Res Bool) (r : Res Bool) : Res Bool := bindR r fun c ρ1 => if c = true then .ok true ρ1 else t ρ1
@[simp] theorem tOk_ok {c : Bool} : tOk tc (.ok c ρ) = if c = true then .ok true ρ else tc ρ := id rfl
@[simp] theorem tOk_exc {c : Str} : tOk tc (.exc c ρ) = .exc c ρ := id rfl
@[simp] theorem tOrD_ap : tOrD tb tc ρ = tOk tc (tb ρ) := by
  unfold tOrD tOk; congr; funext c ρ1; cases c <;> rfl
def tNk (r : Res Bool) : Res Bool := bindR r fun c ρ1 => .ok (!c) ρ1
@[simp] theorem tNk_ok {c : Bool} : tNk (.ok c ρ) = .ok (!c) ρ := id rfl
@[simp] theorem tNk_exc {c : Str} : tNk (.exc c ρ) = .exc c ρ := id rfl
@[simp] theorem tNotD_ap : tNotD tb ρ = tNk (tb ρ) := id rfl
def andR (r : R) (k : Dn.Env → Res R) (ρ : Dn.Env) : Res R := match r with | .val (.bool c) => if c = true then k ρ else .ok (.val (.bool false)) ρ | _ => .bad
def orR (r : R) (k : Dn.Env → Res R) (ρ : Dn.Env) : Res R := match r with | .val (.bool c) => if c = true then .ok (.val (.bool true)) ρ else k ρ | _ => .bad
@[simp] theorem andR_b {c : Bool} {k : Dn.Env → Res R} : andR (.val (.bool c)) k ρ = if c = true then k ρ else .ok (.val (.bool false)) ρ := id rfl
@[simp] theorem orR_b {c : Bool} {k : Dn.Env → Res R} : orR (.val (.bool c)) k ρ = if c = true then .ok (.val (.bool true)) ρ else k ρ := id rfl
variable {x y : Dn.Env → Res R}
def eAk (y : Dn.Env → Res R) (r : Res R) : Res R := bindR r fun r ρ1 => andR r y ρ1
@[simp] theorem eAk_ok {r : R} : eAk y (.ok r ρ) = andR r y ρ := id rfl
@[simp] theorem eAk_exc {c : Str} : eAk y (.exc c ρ) = .exc c ρ := id rfl
@[simp] theorem eAndD_ap : eAndD x y ρ = eAk y (x ρ) := by
  unfold eAndD eAk; congr; funext r ρ1
  unfold andR
  cases r with
  | fresh c => rfl
  | val d => cases d with
    | bool b => cases b <;> rfl
    | _ => rfl
def eOk (y : Dn.Env → Res R) (r : Res R) : Res R := bindR r fun r ρ1 => orR r y ρ1
@[simp] theorem eOk_ok {r : R} : eOk y (.ok r ρ) = orR r y ρ := id rfl
@[simp] theorem eOk_exc {c : Str} : eOk y (.exc c ρ) = .exc c ρ := id rfl
@[simp] theorem eOrD_ap : eOrD x y ρ = eOk y (x ρ) := by
  unfold eOrD eOk; congr; funext r ρ1
  unfold orR
  cases r with
  | fresh c => rfl
  | val d => cases d with
    | bool b => cases b <;> rfl
    | _ => rfl
def notR (r : R) (ρ : Dn.Env) : Res R := match r with | .val (.bool c) => .ok (.val (.bool (!c))) ρ | _ => .bad
@[simp] theorem notR_b {c : Bool} : notR (.val (.bool c)) ρ = .ok (.val (.bool (!c))) ρ := id rfl
def eNk (r : Res R) : Res R := bindR r fun r ρ1 => notR r ρ1
@[simp] theorem eNk_ok {r : R} : eNk (.ok r ρ) = notR r ρ := id rfl
@[simp] theorem eNk_exc {c : Str} : eNk (.exc c ρ) = .exc c ρ := id rfl
@[simp] theorem eNotD_ap : eNotD x ρ = eNk (x ρ) := by
  rfl
def eIk (x y : Dn.Env → Res R) (r : Res Bool) : Res R := bindR r fun c ρ1 => if c = true then x ρ1 else y ρ1
@[simp] theorem eIk_ok {c : Bool} : eIk x y (.ok c ρ) = if c = true then x ρ else y ρ := id rfl
@[simp] theorem eIk_exc {c : Str} : eIk x y (.exc c ρ) = .exc c ρ := id rfl
@[simp] theorem eIfD_ap : eIfD tb x y ρ = eIk x y (tb ρ) := by
  unfold eIfD eIk; congr; funext c ρ1; cases c <;> rfl
def ch4 (g : D → D → Option R) (y : D) (c : Dn.Env → Res D) : Dn.Env → Res R := fun ρ => o2b g y (c ρ)
@[simp] theorem ch4_ap {g : D → D → Option R} {y : D} {c : Dn.Env → Res D} : ch4 g y c ρ = o2b g y (c ρ) := id rfl
def ch3 (g : D → D → Option R) (y : D) (c : Dn.Env → Res D) (r : Res R) : Res R := bindR r fun r ρ3 => andR r (ch4 g y c) ρ3
@[simp] theorem ch3_ok {g : D → D → Option R} {y : D} {c : Dn.Env → Res D} {r : R} : ch3 g y c (.ok r ρ) = andR r (ch4 g y c) ρ := id rfl
def ch2 (f g : D → D → Option R) (x : D) (c : Dn.Env → Res D) (r : Res D) : Res R := bindR r fun y ρ2 => ch3 g y c (optR (f x y) ρ2)
@[simp] theorem ch2_ok {f g : D → D → Option R} {x y : D} {c : Dn.Env → Res D} : ch2 f g x c (.ok y ρ) = ch3 g y c (optR (f x y) ρ) := id rfl
@[simp] theorem ch2_exc {f g : D → D → Option R} {x : D} {c : Dn.Env → Res D} {z : Str} : ch2 f g x c (.exc z ρ) = .exc z ρ := id rfl
def ch1 (f g : D → D → Option R) (b c : Dn.Env → Res D) (r : Res D) : Res R := bindR r fun x ρ1 => ch2 f g x c (b ρ1)
@[simp] theorem ch1_ok {f g : D → D → Option R} {x : D} {b c : Dn.Env → Res D} : ch1 f g b c (.ok x ρ) = ch2 f g x c (b ρ) := id rfl
@[simp] theorem ch1_exc {f g : D → D → Option R} {b c : Dn.Env → Res D} {z : Str} : ch1 f g b c (.exc z ρ) = .exc z ρ := id rfl
@[simp] theorem eChain_ap {f g : D → D → Option R} {a b c : Dn.Env → Res D} : eChain f g a b c ρ = ch1 f g b c (a ρ) := by
  unfold eChain ch1 ch2 ch3 ch4; congr; funext x ρ1; congr; funext y ρ2; congr; funext r ρ3
  unfold andR o2b
  cases r with
  | fresh c => rfl
  | val d => cases d with
    | bool b => cases b <;> rfl
    | _ => rfl
def tTk (r : Res D) : Res Bool := bindR r fun d ρ1 => optR (truD d) ρ1
@[simp] theorem tTk_ok {d : D} : tTk (.ok d ρ) = optR (truD d) ρ := id rfl
@[simp] theorem tTk_exc {c : Str} : tTk (.exc c ρ) = .exc c ρ := id rfl
@[simp] theorem tTru_ap : tTru a ρ = tTk (a ρ) := id rfl
@[simp] theorem truD_bool {c : Bool} : truD (.bool c) = some c := id rfl
@[simp] theorem truD_int {i : Int} : truD (.int i) = some (i != 0) := id rfl
@[simp] theorem truD_non : truD .none = some false := id rfl
@[simp] theorem truD_list {ds : List D} : truD (.list ds) = some (!ds.isEmpty) := id rfl
@[simp] theorem truD_tuple {ds : List D} : truD (.tuple ds) = some (!ds.isEmpty) := id rfl
@[simp] theorem sSeq_ap : sSeq s t ρ = bindS (s ρ) t := id rfl
@[simp] theorem sNil_ap : sNil ρ = .nx ρ := id rfl
def sIk (s t : Dn.Env → SR) (r : Res Bool) : SR := bindRS r fun c ρ1 => if c = true then s ρ1 else t ρ1
@[simp] theorem sIk_ok {c : Bool} : sIk s t (.ok c ρ) = if c = true then s ρ else t ρ := id rfl
@[simp] theorem sIk_exc {c : Str} : sIk s t (.exc c ρ) = .exc c ρ := id rfl
@[simp] theorem sIf_ap : sIf tb s t ρ = sIk s t (tb ρ) := by
  unfold sIf sIk; congr; funext c ρ1; cases c <;> rfl
def sRk (r : Res R) : SR := bindRS r fun r ρ1 => .ret r ρ1
@[simp] theorem sRk_ok {r : R} : sRk (.ok r ρ) = .ret r ρ := id rfl
@[simp] theorem sRk_exc {c : Str} : sRk (.exc c ρ) = .exc c ρ := id rfl
@[simp] theorem sRet_ap : sRet m ρ = sRk (m ρ) := id rfl
@[simp] theorem sRetN_ap : sRetN ρ = .ret (.val .none) ρ := id rfl
def sDk (r : Res R) : SR := bindRS r fun _ ρ1 => .nx ρ1
@[simp] theorem sDk_ok {r : R} : sDk (.ok r ρ) = .nx ρ := id rfl
@[simp] theorem sDk_exc {c : Str} : sDk (.exc c ρ) = .exc c ρ := id rfl
@[simp] theorem sDrop_ap : sDrop m ρ = sDk (m ρ) := id rfl
def sAk (i : Nat) (r : Res R) : SR := bindRS r fun r ρ1 => putR i r ρ1
@[simp] theorem sAk_ok {r : R} : sAk i (.ok r ρ) = putR i r ρ := id rfl
@[simp] theorem sAk_exc {c : Str} : sAk i (.exc c ρ) = .exc c ρ := id rfl
@[simp] theorem sAsg_ap : sAsg i m ρ = sAk i (m ρ) := id rfl
theorem putR_ap {r : R} : putR i r ρ = match gS ρ i with
  | .bor _ => .bad
  | _ => .nx (sS ρ i r.sl) := id rfl
def ofO (o : Option Dn.Env) : SR := match o with
  | some ρ2 => .nx ρ2
  | none => .bad
@[simp] theorem ofO_some : ofO (some ρ) = .nx ρ := id rfl
def sGk (g : D → Dn.Env → Option Dn.Env) (r : Res D) : SR := bindRS r fun d ρ1 => ofO (g d ρ1)
@[simp] theorem sGk_ok {g : D → Dn.Env → Option Dn.Env} {d : D} : sGk g (.ok d ρ) = ofO (g d ρ) := id rfl
@[simp] theorem sGk_exc {g : D → Dn.Env → Option Dn.Env} {c : Str} : sGk g (.exc c ρ) = .exc c ρ := id rfl
@[simp] theorem sAsgG_ap {g : D → Dn.Env → Option Dn.Env} : sAsgG g a ρ = sGk g (a ρ) := id rfl
def sP2 (i j : Nat) (ds : List D) (ρ : Dn.Env) : SR := match ds with
  | [x, y] => bindS (putR i (.val x) ρ) (putR j (.val y))
  | _ => .bad
@[simp] theorem sP2_2 {x y : D} : sP2 i j [x, y] ρ = bindS (putR i (.val x) ρ) (putR j (.val y)) := id rfl
def sPk (i j : Nat) (r : Res (List D)) : SR := bindRS r fun ds ρ1 => sP2 i j ds ρ1
@[simp] theorem sPk_ok {ds : List D} : sPk i j (.ok ds ρ) = sP2 i j ds ρ := id rfl
@[simp] theorem sPk_exc {c : Str} : sPk i j (.exc c ρ) = .exc c ρ := id rfl
@[simp] theorem sPar_ap {m : Dn.Env → Res (List D)} : sPar i j m ρ = sPk i j (m ρ) := by
  rfl
theorem gNm_ap {d : D} : gNm i d ρ = match gS ρ i with
  | .bor _ => none
  | _ => some (sS ρ i (.val d)) := id rfl
@[simp] theorem gTp_ap {n : Nat} {g : List D → Dn.Env → Option Dn.Env} {ds : List D} : gTp n g (.tuple ds) ρ = if ds.length = n then g ds ρ else none := id rfl
@[simp] theorem gsNil_ap : gsNil [] ρ = some ρ := id rfl
def gcK (h : List D → Dn.Env → Option Dn.Env) (ds : List D) (o : Option Dn.Env) : Option Dn.Env := o.bind fun ρ1 => h ds ρ1
@[simp] theorem gcK_some {h : List D → Dn.Env → Option Dn.Env} {ds : List D} : gcK h ds (some ρ) = h ds ρ := id rfl
@[simp] theorem gsCons_ap {g : D → Dn.Env → Option Dn.Env} {h : List D → Dn.Env → Option Dn.Env} {d : D} {ds : List D} : gsCons g h (d :: ds) ρ = gcK h ds (g d ρ) := by
  show (match g d ρ with | some ρ1 => h ds ρ1 | none => none) = _
  cases g d ρ <;> rfl
def sFk (g : D → Dn.Env → Option Dn.Env) (s : Dn.Env → SR) (r : Res (List D)) : SR := bindRS r fun ds ρ1 => forL g s ds ρ1
@[simp] theorem sFk_ok {g : D → Dn.Env → Option Dn.Env} {ds : List D} : sFk g s (.ok ds ρ) = forL g s ds ρ := id rfl
@[simp] theorem sFk_exc {g : D → Dn.Env → Option Dn.Env} {c : Str} : sFk g s (.exc c ρ) = .exc c ρ := id rfl
@[simp] theorem sFor_ap {g : D → Dn.Env → Option Dn.Env} {m : Dn.Env → Res (List D)} : sFor g m s ρ = sFk g s (m ρ) := id rfl
theorem sWhile_ap : sWhile tb s ρ = whileL tb s fuel ρ := rfl
def itk (r : Res D) : Res (List D) := bindR r fun d ρ1 => optR (iterD d) ρ1
@[simp] theorem itk_ok {d : D} : itk (.ok d ρ) = optR (iterD d) ρ := id rfl
@[simp] theorem itk_exc {c : Str} : itk (.exc c ρ) = .exc c ρ := id rfl
@[simp] theorem eIt_ap : eIt a ρ = itk (a ρ) := id rfl
@[simp] theorem iterD_list {ds : List D} : iterD (.list ds) = some ds := id rfl
@[simp] theorem iterD_tuple {ds : List D} : iterD (.tuple ds) = some ds := id rfl
@[simp] theorem iterD_str {z : Str} : iterD (.str z) = some (z.cps.toList.map fun c => .str ⟨#[c]⟩) := id rfl
def rg1k (r : Res D) : Res (List D) := bindR r fun d ρ1 => optR (rg1 d) ρ1
@[simp] theorem rg1k_ok {d : D} : rg1k (.ok d ρ) = optR (rg1 d) ρ := id rfl
@[simp] theorem rg1k_exc {c : Str} : rg1k (.exc c ρ) = .exc c ρ := id rfl
@[simp] theorem eRg1_ap : eRg1 a ρ = rg1k (a ρ) := id rfl
def rgA : List D → Option (List D)
  | [a, b] => rg2 a b
  | _ => none
@[simp] theorem rgA_2 {a b : D} : rgA [a, b] = rg2 a b := id rfl
def rg2k (r : Res (List D)) : Res (List D) := bindR r fun d ρ1 => optR (rgA d) ρ1
@[simp] theorem rg2k_ok {d : List D} : rg2k (.ok d ρ) = optR (rgA d) ρ := id rfl
@[simp] theorem rg2k_exc {c : Str} : rg2k (.exc c ρ) = .exc c ρ := id rfl
@[simp] theorem eRg2_ap {m : Dn.Env → Res (List D)} : eRg2 m ρ = rg2k (m ρ) := by
  unfold eRg2 rg2k; congr; funext ds ρ1
  match ds with
  | [] => rfl
  | [_] => rfl
  | [_, _] => rfl
  | _ :: _ :: _ :: _ => rfl
theorem rg1_ok {n : Int} (h1 : -4611686018427387904 ≤ n) (h2 : n < 4611686018427387904) : rg1 (.int n) = some (rgD 0 n.toNat) := by
  show (if inB n = true then _ else _) = _
  rw [if_pos]
  unfold inB
  exact decide_eq_true ⟨h1, h2⟩
theorem rg2_ok {a b : Int} (h1 : -4611686018427387904 ≤ a) (h2 : a < 4611686018427387904) (h3 : -4611686018427387904 ≤ b) (h4 : b < 4611686018427387904) : rg2 (.int a) (.int b) = some (rgD a (b - a).toNat) := by
  show (if inB a = true ∧ inB b = true then _ else _) = _
  rw [if_pos]
  unfold inB
  exact ⟨decide_eq_true ⟨h1, h2⟩, decide_eq_true ⟨h3, h4⟩⟩
@[simp] theorem oNone_ap : oNone ρ = .ok none ρ := id rfl
@[simp] theorem asI_int {i : Int} : asI (.int i) = some (some i) := id rfl
def osk (r : Res D) : Res (Option Int) := bindR r fun d ρ1 => optR (asI d) ρ1
@[simp] theorem osk_ok {d : D} : osk (.ok d ρ) = optR (asI d) ρ := id rfl
@[simp] theorem oSome_ap : oSome a ρ = osk (a ρ) := id rfl
def sl4 (lo hi : Option Int) (r : Res D) : Res R := bindR r fun x ρ3 => optR (fSl x lo hi) ρ3
@[simp] theorem sl4_ok {lo hi : Option Int} {x : D} : sl4 lo hi (.ok x ρ) = optR (fSl x lo hi) ρ := id rfl
def sl3 (i : Nat) (lo : Option Int) (r : Res (Option Int)) : Res R := bindR r fun hi ρ2 => sl4 lo hi (ePk i ρ2)
@[simp] theorem sl3_ok {lo hi : Option Int} : sl3 i lo (.ok hi ρ) = sl4 lo hi (ePk i ρ) := id rfl
def sl2 (i : Nat) (mh : Dn.Env → Res (Option Int)) (r : Res (Option Int)) : Res R := bindR r fun lo ρ1 => sl3 i lo (mh ρ1)
@[simp] theorem sl2_ok {lo : Option Int} {mh : Dn.Env → Res (Option Int)} : sl2 i mh (.ok lo ρ) = sl3 i lo (mh ρ) := id rfl
def sl1 (i : Nat) (ml mh : Dn.Env → Res (Option Int)) (ρ : Dn.Env) (r : Res D) : Res R := bindR r fun _ _ => sl2 i mh (ml ρ)
@[simp] theorem sl1_ok {ml mh : Dn.Env → Res (Option Int)} {x : D} {ρ' : Dn.Env} : sl1 i ml mh ρ (.ok x ρ') = sl2 i mh (ml ρ) := id rfl
@[simp] theorem eSlV_ap {ml mh : Dn.Env → Res (Option Int)} : eSlV i ml mh ρ = sl1 i ml mh ρ (ePk i ρ) := id rfl
def sm3 (x : D) (lo : Option Int) (r : Res (Option Int)) : Res R := bindR r fun hi ρ2 => optR (fSl x lo hi) ρ2
@[simp] theorem sm3_ok {x : D} {lo hi : Option Int} : sm3 x lo (.ok hi ρ) = optR (fSl x lo hi) ρ := id rfl
def sm2 (x : D) (mh : Dn.Env → Res (Option Int)) (r : Res (Option Int)) : Res R := bindR r fun lo ρ1 => sm3 x lo (mh ρ1)
@[simp] theorem sm2_ok {x : D} {lo : Option Int} {mh : Dn.Env → Res (Option Int)} : sm2 x mh (.ok lo ρ) = sm3 x lo (mh ρ) := id rfl
def sm1 (ml mh : Dn.Env → Res (Option Int)) (r : Res D) : Res R := bindR r fun x ρ0 => sm2 x mh (ml ρ0)
@[simp] theorem sm1_ok {ml mh : Dn.Env → Res (Option Int)} {x : D} : sm1 ml mh (.ok x ρ) = sm2 x mh (ml ρ) := id rfl
@[simp] theorem eSl_ap {ml mh : Dn.Env → Res (Option Int)} : eSl a ml mh ρ = sm1 ml mh (a ρ) := id rfl
def ix3 (y : D) (r : Res D) : Res R := bindR r fun x ρ2 => optR (fIx x y) ρ2
@[simp] theorem ix3_ok {x y : D} : ix3 y (.ok x ρ) = optR (fIx x y) ρ := id rfl
def ix2 (i : Nat) (r : Res D) : Res R := bindR r fun y ρ1 => ix3 y (ePk i ρ1)
@[simp] theorem ix2_ok {y : D} : ix2 i (.ok y ρ) = ix3 y (ePk i ρ) := id rfl
@[simp] theorem ix2_exc {c : Str} : ix2 i (.exc c ρ) = .exc c ρ := id rfl
def ix1 (i : Nat) (a : Dn.Env → Res D) (ρ : Dn.Env) (r : Res D) : Res R := bindR r fun _ _ => ix2 i (a ρ)
@[simp] theorem ix1_ok {x : D} {ρ' : Dn.Env} : ix1 i a ρ (.ok x ρ') = ix2 i (a ρ) := id rfl
@[simp] theorem eIxV_ap : eIxV i a ρ = ix1 i a ρ (ePk i ρ) := id rfl
def ofCall (r : Res R) (ρ : Dn.Env) : Res R := match r with
  | .ok r _ => .ok r ρ
  | .exc c _ => .exc c ρ
  | .bad => .bad
@[simp] theorem ofCall_ok {r : R} {ρ' : Dn.Env} : ofCall (.ok r ρ') ρ = .ok r ρ := id rfl
@[simp] theorem ofCall_exc {c : Str} {ρ' : Dn.Env} : ofCall (.exc c ρ') ρ = .exc c ρ := id rfl
def clk (n : Nat) (f : Dn.Env → Res R) (r : Res (List D)) : Res R := bindR r fun ds ρ1 => if ds.length = n then ofCall (f (vals ds)) ρ1 else .bad
@[simp] theorem clk_ok {n : Nat} {f : Dn.Env → Res R} {ds : List D} : clk n f (.ok ds ρ) = if ds.length = n then ofCall (f (vals ds)) ρ else .bad := id rfl
@[simp] theorem clk_exc {n : Nat} {f : Dn.Env → Res R} {c : Str} : clk n f (.exc c ρ) = .exc c ρ := id rfl
@[simp] theorem eCall_ap {n : Nat} {f : Dn.Env → Res R} {m : Dn.Env → Res (List D)} : eCall n f m ρ = clk n f (m ρ) := id rfl
@[simp] theorem vals_nil : vals [] = [] := id rfl
@[simp] theorem vals_cons {d : D} {ds : List D} : vals (d :: ds) = .val d :: vals ds := id rfl
@[simp] theorem lstAt_own {xs : List D} : lstAt (.own (.lst xs)) = some xs := id rfl
@[simp] theorem lstAt_bor {xs : List D} : lstAt (.bor (.lst xs)) = some xs := id rfl
@[simp] theorem lstTo_own {c : Cell} {xs : List D} : lstTo (.own c) xs = .own (.lst xs) := id rfl
@[simp] theorem lstTo_bor {c : Cell} {xs : List D} : lstTo (.bor c) xs = .bor (.lst xs) := id rfl
@[simp] theorem dicAt_own {xs : List (Key × D)} : dicAt (.own (.dic xs)) = some xs := id rfl
@[simp] theorem dicTo_own {c : Cell} {xs : List (Key × D)} : dicTo (.own c) xs = .own (.dic xs) := id rfl
def ap2 (i : Nat) (r : R) (s : Sl) (ρ : Dn.Env) : SR := match lstAt s with
  | some xs => if xs.length < 16777216 then .nx (sS ρ i (lstTo s (xs ++ [r.toD]))) else .bad
  | none => .bad
@[simp] theorem ap2_own {r : R} {xs : List D} : ap2 i r (.own (.lst xs)) ρ = if xs.length < 16777216 then .nx (sS ρ i (.own (.lst (xs ++ [r.toD])))) else .bad := id rfl
@[simp] theorem ap2_bor {r : R} {xs : List D} : ap2 i r (.bor (.lst xs)) ρ = if xs.length < 16777216 then .nx (sS ρ i (.bor (.lst (xs ++ [r.toD])))) else .bad := id rfl
def ap1 (i : Nat) (r : Res R) : SR := bindRS r fun r ρ1 => ap2 i r (gS ρ1 i) ρ1
@[simp] theorem ap1_ok {r : R} : ap1 i (.ok r ρ) = ap2 i r (gS ρ i) ρ := id rfl
@[simp] theorem ap1_exc {c : Str} : ap1 i (.exc c ρ) = .exc c ρ := id rfl
def apG (i : Nat) (k : Dn.Env → SR) (s : Sl) (ρ : Dn.Env) : SR := match lstAt s with
  | none => .bad
  | some _ => k ρ
@[simp] theorem apG_own {k : Dn.Env → SR} {xs : List D} : apG i k (.own (.lst xs)) ρ = k ρ := id rfl
@[simp] theorem apG_bor {k : Dn.Env → SR} {xs : List D} : apG i k (.bor (.lst xs)) ρ = k ρ := id rfl
def apK (i : Nat) (m : Dn.Env → Res R) : Dn.Env → SR := fun ρ => ap1 i (m ρ)
@[simp] theorem apK_ap : apK i m ρ = ap1 i (m ρ) := id rfl
@[simp] theorem sApp_ap : sApp i m ρ = apG i (apK i m) (gS ρ i) ρ := id rfl
def popS (i : Nat) (s : Sl) (ρ : Dn.Env) : Res R := match lstAt s with
  | some xs => match xs.getLast? with
    | some d => .ok (.val d) (sS ρ i (lstTo s xs.dropLast))
    | none => .bad
  | none => .bad
@[simp] theorem popS_own {xs : List D} {d : D} : popS i (.own (.lst (xs ++ [d]))) ρ = .ok (.val d) (sS ρ i (.own (.lst xs))) := by
  unfold popS
  simp
@[simp] theorem popS_bor {xs : List D} {d : D} : popS i (.bor (.lst (xs ++ [d]))) ρ = .ok (.val d) (sS ρ i (.bor (.lst xs))) := by
  unfold popS
  simp
@[simp] theorem ePop_ap : ePop i ρ = popS i (gS ρ i) ρ := id rfl
def ex2 (i : Nat) (r : R) (s : Sl) (ρ : Dn.Env) : SR := match lstAt s, r with
  | some xs, .fresh (.lst ys) => if xs.length + ys.length ≤ 16777216 then .nx (sS ρ i (lstTo s (xs ++ ys))) else .bad
  | _, _ => .bad
@[simp] theorem ex2_own {xs ys : List D} : ex2 i (.fresh (.lst ys)) (.own (.lst xs)) ρ = if xs.length + ys.length ≤ 16777216 then .nx (sS ρ i (.own (.lst (xs ++ ys)))) else .bad := id rfl
@[simp] theorem ex2_bor {xs ys : List D} : ex2 i (.fresh (.lst ys)) (.bor (.lst xs)) ρ = if xs.length + ys.length ≤ 16777216 then .nx (sS ρ i (.bor (.lst (xs ++ ys)))) else .bad := id rfl
def ex1 (i : Nat) (r : Res R) : SR := bindRS r fun r ρ1 => ex2 i r (gS ρ1 i) ρ1
@[simp] theorem ex1_ok {r : R} : ex1 i (.ok r ρ) = ex2 i r (gS ρ i) ρ := id rfl
def exK (i : Nat) (m : Dn.Env → Res R) : Dn.Env → SR := fun ρ => ex1 i (m ρ)
@[simp] theorem exK_ap : exK i m ρ = ex1 i (m ρ) := id rfl
@[simp] theorem sExt_ap : sExt i m ρ = apG i (exK i m) (gS ρ i) ρ := id rfl
def st3 (i : Nat) (x k : D) (s : Sl) (ρ : Dn.Env) : SR := match lstAt s, k with
  | some xs, .int n => match ixN xs.length n with
    | some j => .nx (sS ρ i (lstTo s (xs.set j x)))
    | none => .bad
  | _, _ => .bad
theorem ixN_get {n : Nat} {p : Int} (h0 : 0 ≤ p) (h1 : p < n) : ixN n p = some p.toNat := by
  unfold ixN
  rw [if_pos h0, if_pos h1]
@[simp] theorem st3_own {xs : List D} {x : D} {p : Int} (h0 : 0 ≤ p) (h1 : p < xs.length) : st3 i x (.int p) (.own (.lst xs)) ρ = .nx (sS ρ i (.own (.lst (xs.set p.toNat x)))) := by
  show (match ixN xs.length p with | some j => SR.nx (sS ρ i (.own (.lst (xs.set j x)))) | none => .bad) = _
  rw [ixN_get h0 h1]
@[simp] theorem st3_bor {xs : List D} {x : D} {p : Int} (h0 : 0 ≤ p) (h1 : p < xs.length) : st3 i x (.int p) (.bor (.lst xs)) ρ = .nx (sS ρ i (.bor (.lst (xs.set p.toNat x)))) := by
  show (match ixN xs.length p with | some j => SR.nx (sS ρ i (.bor (.lst (xs.set j x)))) | none => .bad) = _
  rw [ixN_get h0 h1]
def st2 (i : Nat) (x : D) (r : Res D) : SR := bindRS r fun k ρ2 => st3 i x k (gS ρ2 i) ρ2
@[simp] theorem st2_ok {x k : D} : st2 i x (.ok k ρ) = st3 i x k (gS ρ i) ρ := id rfl
def stK (i : Nat) (x : D) (b : Dn.Env → Res D) : Dn.Env → SR := fun ρ => st2 i x (b ρ)
@[simp] theorem stK_ap {x : D} : stK i x b ρ = st2 i x (b ρ) := id rfl
def st1 (i : Nat) (b : Dn.Env → Res D) (r : Res D) : SR := bindRS r fun x ρ1 => apG i (stK i x b) (gS ρ1 i) ρ1
@[simp] theorem st1_ok {x : D} : st1 i b (.ok x ρ) = apG i (stK i x b) (gS ρ i) ρ := id rfl
@[simp] theorem st1_exc {c : Str} : st1 i b (.exc c ρ) = .exc c ρ := id rfl
@[simp] theorem sSetL_ap : sSetL i a b ρ = st1 i b (a ρ) := id rfl
def dt3 (i : Nat) (x k : D) (s : Sl) (ρ : Dn.Env) : SR := match dicAt s, keyD k with
  | some kvs, some q => if kvs.length < 16777216 then .nx (sS ρ i (dicTo s (putD kvs q x))) else .bad
  | _, _ => .bad
def dpt (i : Nat) (x : D) (o : Option Key) (kvs : List (Key × D)) (ρ : Dn.Env) : SR := match o with
  | some q => if kvs.length < 16777216 then .nx (sS ρ i (.own (.dic (putD kvs q x)))) else .bad
  | none => .bad
@[simp] theorem dpt_some {x : D} {q : Key} {kvs : List (Key × D)} : dpt i x (some q) kvs ρ = if kvs.length < 16777216 then .nx (sS ρ i (.own (.dic (putD kvs q x)))) else .bad := id rfl
@[simp] theorem dt3_own {kvs : List (Key × D)} {x k : D} : dt3 i x k (.own (.dic kvs)) ρ = dpt i x (keyD k) kvs ρ := by
  show (match some kvs, keyD k with | some kvs, some q => if kvs.length < 16777216 then SR.nx (sS ρ i (.own (.dic (putD kvs q x)))) else .bad | _, _ => .bad) = _
  cases keyD k <;> rfl
def dt2 (i : Nat) (x : D) (r : Res D) : SR := bindRS r fun k ρ2 => dt3 i x k (gS ρ2 i) ρ2
@[simp] theorem dt2_ok {x k : D} : dt2 i x (.ok k ρ) = dt3 i x k (gS ρ i) ρ := id rfl
def dtK (i : Nat) (x : D) (b : Dn.Env → Res D) : Dn.Env → SR := fun ρ => dt2 i x (b ρ)
@[simp] theorem dtK_ap {x : D} : dtK i x b ρ = dt2 i x (b ρ) := id rfl
def dtG (i : Nat) (k : Dn.Env → SR) (s : Sl) (ρ : Dn.Env) : SR := match dicAt s with
  | none => .bad
  | some _ => k ρ
@[simp] theorem dtG_own {k : Dn.Env → SR} {kvs : List (Key × D)} : dtG i k (.own (.dic kvs)) ρ = k ρ := id rfl
def dt1 (i : Nat) (b : Dn.Env → Res D) (r : Res D) : SR := bindRS r fun x ρ1 => dtG i (dtK i x b) (gS ρ1 i) ρ1
@[simp] theorem dt1_ok {x : D} : dt1 i b (.ok x ρ) = dtG i (dtK i x b) (gS ρ i) ρ := id rfl
@[simp] theorem dt1_exc {c : Str} : dt1 i b (.exc c ρ) = .exc c ρ := id rfl
@[simp] theorem sSetD_ap : sSetD i a b ρ = dt1 i b (a ρ) := id rfl
@[simp] theorem eDic0_ap : eDic0 ρ = .ok (.fresh (.dic [])) ρ := id rfl
def di3 (neg : Bool) (ds : List (D × D)) (o : Option Key) (ρ : Dn.Env) : Res R := match o with
  | some q => .ok (.val (.bool (if neg then !(lookD ds q).isSome else (lookD ds q).isSome))) ρ
  | none => .bad
@[simp] theorem di3_pos {ds : List (D × D)} {q : Key} : di3 false ds (some q) ρ = .ok (.val (.bool (lookD ds q).isSome)) ρ := id rfl
@[simp] theorem di3_neg {ds : List (D × D)} {q : Key} : di3 true ds (some q) ρ = .ok (.val (.bool (!(lookD ds q).isSome))) ρ := id rfl
def di2 (neg : Bool) (k : D) (r : Res D) : Res R := bindR r fun d ρ2 => match d, keyD k with
  | .dict ds, some q => .ok (.val (.bool (if neg then !(lookD ds q).isSome else (lookD ds q).isSome))) ρ2
  | _, _ => .bad
@[simp] theorem di2_ok {neg : Bool} {k : D} {ds : List (D × D)} : di2 neg k (.ok (.dict ds) ρ) = di3 neg ds (keyD k) ρ := by
  show (match PyData.dict ds, keyD k with | .dict ds, some q => Res.ok (R.val (.bool (if neg then !(lookD ds q).isSome else (lookD ds q).isSome))) ρ | _, _ => .bad) = _
  cases keyD k <;> rfl
def di1 (neg : Bool) (i : Nat) (r : Res D) : Res R := bindR r fun k ρ1 => di2 neg k (ePk i ρ1)
@[simp] theorem di1_ok {neg : Bool} {k : D} : di1 neg i (.ok k ρ) = di2 neg k (ePk i ρ) := id rfl
@[simp] theorem eDin_ap {neg : Bool} : eDin neg i a ρ = di1 neg i (a ρ) := id rfl
@[simp] theorem sRaise_ap {c : Str} : sRaise c ρ = .exc c ρ := id rfl
@[simp] theorem bindS_ite {c : Prop} [Decidable c] {x y : SR} {k : Dn.Env → SR} : bindS (if c then x else y) k = if c then bindS x k else bindS y k := by split <;> rfl
@[simp] theorem bindRS_ite {c : Prop} [Decidable c] {x y : Res α} {k : α → Dn.Env → SR} : bindRS (if c then x else y) k = if c then bindRS x k else bindRS y k := by split <;> rfl
@[simp] theorem bindR_ite {c : Prop} [Decidable c] {x y : Res α} {k : α → Dn.Env → Res β} : bindR (if c then x else y) k = if c then bindR x k else bindR y k := by split <;> rfl
def isBor : Sl → Bool
  | .bor _ => true
  | _ => false
@[simp] theorem isBor_emp : isBor .emp = false := id rfl
@[simp] theorem isBor_val {d : D} : isBor (.val d) = false := id rfl
@[simp] theorem isBor_own {c : Cell} : isBor (.own c) = false := id rfl
def putS (s : Sl) (i : Nat) (r : Sl) (ρ : Dn.Env) : SR := match s with
  | .bor _ => .bad
  | _ => .nx (sS ρ i r)
@[simp] theorem putS_emp {r : Sl} {ρ : Dn.Env} : putS .emp i r ρ = .nx (sS ρ i r) := id rfl
@[simp] theorem putS_val {d : D} {r : Sl} {ρ : Dn.Env} : putS (.val d) i r ρ = .nx (sS ρ i r) := id rfl
@[simp] theorem putS_own {c : Cell} {r : Sl} {ρ : Dn.Env} : putS (.own c) i r ρ = .nx (sS ρ i r) := id rfl
theorem putS_nb {s : Sl} {r : Sl} {ρ : Dn.Env} (h : isBor s = false) : putS s i r ρ = .nx (sS ρ i r) := by cases s <;> first | rfl | cases h
@[simp] theorem putR_val {r : R} {ρ : Dn.Env} : putR i r ρ = putS (gS ρ i) i r.sl ρ := by
  rw [putR_ap]
  cases e : gS ρ i <;> rfl
def gNmS (s : Sl) (i : Nat) (r : Sl) (ρ : Dn.Env) : Option Dn.Env := match s with
  | .bor _ => none
  | _ => some (sS ρ i r)
@[simp] theorem gNmS_emp {r : Sl} {ρ : Dn.Env} : gNmS .emp i r ρ = some (sS ρ i r) := id rfl
@[simp] theorem gNmS_val {d : D} {r : Sl} {ρ : Dn.Env} : gNmS (.val d) i r ρ = some (sS ρ i r) := id rfl
@[simp] theorem gNmS_own {c : Cell} {r : Sl} {ρ : Dn.Env} : gNmS (.own c) i r ρ = some (sS ρ i r) := id rfl
theorem gNmS_nb {s : Sl} {r : Sl} {ρ : Dn.Env} (h : isBor s = false) : gNmS s i r ρ = some (sS ρ i r) := by cases s <;> first | rfl | cases h
@[simp] theorem gNm_val {d : D} {ρ : Dn.Env} : gNm i d ρ = gNmS (gS ρ i) i (.val d) ρ := by
  rw [gNm_ap]
  cases e : gS ρ i <;> rfl
@[simp] theorem toVk_ite {c : Prop} [Decidable c] {x y : Res R} : toVk (if c then x else y) = if c then toVk x else toVk y := by split <;> rfl
@[simp] theorem tBk_ite {c : Prop} [Decidable c] {x y : Res R} : tBk (if c then x else y) = if c then tBk x else tBk y := by split <;> rfl
@[simp] theorem sRk_ite {c : Prop} [Decidable c] {x y : Res R} : sRk (if c then x else y) = if c then sRk x else sRk y := by split <;> rfl
@[simp] theorem sAk_ite {c : Prop} [Decidable c] {x y : Res R} : sAk i (if c then x else y) = if c then sAk i x else sAk i y := by split <;> rfl
@[simp] theorem ap1_ite {c : Prop} [Decidable c] {x y : Res R} : ap1 i (if c then x else y) = if c then ap1 i x else ap1 i y := by split <;> rfl
@[simp] theorem sIk_ite {c : Prop} [Decidable c] {x y : Res Bool} : sIk s t (if c then x else y) = if c then sIk s t x else sIk s t y := by split <;> rfl
@[simp] theorem o1_ite {c : Prop} [Decidable c] {x y : Res D} {f : D → Option R} : o1 f (if c then x else y) = if c then o1 f x else o1 f y := by split <;> rfl
@[simp] theorem o2a_ite {c : Prop} [Decidable c] {x y : Res D} : o2a f b (if c then x else y) = if c then o2a f b x else o2a f b y := by split <;> rfl
@[simp] theorem ite_and {c : Prop} [Decidable c] {b : Bool} : (if c then Res.ok (R.val (.bool b)) ρ else .ok (.val (.bool false)) ρ) = .ok (.val (.bool (decide c && b))) ρ := by by_cases h : c <;> simp [h]
@[simp] theorem ite_or {c : Prop} [Decidable c] {b : Bool} : (if c then Res.ok (R.val (.bool true)) ρ else .ok (.val (.bool b)) ρ) = .ok (.val (.bool (decide c || b))) ρ := by by_cases h : c <;> simp [h]
@[simp] theorem ite_andT {c : Prop} [Decidable c] {b : Bool} : (if c then Res.ok b ρ else .ok false ρ) = .ok (decide c && b) ρ := by by_cases h : c <;> simp [h]
@[simp] theorem ite_orT {c : Prop} [Decidable c] {b : Bool} : (if c then Res.ok true ρ else .ok b ρ) = .ok (decide c || b) ρ := by by_cases h : c <;> simp [h]
@[simp] theorem toD_dic {kvs : List (Key × D)} : (Cell.dic kvs).toD = .dict (kvs.map fun p => (kd p.1, p.2)) := id rfl
@[simp] theorem keyD_int {i : Int} : keyD (.int i) = some (.inl i) := id rfl
@[simp] theorem keyD_str {z : Str} : keyD (.str z) = some (.inr z) := id rfl
@[simp] theorem kd_inl {i : Int} : kd (.inl i) = .int i := id rfl
@[simp] theorem kd_inr {z : Str} : kd (.inr z) = .str z := id rfl
/-! ### primitive operations -/
variable {p q : Int} {xs ys : List D} {ns : List Int} {v w : Str}
@[simp] theorem fAdd_int : fAdd (.int p) (.int q) = some (.val (.int (p + q))) := id rfl
@[simp] theorem fSub_int : fSub (.int p) (.int q) = some (.val (.int (p - q))) := id rfl
@[simp] theorem fNeg_int : fNeg (.int p) = some (.val (.int (-p))) := id rfl
@[simp] theorem fMul_r (h1 : -18446744073709551616 < q) (h2 : q < 18446744073709551616) : fMul (.int p) (.int q) = some (.val (.int (p * q))) := by
  show (if mulOk p q = true then _ else _) = _
  rw [if_pos]
  unfold mulOk
  rw [Bool.or_eq_true, Bool.or_eq_true]
  exact .inr (decide_eq_true ⟨h1, h2⟩)
@[simp] theorem fMul_l (h1 : -18446744073709551616 < p) (h2 : p < 18446744073709551616) : fMul (.int p) (.int q) = some (.val (.int (p * q))) := by
  show (if mulOk p q = true then _ else _) = _
  rw [if_pos]
  unfold mulOk
  rw [Bool.or_eq_true, Bool.or_eq_true]
  exact .inl (.inr (decide_eq_true ⟨h1, h2⟩))
@[simp] theorem fFdiv_pos (h1 : 0 < q) (h2 : q < 1073741824) : fFdiv (.int p) (.int q) = some (.val (.int (p / q))) := by
  show (if divOk q = true then _ else _) = _
  rw [if_pos, zdiv_pos h1]
  unfold divOk
  rw [Bool.or_eq_true]
  exact .inl (decide_eq_true ⟨by omega, by omega⟩)
@[simp] theorem fMod_pos (h1 : 0 < q) : fMod (.int p) (.int q) = some (.val (.int (p % q))) := by
  show (if q ≠ 0 then _ else _) = _
  rw [if_pos (by omega), zmod_pos h1]
@[simp] theorem fPow_ok (h1 : 0 ≤ q) (h2 : q ≤ 1000000) (h3 : -18446744073709551616 < p) (h4 : p < 18446744073709551616) : fPow (.int p) (.int q) = some (.val (.int (p ^ q.toNat))) := by
  show (if 0 ≤ q ∧ q ≤ 1000000 ∧ p.natAbs < 2 ^ 64 then _ else _) = _
  rw [if_pos ⟨h1, h2, by omega⟩]
@[simp] theorem fLt_int : fLt (.int p) (.int q) = some (.val (.bool (decide (p < q)))) := id rfl
@[simp] theorem fLe_int : fLe (.int p) (.int q) = some (.val (.bool (decide (p ≤ q)))) := id rfl
@[simp] theorem fGt_int : fGt (.int p) (.int q) = some (.val (.bool (decide (q < p)))) := id rfl
@[simp] theorem fGe_int : fGe (.int p) (.int q) = some (.val (.bool (decide (q ≤ p)))) := id rfl
@[simp] theorem fEq_int : fEq (.int p) (.int q) = some (.val (.bool (decide (p = q)))) := by
  show (if eqOk _ _ = true then _ else _) = _
  rw [if_pos (show eqOk (.int p) (.int q) = true from rfl)]
  rfl
@[simp] theorem fNe_int : fNe (.int p) (.int q) = some (.val (.bool (!decide (p = q)))) := by
  show (if eqOk _ _ = true then _ else _) = _
  rw [if_pos (show eqOk (.int p) (.int q) = true from rfl)]
  rfl
@[simp] theorem fEq_bool {p q : Bool} : fEq (.bool p) (.bool q) = some (.val (.bool (p == q))) := id rfl
@[simp] theorem fNe_bool {p q : Bool} : fNe (.bool p) (.bool q) = some (.val (.bool (!(p == q)))) := id rfl
@[simp] theorem fEq_str : fEq (.str v) (.str w) = some (.val (.bool (decide (v = w)))) := by
  show (if eqOk _ _ = true then _ else _) = _
  rw [if_pos (show eqOk (.str v) (.str w) = true from rfl)]
  rfl
@[simp] theorem fNe_str : fNe (.str v) (.str w) = some (.val (.bool (!decide (v = w)))) := by
  show (if eqOk _ _ = true then _ else _) = _
  rw [if_pos (show eqOk (.str v) (.str w) = true from rfl)]
  rfl
@[simp] theorem fIs_non {d : D} : fIs d .none = some (.val (.bool (isNon d))) := id rfl
@[simp] theorem fIsNot_non {d : D} : fIsNot d .none = some (.val (.bool (!isNon d))) := id rfl
@[simp] theorem fP_ap {k : D → Bool} {d : D} : fP k d = some (.val (.bool (k d))) := id rfl
@[simp] theorem fLen_list : fLen (.list xs) = some (.val (.int xs.length)) := id rfl
@[simp] theorem fLen_tuple : fLen (.tuple xs) = some (.val (.int xs.length)) := id rfl
@[simp] theorem fInt_int : fInt (.int p) = some (.val (.int p)) := id rfl
@[simp] theorem fAbs_int : fAbs (.int p) = some (.val (.int (if p < 0 then -p else p))) := id rfl
@[simp] theorem fTuple_list : fTuple (.list xs) = some (.val (.tuple xs)) := id rfl
@[simp] theorem fTuple_tuple : fTuple (.tuple xs) = some (.val (.tuple xs)) := id rfl
@[simp] theorem fList_list : fList (.list xs) = some (.fresh (.lst xs)) := id rfl
@[simp] theorem fList_tuple : fList (.tuple xs) = some (.fresh (.lst xs)) := id rfl
@[simp] theorem fTup_ok (h : xs.length ≤ 16777216) : fTup xs = some (.val (.tuple xs)) := if_pos h
@[simp] theorem fLst_ok (h : xs.length ≤ 16777216) : fLst xs = some (.fresh (.lst xs)) := if_pos h
@[simp] theorem fAdd_list (h : xs.length + ys.length ≤ 16777216) : fAdd (.list xs) (.list ys) = some (.fresh (.lst (xs ++ ys))) := if_pos h
@[simp] theorem fAdd_tuple (h : xs.length + ys.length ≤ 16777216) : fAdd (.tuple xs) (.tuple ys) = some (.val (.tuple (xs ++ ys))) := if_pos h
@[simp] theorem fAdd_str (h : v.length + w.length ≤ 16777216) : fAdd (.str v) (.str w) = some (.val (.str (v ++ w))) := if_pos h
def nth {α : Type} (xs : List α) (i : Nat) (d : α) : α := xs.getD i d
theorem nth_lt {α : Type} {xs : List α} {i : Nat} {d : α} (h : i < xs.length) : nth xs i d = xs[i] := by
  unfold nth
  rw [List.getD_eq_getElem?_getD, List.getElem?_eq_getElem h]
  rfl
theorem nth_mem {α : Type} {xs : List α} {i : Nat} {d : α} (h : i < xs.length) : nth xs i d ∈ xs := by rw [nth_lt h]; exact List.getElem_mem h
@[simp] theorem nth_zero {α : Type} {x : α} {xs : List α} {d : α} : nth (x :: xs) 0 d = x := id rfl
@[simp] theorem nth_succ {α : Type} {x : α} {xs : List α} {i : Nat} {d : α} : nth (x :: xs) (i + 1) d = nth xs i d := id rfl
theorem atI_get {α : Type} {xs : List α} {d : α} (h0 : 0 ≤ p) (h1 : p < xs.length) : atI xs p = some (nth xs p.toNat d) := by
  unfold atI ixN
  rw [if_pos h0, if_pos h1, Option.bind_some, List.getElem?_eq_getElem (by omega), nth_lt (by omega)]
@[simp] theorem fIx_list (h0 : 0 ≤ p) (h1 : p < xs.length) : fIx (.list xs) (.int p) = some (.val (nth xs p.toNat .none)) := by
  show (atI xs p).map R.val = _
  rw [atI_get (d := .none) h0 h1]
  rfl
@[simp] theorem fIx_tuple (h0 : 0 ≤ p) (h1 : p < xs.length) : fIx (.tuple xs) (.int p) = some (.val (nth xs p.toNat .none)) := by
  show (atI xs p).map R.val = _
  rw [atI_get (d := .none) h0 h1]
  rfl
theorem nth_map {α : Type} {f : α → D} {xs : List α} {n : Nat} {d : α} (h : n < xs.length) : nth (xs.map f) n .none = f (nth xs n d) := by
  rw [nth_lt h, nth_lt (by rw [List.length_map]; exact h), List.getElem_map]
@[simp high] theorem fIx_ints (h0 : 0 ≤ p) (h1 : p < ns.length) : fIx (.list (ns.map .int)) (.int p) = some (.val (.int (nth ns p.toNat 0))) := by
  rw [fIx_list h0 (by rw [List.length_map]; exact h1), nth_map (d := 0) (by omega)]
@[simp high] theorem fIx_tints (h0 : 0 ≤ p) (h1 : p < ns.length) : fIx (.tuple (ns.map .int)) (.int p) = some (.val (.int (nth ns p.toNat 0))) := by
  rw [fIx_tuple h0 (by rw [List.length_map]; exact h1), nth_map (d := 0) (by omega)]
theorem fIx_str (h0 : 0 ≤ p) (h1 : p < v.length) (h2 : v.length ≤ 16777216) : fIx (.str v) (.int p) = some (.val (.str ⟨#[nth v.cps.toList p.toNat 0]⟩)) := by
  show (if v.length ≤ 16777216 then _ else _) = _
  rw [if_pos h2, atI_get (d := 0) h0 (by rw [Array.length_toList]; exact h1)]
  rfl
theorem atI_last {α : Type} {xs : List α} {d : α} (h1 : xs ≠ []) : atI xs (-1) = some (xs.getLastD d) := by
  have h : 0 < xs.length := List.length_pos_iff.mpr h1
  unfold atI ixN
  rw [if_neg (by omega), if_pos (by omega), Option.bind_some, List.getLastD_eq_getLast?, List.getLast?_eq_getElem?, List.getElem?_eq_getElem (by omega), List.getElem?_eq_getElem (by omega)]
  show some _ = some (xs[xs.length - 1])
  congr 1
  congr 1
  omega
theorem fIx_tlast (h : ns ≠ []) : fIx (.tuple (ns.map .int)) (.int (-1)) = some (.val (.int (nth ns (ns.length - 1) 0))) := by
  have h0 := List.length_pos_iff.mpr h
  show (atI (ns.map PyData.int) (-1)).map R.val = _
  rw [atI_last (d := .none) (by simpa using h), List.getLastD_eq_getLast?, List.getLast?_eq_getElem?, List.length_map, List.getElem?_map, List.getElem?_eq_getElem (by omega), nth_lt (by omega)]
  rfl
@[simp] theorem sIx_none {n d : Nat} : HT.sIx n d none = d := id rfl
theorem sIx_nn {n d : Nat} {v : Int} (h : 0 ≤ v) : HT.sIx n d (some v) = min v.toNat n := by
  show (if v < 0 then _ else _) = _
  rw [if_neg (by omega)]
@[simp] theorem cut_lo (h : 0 ≤ p) : cutD xs (some p) none = xs.drop p.toNat := by
  unfold cutD
  rw [sIx_nn h, sIx_none]
  by_cases c : p.toNat ≤ xs.length
  · rw [Nat.min_eq_left c, List.take_of_length_le (by rw [List.length_drop]; omega)]
  · rw [Nat.min_eq_right (by omega), List.drop_of_length_le (Nat.le_refl _), List.drop_of_length_le (by omega), List.take_nil]
@[simp] theorem cut_hi (h : 0 ≤ p) : cutD xs none (some p) = xs.take p.toNat := by
  unfold cutD
  rw [sIx_nn h, sIx_none, List.drop_zero, Nat.sub_zero]
  by_cases c : p.toNat ≤ xs.length
  · rw [Nat.min_eq_left c]
  · rw [Nat.min_eq_right (by omega), List.take_of_length_le (Nat.le_refl _), List.take_of_length_le (by omega)]
@[simp] theorem cut_both (h0 : 0 ≤ p) (h1 : 0 ≤ q) : cutD xs (some p) (some q) = (xs.take q.toNat).drop p.toNat := by
  unfold cutD
  rw [sIx_nn h0, sIx_nn h1]
  apply List.ext_getElem?
  intro k
  rw [List.getElem?_drop, List.getElem?_take, List.getElem?_take, List.getElem?_drop]
  by_cases a : p.toNat ≤ xs.length
  · rw [Nat.min_eq_left a]
    by_cases b : q.toNat ≤ xs.length
    · rw [Nat.min_eq_left b]
      by_cases c : k < q.toNat - p.toNat
      · rw [if_pos c, if_pos (by omega)]
      · rw [if_neg c, if_neg (by omega)]
    · rw [Nat.min_eq_right (by omega)]
      by_cases c : k < xs.length - p.toNat
      · rw [if_pos c, if_pos (by omega)]
      · rw [if_neg c]
        split
        · rw [List.getElem?_eq_none (by omega)]
        · rfl
  · rw [Nat.min_eq_right (a := p.toNat) (b := xs.length) (by omega), List.getElem?_eq_none (i := xs.length + k) (by omega), List.getElem?_eq_none (i := p.toNat + k) (by omega)]
    simp
@[simp] theorem fSl_list {lo hi : Option Int} : fSl (.list xs) lo hi = some (.fresh (.lst (cutD xs lo hi))) := id rfl
@[simp] theorem fSl_tuple {lo hi : Option Int} : fSl (.tuple xs) lo hi = some (.val (.tuple (cutD xs lo hi))) := id rfl
@[simp] theorem fSl_str {lo hi : Option Int} (h : v.length ≤ 16777216) : fSl (.str v) lo hi = some (.val (.str (cutS v lo hi))) := if_pos h
end

theorem seq_nx {P : SR → Prop} {s t : Dn.Env → SR} {ρ ρ1 : Dn.Env} (h : s ρ = .nx ρ1) (h2 : P (t ρ1)) : P (sSeq s t ρ) := by
  rw [sSeq_ap, h]
  exact h2
theorem if_yes {P : SR → Prop} {c : Dn.Env → Res Bool} {s t : Dn.Env → SR} {ρ ρ1 : Dn.Env} (h : c ρ = .ok true ρ1) (h2 : P (s ρ1)) : P (sIf c s t ρ) := by
  rw [sIf_ap, h]
  exact h2
theorem if_no {P : SR → Prop} {c : Dn.Env → Res Bool} {s t : Dn.Env → SR} {ρ ρ1 : Dn.Env} (h : c ρ = .ok false ρ1) (h2 : P (t ρ1)) : P (sIf c s t ρ) := by
  rw [sIf_ap, h]
  exact h2
theorem if_yes' {P : SR → Prop} {c : Dn.Env → Res Bool} {s t : Dn.Env → SR} {ρ : Dn.Env} (h : c ρ = .ok true ρ) (h2 : P (s ρ)) : P (sIf c s t ρ) := if_yes h h2
theorem if_no' {P : SR → Prop} {c : Dn.Env → Res Bool} {s t : Dn.Env → SR} {ρ : Dn.Env} (h : c ρ = .ok false ρ) (h2 : P (t ρ)) : P (sIf c s t ρ) := if_no h h2
theorem if_by {P : SR → Prop} {c : Dn.Env → Res Bool} {s t : Dn.Env → SR} {ρ ρ1 : Dn.Env} {b : Bool} (h : c ρ = .ok b ρ1) (h1 : b = true → P (s ρ1)) (h2 : b = false → P (t ρ1)) : P (sIf c s t ρ) := by
  cases b
  · exact if_no h (h2 rfl)
  · exact if_yes h (h1 rfl)
theorem for_of {P : SR → Prop} {g : D → Dn.Env → Option Dn.Env} {m : Dn.Env → Res (List D)} {s : Dn.Env → SR} {ρ ρ1 : Dn.Env} {ds : List D} (h : m ρ = .ok ds ρ1) (h2 : P (forL g s ds ρ1)) : P (sFor g m s ρ) := by
  rw [sFor_ap, h]
  exact h2

/-! ### a def's result -/
def Ret (n : Nat) (r : R) (s : SR) : Prop := ∃ ρ, s = .ret r ρ ∧ n ≤ ρ.length
def Exc (n : Nat) (c : Str) (s : SR) : Prop := ∃ ρ, s = .exc c ρ ∧ n ≤ ρ.length
@[simp] theorem Ret_ret {n : Nat} {r r' : R} {ρ : Dn.Env} : Ret n r (.ret r' ρ) ↔ r' = r ∧ n ≤ ρ.length := by
  constructor
  · rintro ⟨ρ', h, l⟩
    cases h
    exact ⟨rfl, l⟩
  · rintro ⟨rfl, l⟩
    exact ⟨_, rfl, l⟩
@[simp] theorem Exc_exc {n : Nat} {c c' : Str} {ρ : Dn.Env} : Exc n c (.exc c' ρ) ↔ c' = c ∧ n ≤ ρ.length := by
  constructor
  · rintro ⟨ρ', h, l⟩
    cases h
    exact ⟨rfl, l⟩
  · rintro ⟨rfl, l⟩
    exact ⟨_, rfl, l⟩
def ExRet {α : Type} (n : Nat) (φ : α → Prop) (f : α → R) (s : SR) : Prop := ∃ x, φ x ∧ Ret n (f x) s
theorem ExRet_of {α : Type} {n : Nat} {φ : α → Prop} {f : α → R} {ρ : Dn.Env} (x : α) (h : φ x) (l : n ≤ ρ.length) : ExRet n φ f (.ret (f x) ρ) := ⟨x, h, Ret_ret.mpr ⟨rfl, l⟩⟩
theorem ExRet_ret {α : Type} {n : Nat} {φ : α → Prop} {f : α → R} {r : R} {s : SR} {ρ : Dn.Env} (e : s = .ret r ρ) (x : α) (h : φ x) (er : r = f x) (l : n ≤ ρ.length) : ExRet n φ f s := by
  rw [e, er]
  exact ExRet_of x h l
theorem backA_vals : ∀ (ds : List D) (ρ : Dn.Env), ds.length ≤ ρ.length → backA (vals ds) ρ = some (vals ds)
  | [], _, _ => rfl
  | d :: ds, [], h => by simp at h
  | d :: ds, s :: ρ, h => by
    show (backA (vals ds) ρ).map _ = _
    rw [backA_vals ds ρ (by simpa using h)]
    rfl
theorem vals_len (ds : List D) : (vals ds).length = ds.length := List.length_map _
theorem mkF_ret {n m : Nat} {b : Dn.Env → SR} {ds : List D} {r : R} (hl : ds.length = n) (h : Ret n r (b (vals ds ++ List.replicate (m - n) .emp))) : mkF n m b (vals ds) = .ok r (vals ds) := by
  obtain ⟨ρ, e, l⟩ := h
  unfold mkF
  rw [if_pos (by rw [vals_len, hl]), e]
  show (match backA (vals ds) ρ with | some a => Res.ok r a | none => .bad) = _
  rw [backA_vals ds ρ (by omega)]
theorem mkF_exc {n m : Nat} {b : Dn.Env → SR} {ds : List D} {c : Str} (hl : ds.length = n) (h : Exc n c (b (vals ds ++ List.replicate (m - n) .emp))) : mkF n m b (vals ds) = .exc c (vals ds) := by
  obtain ⟨ρ, e, l⟩ := h
  unfold mkF
  rw [if_pos (by rw [vals_len, hl]), e]
  show (match backA (vals ds) ρ with | some a => Res.exc c a | none => .bad) = _
  rw [backA_vals ds ρ (by omega)]

theorem mkF_ex {α : Type} {n m : Nat} {b : Dn.Env → SR} {ds : List D} {φ : α → Prop} {f : α → R} (hl : ds.length = n) (h : ExRet n φ f (b (vals ds ++ List.replicate (m - n) .emp))) : ∃ x, φ x ∧ mkF n m b (vals ds) = .ok (f x) (vals ds) := by
  obtain ⟨x, hx, q⟩ := h
  exact ⟨x, hx, mkF_ret hl q⟩
/-! ### loops -/
/-- behind a turn: J holds of what goes on, P of what ends the loop -/
def FL (P : SR → Prop) (k : Dn.Env → SR) (J : Dn.Env → Prop) : SR → Prop
  | .nx ρ => J ρ
  | .cnt ρ => J ρ
  | .brk ρ => P (k ρ)
  | .ret r ρ => P (.ret r ρ)
  | .exc c ρ => P (.exc c ρ)
  | .bad => P .bad
section
variable {P : SR → Prop} {k : Dn.Env → SR} {J : Dn.Env → Prop} {ρ : Dn.Env} {g : D → Dn.Env → Option Dn.Env} {b : Dn.Env → SR}
@[simp] theorem FL_nx : FL P k J (.nx ρ) ↔ J ρ := .rfl
@[simp] theorem FL_cnt : FL P k J (.cnt ρ) ↔ J ρ := .rfl
@[simp] theorem FL_brk : FL P k J (.brk ρ) ↔ P (k ρ) := .rfl
@[simp] theorem FL_ret {r : R} : FL P k J (.ret r ρ) ↔ P (.ret r ρ) := .rfl
@[simp] theorem FL_exc {c : Str} : FL P k J (.exc c ρ) ↔ P (.exc c ρ) := .rfl
theorem FL_of {s : SR} (h : s = .nx ρ) (j : J ρ) : FL P k J s := by rw [h]; exact j
theorem for_rule (I : List D → Dn.Env → Prop) : ∀ {ds : List D} {ρ : Dn.Env}, I ds ρ → (∀ d r ρ, I (d :: r) ρ → ∃ ρ1, g d ρ = some ρ1 ∧ FL P k (I r) (b ρ1)) → (∀ ρ, I [] ρ → P (k ρ)) → P (bindS (forL g b ds ρ) k)
  | [], ρ, h, _, he => he ρ h
  | d :: r, ρ, h, hs, he => by
    obtain ⟨ρ1, e, q⟩ := hs d r ρ h
    unfold forL
    rw [e]
    dsimp only
    cases eb : b ρ1 with
    | nx ρ2 => rw [eb] at q; exact for_rule I q hs he
    | cnt ρ2 => rw [eb] at q; exact for_rule I q hs he
    | brk ρ2 => rw [eb] at q; exact q
    | ret r ρ2 => rw [eb] at q; exact q
    | exc c ρ2 => rw [eb] at q; exact q
    | bad => rw [eb] at q; exact q
theorem bindS_id (s : SR) : bindS s .nx = s := by cases s <;> rfl
/-- the loop as a def's last statement -/
theorem for_last (I : List D → Dn.Env → Prop) {ds : List D} {ρ : Dn.Env} (h : I ds ρ) (hs : ∀ d r ρ, I (d :: r) ρ → ∃ ρ1, g d ρ = some ρ1 ∧ FL P .nx (I r) (b ρ1)) (he : ∀ ρ, I [] ρ → P (.nx ρ)) : P (forL g b ds ρ) := by
  rw [← bindS_id (forL g b ds ρ)]
  exact for_rule I h hs he
/-- by the place -/
theorem for_ix (I : Nat → Dn.Env → Prop) {ds : List D} {ρ : Dn.Env} (h : I 0 ρ) (hs : ∀ i (hi : i < ds.length) ρ, I i ρ → ∃ ρ1, g ds[i] ρ = some ρ1 ∧ FL P k (I (i + 1)) (b ρ1)) (he : ∀ ρ, I ds.length ρ → P (k ρ)) : P (bindS (forL g b ds ρ) k) := by
  refine for_rule (fun r ρ => ∃ i, i ≤ ds.length ∧ r = ds.drop i ∧ I i ρ) ⟨0, Nat.zero_le _, rfl, h⟩ (fun d r ρ ⟨i, hi, e, z⟩ => ?_) (fun ρ ⟨i, hi, e, z⟩ => ?_)
  · have hi2 : i < ds.length := by
      have := congrArg List.length e
      rw [List.length_cons, List.length_drop] at this
      omega
    rw [List.drop_eq_getElem_cons hi2] at e
    cases e
    obtain ⟨ρ1, e1, q⟩ := hs i hi2 ρ z
    refine ⟨ρ1, e1, ?_⟩
    cases eb : b ρ1 <;> rw [eb] at q
    case nx ρ2 => exact ⟨i + 1, hi2, rfl, q⟩
    case cnt ρ2 => exact ⟨i + 1, hi2, rfl, q⟩
    all_goals exact q
  · have : i = ds.length := by
      have := congrArg List.length e
      rw [List.length_nil, List.length_drop] at this
      omega
    subst this
    exact he ρ z
theorem rgD_len {lo : Int} {n : Nat} : (rgD lo n).length = n := by simp [rgD]
theorem rgD_get {lo : Int} {n i : Nat} (h : i < (rgD lo n).length) : (rgD lo n)[i] = .int (lo + i) := by simp [rgD]
theorem for_rg (I : Nat → Dn.Env → Prop) {lo : Int} {n : Nat} {ρ : Dn.Env} (h : I 0 ρ) (hs : ∀ i, i < n → ∀ ρ, I i ρ → ∃ ρ1, g (.int (lo + i)) ρ = some ρ1 ∧ FL P k (I (i + 1)) (b ρ1)) (he : ∀ ρ, I n ρ → P (k ρ)) : P (bindS (forL g b (rgD lo n) ρ) k) :=
  for_ix I h (fun i hi ρ z => by rw [rgD_get hi]; exact hs i (by rw [rgD_len] at hi; exact hi) ρ z) (fun ρ z => he ρ (by rw [rgD_len] at z; exact z))
theorem for_lrg (I : Nat → Dn.Env → Prop) {lo : Int} {n : Nat} {ρ : Dn.Env} (h : I 0 ρ) (hs : ∀ i, i < n → ∀ ρ, I i ρ → ∃ ρ1, g (.int (lo + i)) ρ = some ρ1 ∧ FL P .nx (I (i + 1)) (b ρ1)) (he : ∀ ρ, I n ρ → P (.nx ρ)) : P (forL g b (rgD lo n) ρ) := by
  rw [← bindS_id (forL g b (rgD lo n) ρ)]
  exact for_rg I h hs he
theorem while_rule {t : Dn.Env → Res Bool} (I : Nat → Dn.Env → Prop) : ∀ {n m : Nat} {ρ : Dn.Env}, m < n → I m ρ → (∀ m ρ, I m ρ → ∃ c ρ1, t ρ = .ok c ρ1 ∧ (c = false → P (k ρ1)) ∧ (c = true → FL P k (fun ρ' => ∃ m', m' < m ∧ I m' ρ') (b ρ1))) → P (bindS (whileL t b n ρ) k)
  | 0, m, ρ, hm, _, _ => absurd hm (Nat.not_lt_zero _)
  | n + 1, m, ρ, hm, h, hs => by
    obtain ⟨c, ρ1, e, h0, h1⟩ := hs m ρ h
    unfold whileL
    rw [e]
    cases c with
    | false => exact h0 rfl
    | true =>
      have q := h1 rfl
      show P (bindS (match b ρ1 with
        | .nx ρ2 => whileL t b n ρ2
        | .cnt ρ2 => whileL t b n ρ2
        | .brk ρ2 => .nx ρ2
        | .ret r ρ2 => .ret r ρ2
        | .exc c ρ2 => .exc c ρ2
        | .bad => .bad) k)
      cases eb : b ρ1 with
      | nx ρ2 =>
        rw [eb] at q
        obtain ⟨m', hm', z⟩ := q
        exact while_rule I (by omega) z hs
      | cnt ρ2 =>
        rw [eb] at q
        obtain ⟨m', hm', z⟩ := q
        exact while_rule I (by omega) z hs
      | brk ρ2 => rw [eb] at q; exact q
      | ret r ρ2 => rw [eb] at q; exact q
      | exc c ρ2 => rw [eb] at q; exact q
      | bad => rw [eb] at q; exact q
theorem swhile_rule {t : Dn.Env → Res Bool} (I : Nat → Dn.Env → Prop) {m : Nat} {ρ : Dn.Env} (hm : m < 1000000000000000000) (h : I m ρ) (hs : ∀ m ρ, I m ρ → ∃ c ρ1, t ρ = .ok c ρ1 ∧ (c = false → P (k ρ1)) ∧ (c = true → FL P k (fun ρ' => ∃ m', m' < m ∧ I m' ρ') (b ρ1))) : P (bindS (sWhile t b ρ) k) := by
  rw [sWhile_ap]
  exact while_rule I (n := fuel) (by rw [fuel_eq]; exact hm) h hs
end
end Dn
set_option Elab.async false
set_option linter.all false
set_option maxRecDepth 100000
/-! Dm2: texts -/
namespace Dn
open PySem L2
open PySem.Builtin.Str (occurrences subAt)
theorem sub1 (w : Str) (c i : Nat) : subAt w ⟨#[c]⟩ i = true ↔ w.cps.toList[i]? = some c := by
  obtain ⟨⟨l⟩⟩ := w
  unfold subAt
  rw [beq_iff_eq]
  show (l.toArray).extract i (i + 1) = #[c] ↔ l[i]? = some c
  simp only [List.extract_toArray]
  rw [← Array.toList_inj]
  simp only [List.extract_eq_drop_take]
  show (l.drop i).take (i + 1 - i) = [c] ↔ _
  rw [show i + 1 - i = 1 by omega]
  by_cases h : i < l.length
  · rw [List.drop_eq_getElem_cons h, List.getElem?_eq_getElem h, List.take_succ_cons, List.take_zero]
    simp only [List.cons.injEq, and_true, Option.some.injEq]
  · rw [List.drop_of_length_le (by omega), List.getElem?_eq_none (by omega)]
    simp
theorem in1 (w : Str) (c : Nat) : (!(occurrences w ⟨#[c]⟩ 0 w.length 1).isEmpty) = decide (c ∈ w.cps.toList) := by
  rw [Bool.eq_iff_iff, StrLaws.found_iff, decide_eq_true_iff]
  constructor
  · rintro ⟨i, _, h⟩
    exact List.mem_of_getElem? ((sub1 w c i).mp h)
  · intro h
    obtain ⟨i, hi, e⟩ := List.getElem_of_mem h
    refine ⟨i, ?_, (sub1 w c i).mpr (by rw [List.getElem?_eq_getElem hi, e])⟩
    show i + 1 ≤ w.length
    have : w.cps.toList.length = w.length := rfl
    omega
theorem fIn1 (w : Str) (c : Nat) : fIn (.str ⟨#[c]⟩) (.str w) = some (.val (.bool (decide (c ∈ w.cps.toList)))) := by
  show some (R.val (.bool (!(occurrences w ⟨#[c]⟩ 0 w.length 1).isEmpty))) = _
  rw [in1]
theorem fNotIn1 (w : Str) (c : Nat) : fNotIn (.str ⟨#[c]⟩) (.str w) = some (.val (.bool (!decide (c ∈ w.cps.toList)))) := by
  show some (R.val (.bool (!(!(occurrences w ⟨#[c]⟩ 0 w.length 1).isEmpty)))) = _
  rw [in1]
theorem str_lit (s : String) : (Str.ofString s).cps.toList = s.toList.map Char.toNat := by rw [Str.ofString_eq_toList]
@[simp] theorem fLen_str {v : Str} (h : v.length ≤ 16777216) : fLen (.str v) = some (.val (.int v.length)) := if_pos h
@[simp] theorem truD_str {v : Str} (h : v.length ≤ 16777216) : truD (.str v) = some ((v.length : Int) != 0) := if_pos h
@[simp] theorem fStr_int {i : Int} (h : i.natAbs.log2 < 1920) : fStr (.int i) = some (.val (.str (toString i))) := if_pos h
@[simp] theorem len1 {c : Nat} : Str.length ⟨#[c]⟩ = 1 := id rfl
theorem ext_str {v w : Str} (h : v.cps.toList = w.cps.toList) : v = w := by
  obtain ⟨⟨a⟩⟩ := v; obtain ⟨⟨b⟩⟩ := w
  simp at h
  rw [h]
/-! ### dicts -/
theorem look_some {kvs : List (Key × D)} {q : Key} : (lookD (kvs.map fun p => (kd p.1, p.2)) q).isSome = kvs.any fun p => decide (p.1 = q) := by
  rw [lookD_map]
  unfold lookC
  induction kvs with
  | nil => rfl
  | cons p r ih =>
    rw [List.find?_cons, List.any_cons]
    cases h : decide (p.1 = q) with
    | true => rfl
    | false => exact ih
theorem put_new {kvs : List (Key × D)} {q : Key} {d : D} (h : (kvs.any fun p => decide (p.1 = q)) = false) : putD kvs q d = kvs ++ [(q, d)] := by
  unfold putD
  rw [if_neg (by rw [h]; decide)]
/-! ### str(n) -/
def digits (n : Nat) : List Nat := (Nat.toDigits 10 n).map Char.toNat
theorem str_nat (n : Nat) : (toString (n : Int) : Str).cps.toList = digits n := by
  rw [str_lit]
  show (Nat.repr n).toList.map _ = _
  rw [Nat.toList_repr]
  rfl
theorem str_int {i : Int} (h : 0 ≤ i) : (toString i : Str).cps.toList = digits i.toNat := by
  have := str_nat i.toNat
  rw [Int.toNat_of_nonneg h] at this
  exact this
theorem digits_mem {n c : Nat} (h : c ∈ digits n) : 48 ≤ c ∧ c ≤ 57 := by
  obtain ⟨d, hd, rfl⟩ := List.mem_map.mp h
  have := Nat.isDigit_of_mem_toDigits (by decide) (by decide) hd
  unfold Char.isDigit at this
  simp at this
  exact ⟨this.1, this.2⟩
theorem digits_le {n k : Nat} (h : 0 < k) : (digits n).length ≤ k ↔ n < 10 ^ k := by
  unfold digits
  rw [List.length_map]
  exact Nat.length_toDigits_le_iff (by decide) h
theorem log_small {i : Int} (h : i.natAbs < 2 ^ 1000) : i.natAbs.log2 < 1920 := by
  by_cases c : i.natAbs = 0
  · rw [c]; decide
  · have := (Nat.log2_lt c).mpr h
    omega
end Dn
set_option Elab.async false
set_option maxRecDepth 100000
namespace Law
open Dn PySem
theorem cell_eq (ns : List Int) (k : Int) (h : 0 ≤ k) : ∃ c, d__law_cell [.val (script ns), .val (.int k)] = .ok (.val (.int c)) [.val (script ns), .val (.int k)] := by
  by_cases c : k < ns.length
  · refine ⟨_, mkF_ret (ds := [script ns, .int k]) rfl (r := .val (.int (nth ns k.toNat 0))) ?_⟩
    simp [b__law_cell, script, c, h]
  · refine ⟨_, mkF_ret (ds := [script ns, .int k]) rfl (r := .val (.int 0)) ?_⟩
    simp [b__law_cell, script, c, h]
def Draws (xs : List Int) (n : Nat) : Prop := xs.length = n ∧ ∀ x ∈ xs, 0 ≤ x ∧ x < 5040
theorem Draws.snoc {xs : List Int} {n : Nat} {x : Int} (h : Draws xs n) (h0 : 0 ≤ x) (h1 : x < 5040) : Draws (xs ++ [x]) (n + 1) := by
  refine ⟨by simp [h.1], fun y hy => ?_⟩
  rw [List.mem_append] at hy
  rcases hy with hy | hy
  · exact h.2 y hy
  · simp at hy
    subst hy
    exact ⟨h0, h1⟩
theorem draws_eq (ns : List Int) (k count : Int) (hk : 0 ≤ k) (hk2 : k < 1000) (h : 0 ≤ count) (h2 : count ≤ 10000) :
    ∃ xs, Draws xs count.toNat ∧ d__law_draws [.val (script ns), .val (.int k), .val (.int count)] = .ok (.val (.list (xs.map .int))) [.val (script ns), .val (.int k), .val (.int count)] := by
  obtain ⟨c0, ec⟩ := cell_eq ns k hk
  suffices H : ∃ xs, Draws xs count.toNat ∧ Ret 3 (.val (.list (xs.map .int))) (b__law_draws (vals [script ns, .int k, .int count] ++ List.replicate 5 .emp)) by
    obtain ⟨xs, hx, q⟩ := H
    exact ⟨xs, hx, mkF_ret (ds := [script ns, .int k, .int count]) rfl q⟩
  have e1 := rg1_ok (n := count) (by omega) (by omega)
  simp [b__law_draws, ec, e1]
  generalize (if c0 < 0 then -c0 else c0) = c
  refine for_rg (P := fun s => ∃ xs, Draws xs count.toNat ∧ Ret 3 (.val (.list (xs.map .int))) s) (fun i ρ => ∃ xs r s6 s7, Draws xs i ∧ isBor s6 = false ∧ isBor s7 = false ∧ ρ = [.val (script ns), .val (.int k), .val (.int count), .val (.int c), .val (.int r), .own (.lst (xs.map .int)), s6, s7]) ?_ ?_ ?_
  · exact ⟨[], c, .emp, .emp, ⟨rfl, by simp⟩, rfl, rfl, rfl⟩
  · rintro i hi ρ ⟨xs, r, s6, s7, hx, n6, n7, rfl⟩
    refine ⟨_, by simp; exact gNmS_nb n6, ?_⟩
    have l := hx.1
    have hi2 : i < 16777216 := by omega
    have i6 : isBor (.val (.int (i : Int))) = false := rfl
    by_cases h1 : 1000000000000000000 ≤ c ∧ 0 < r
    · simp [h1.1, h1.2, l, hi2]
      exact ⟨xs ++ [r % 5040], hx.snoc (by omega) (by omega), r / 5040, _, i6, _, n7, by simp⟩
    · refine if_no' (by simp; omega) ?_
      refine seq_nx (by simp [putS_nb, n7]; rfl) ?_
      generalize (c * 48271 + ((i : Int) + 1) * 69621 + (k + 1) * 40692) % 2147483647 = m
      refine seq_nx (by simp [fMul_l (p := m % 46337 + 1) (q := m / 46337 + 1) (by omega) (by omega)]; rfl) ?_
      generalize (m % 46337 + 1) * (m / 46337 + 1) + (i : Int) * 7919 = m
      simp [l, hi2]
      exact ⟨xs ++ [m / 3 % 5040], hx.snoc (by omega) (by omega), r, _, i6, .val (.int m), rfl, by simp⟩
  · rintro ρ ⟨xs, r, s6, s7, hx, n6, n7, rfl⟩
    simp
    exact ⟨xs, hx, rfl⟩
end Law
set_option Elab.async false
set_option linter.all false
set_option maxRecDepth 100000
namespace Law
open Dn PySem
def isLet (c : Nat) : Bool := decide (97 ≤ c ∧ c ≤ 122)
def isDig (c : Nat) : Bool := decide (48 ≤ c ∧ c ≤ 57)
theorem mem_letters (c : Nat) : decide (c ∈ (Str.ofString "abcdefghijklmnopqrstuvwxyz").cps.toList) = isLet c := by
  rw [str_lit, Bool.eq_iff_iff, decide_eq_true_iff]
  unfold isLet
  rw [decide_eq_true_iff, show "abcdefghijklmnopqrstuvwxyz".toList.map Char.toNat = [97,98,99,100,101,102,103,104,105,106,107,108,109,110,111,112,113,114,115,116,117,118,119,120,121,122] by decide +kernel]
  simp
  omega
theorem mem_digits (c : Nat) : decide (c ∈ (Str.ofString "0123456789").cps.toList) = isDig c := by
  rw [str_lit, Bool.eq_iff_iff, decide_eq_true_iff]
  unfold isDig
  rw [decide_eq_true_iff, show "0123456789".toList.map Char.toNat = [48,49,50,51,52,53,54,55,56,57] by decide +kernel]
  simp
  omega
theorem ni_letters (c : Nat) : fNotIn (.str ⟨#[c]⟩) (.str (Str.ofString "abcdefghijklmnopqrstuvwxyz")) = some (.val (.bool (!isLet c))) := by rw [fNotIn1, mem_letters]
theorem ni_digits (c : Nat) : fNotIn (.str ⟨#[c]⟩) (.str (Str.ofString "0123456789")) = some (.val (.bool (!isDig c))) := by rw [fNotIn1, mem_digits]
def okCh (c : Nat) : Bool := isLet c || isDig c
def isNm (cs : List Nat) : Bool := decide (1 ≤ cs.length) && decide (cs.length ≤ 8) && isLet (nth cs 0 0) && cs.all okCh
def isName : D → Bool
  | .str z => isNm z.cps.toList
  | _ => false
def strOk : D → Bool
  | .str z => decide (z.length ≤ 16777216)
  | _ => true
theorem all_false {α : Type} {p : α → Bool} : ∀ {l : List α}, l.all p = false → ∃ pre x post, l = pre ++ x :: post ∧ (∀ y ∈ pre, p y = true) ∧ p x = false
  | [], h => by cases h
  | a :: l, h => by
    cases e : p a with
    | false => exact ⟨[], a, l, rfl, by simp, e⟩
    | true =>
      have h' : l.all p = false := by simpa [e] using h
      obtain ⟨pre, x, post, e1, e2, e3⟩ := all_false h'
      exact ⟨a :: pre, x, post, by rw [e1]; rfl, by simp; exact ⟨e, e2⟩, e3⟩
theorem is_name_eq (d : D) (h : strOk d = true) : d_is_name [.val d] = .ok (.val (.bool (isName d))) [.val d] := by
  refine mkF_ret (ds := [d]) rfl ?_
  cases d with
  | str z =>
    obtain ⟨⟨l⟩⟩ := z
    have h : l.length ≤ 16777216 := of_decide_eq_true h
    have el : Str.length ⟨⟨l⟩⟩ = l.length := rfl
    have e0 : isName (.str ⟨⟨l⟩⟩) = isNm l := rfl
    rw [e0]
    simp [b_is_name, isStr, h, el]
    by_cases h1 : 1 ≤ l.length
    · by_cases h2 : l.length ≤ 8
      · have e1 : ¬ ((l.length : Int) < 1) := by omega
        have e2 : ¬ (8 < (l.length : Int)) := by omega
        have e3 : fIx (.str ⟨⟨l⟩⟩) (.int 0) = some (.val (.str ⟨#[nth l 0 0]⟩)) := fIx_str (v := ⟨⟨l⟩⟩) (p := 0) (by omega) (by rw [el]; omega) h
        cases h3 : isLet (nth l 0 0) with
        | false =>
          have q : isNm l = false := by unfold isNm; rw [h3]; simp
          rw [q]
          simp [e1, e2, e3, ni_letters, h3]
        | true =>
          have q : isNm l = l.all okCh := by unfold isNm; rw [h3]; simp [h1, h2]
          rw [q]
          generalize hP : l.all okCh = P at *
          simp [e1, e2, e3, ni_letters, h3]
          rw [← hP] at *
          refine for_rule (P := Ret 1 (.val (.bool (l.all okCh)))) (fun r ρ => ∃ rest s, r = rest.map (fun c => .str ⟨#[c]⟩) ∧ l.all okCh = rest.all okCh ∧ isBor s = false ∧ ρ = [.val (.str ⟨⟨l⟩⟩), s]) ⟨l, .emp, rfl, rfl, rfl, rfl⟩ ?_ ?_
          · rintro d r ρ ⟨rest, s, e, a, n, rfl⟩
            cases rest with
            | nil => cases e
            | cons c rest =>
              rw [List.map_cons] at e
              cases e
              refine ⟨_, by simp; exact gNmS_nb n, ?_⟩
              cases hc : okCh c with
              | false =>
                have a' : l.all okCh = false := by rw [a]; simp [hc]
                have hc' := hc
                unfold okCh at hc'
                rw [Bool.or_eq_false_iff] at hc'
                rw [a']
                simp [ni_letters, ni_digits, hc'.1, hc'.2]
              | true =>
                have a' : l.all okCh = rest.all okCh := by rw [a]; simp [hc]
                have hc' := hc
                unfold okCh at hc'
                have q2 : (!isLet c && !isDig c) = false := by cases e1 : isLet c <;> cases e2 : isDig c <;> simp [e1, e2] at hc' ⊢
                simp [ni_letters, ni_digits, q2]
                exact ⟨rest, rfl, a'⟩
          · rintro ρ ⟨rest, s, e, a, n, rfl⟩
            cases rest with
            | nil =>
              rw [a]
              simp
            | cons c rest => cases e
      · simp [show ¬ ((l.length : Int) < 1) by omega, show (8 < (l.length : Int)) by omega, isNm, h2]
    · simp [show ((l.length : Int) < 1) by omega, isNm, h1]
  | _ => simp [b_is_name, isStr, isName]
end Law
set_option Elab.async false
set_option linter.all false
set_option maxRecDepth 100000
namespace Law
open Dn PySem
open L2 (Key)
theorem is_tuple_of_eq (d : D) (a b : Int) : d_is_tuple_of [.val d, .val (.int a), .val (.int b)] = .ok (.val (.bool (match d with | .tuple ds => decide (a ≤ ds.length) && decide ((ds.length : Int) ≤ b) | _ => false))) [.val d, .val (.int a), .val (.int b)] := by
  refine mkF_ret (ds := [d, .int a, .int b]) rfl ?_
  cases d <;> simp [b_is_tuple_of, isTup]
theorem law_is_eq (a b : Bool) : d__law_is [.val (.bool a), .val (.bool b)] = .ok (.val (.bool (a == b))) [.val (.bool a), .val (.bool b)] := by
  refine mkF_ret (ds := [.bool a, .bool b]) rfl ?_
  simp [b__law_is, isBool]
def nmsGo (seen : List Str) : List D → Bool
  | [] => true
  | .str z :: r => isNm z.cps.toList && !decide (z ∈ seen) && nmsGo (z :: seen) r
  | _ :: _ => false
def namesOk (ds : List D) : Bool := nmsGo [] ds
theorem any_keys (kvs : List (Key × D)) (seen : List Str) (z : Str) (h : ∀ z, (kvs.any fun p => decide (p.1 = (Sum.inr z : Key))) = decide (z ∈ seen)) (z' : Str) : ((kvs ++ [((Sum.inr z : Key), PyData.bool true)]).any fun p => decide (p.1 = (Sum.inr z' : Key))) = decide (z' ∈ z :: seen) := by
  rw [List.any_append, h]
  rw [Bool.eq_iff_iff]
  simp
  constructor
  · rintro (a | a)
    · exact .inr a
    · exact .inl a.symm
  · rintro (a | a)
    · exact .inr a.symm
    · exact .inl a
theorem is_names_tuple (ds : List D) (a b : Int) (hs : ∀ d ∈ ds, strOk d = true) (hl : ds.length ≤ 1000000) :
    d_is_names [.val (.tuple ds), .val (.int a), .val (.int b)] = .ok (.val (.bool (decide (a ≤ ds.length) && decide ((ds.length : Int) ≤ b) && namesOk ds))) [.val (.tuple ds), .val (.int a), .val (.int b)] := by
  refine mkF_ret (ds := [.tuple ds, .int a, .int b]) rfl ?_
  cases q : (decide (a ≤ (ds.length : Int)) && decide ((ds.length : Int) ≤ b)) with
  | false =>
    have e := is_tuple_of_eq (.tuple ds) a b
    dsimp only at e
    rw [q] at e
    simp [b_is_names, e]
  | true =>
    have e := is_tuple_of_eq (.tuple ds) a b
    dsimp only at e
    rw [q] at e
    simp [b_is_names, e]
    refine for_rule (P := Ret 3 (.val (.bool (namesOk ds)))) (fun r ρ => ∃ kvs seen s, (∀ z : Str, (kvs.any fun p : Key × D => decide (p.1 = (Sum.inr z : Key))) = decide (z ∈ seen)) ∧ namesOk ds = nmsGo seen r ∧ (∀ d ∈ r, strOk d = true) ∧ kvs.length + r.length ≤ 1000000 ∧ isBor s = false ∧ ρ = [.val (.tuple ds), .val (.int a), .val (.int b), .own (.dic kvs), s]) ⟨[], [], .emp, fun _ => by simp, rfl, hs, by simpa using hl, rfl, rfl⟩ ?_ ?_
    · rintro d r ρ ⟨kvs, seen, s, hk, hn, hs, hl, n, rfl⟩
      refine ⟨_, by simp; exact gNmS_nb n, ?_⟩
      have e1 := is_name_eq d (hs d (by simp))
      cases d with
      | str z =>
        have e2 : isName (.str z) = isNm z.cps.toList := rfl
        rw [e2] at e1
        have hn' : namesOk ds = (isNm z.cps.toList && !decide (z ∈ seen) && nmsGo (z :: seen) r) := hn
        cases q1 : isNm z.cps.toList with
        | false =>
          rw [q1] at e1 hn'
          have hn' : namesOk ds = false := by rw [hn']; simp
          rw [hn']
          simp [e1]
        | true =>
          rw [q1] at e1 hn'
          cases q2 : decide (z ∈ seen) with
          | true =>
            rw [q2] at hn'
            have hn' : namesOk ds = false := by rw [hn']; simp
            rw [hn']
            simp [e1, look_some, hk, of_decide_eq_true q2]
          | false =>
            rw [q2] at hn'
            have hn' : namesOk ds = nmsGo (z :: seen) r := by rw [hn']; simp
            have hk2 : (kvs.any fun p : Key × D => decide (p.1 = (Sum.inr z : Key))) = false := by rw [hk, q2]
            have hl' : kvs.length + (r.length + 1) ≤ 1000000 := hl
            simp [e1, look_some, hk2, put_new hk2, show kvs.length < 16777216 by omega]
            refine ⟨_, z :: seen, any_keys kvs seen z hk, hn', fun d hd => hs d (List.mem_cons_of_mem _ hd), ?_, rfl⟩
            rw [List.length_append, List.length_singleton]
            omega
      | _ =>
        have hn' : namesOk ds = false := hn
        rw [hn']
        simp [e1, isName]
    · rintro ρ ⟨kvs, seen, s, hk, hn, hs, hl, n, rfl⟩
      rw [hn]
      simp [nmsGo]
theorem is_names_list (ds : List D) (a b : Int) : d_is_names [.val (.list ds), .val (.int a), .val (.int b)] = .ok (.val (.bool false)) [.val (.list ds), .val (.int a), .val (.int b)] := by
  refine mkF_ret (ds := [.list ds, .int a, .int b]) rfl ?_
  have e := is_tuple_of_eq (.list ds) a b
  dsimp only at e
  simp [b_is_names, e]
theorem held_eq (ds : List D) (low high : Int) (good : Bool) (hs : ∀ d ∈ ds, strOk d = true) (hl : ds.length ≤ 1000000) (hg : namesOk ds = good) :
    d__law_held_names [.val (.tuple ds), .val (.int low), .val (.int high), .val (.bool good)] = .ok (.val (.bool true)) [.val (.tuple ds), .val (.int low), .val (.int high), .val (.bool good)] := by
  refine mkF_ret (ds := [.tuple ds, .int low, .int high, .bool good]) rfl ?_
  simp [b__law_held_names]
  refine for_rule (P := Ret 4 (.val (.bool true))) (fun r ρ => ∃ s5 s6, (∀ d ∈ r, ∃ a b : Int, d = .tuple [.int a, .int b]) ∧ isBor s5 = false ∧ isBor s6 = false ∧ ρ = [.val (.tuple ds), .val (.int low), .val (.int high), .val (.bool good), .val (.int ds.length), s5, s6]) ⟨.emp, .emp, ?_, rfl, rfl, rfl⟩ ?_ ?_
  · intro d hd
    simp at hd
    rcases hd with rfl | rfl | rfl | rfl | rfl <;> exact ⟨_, _, rfl⟩
  · rintro d r ρ ⟨s5, s6, hr, n5, n6, rfl⟩
    obtain ⟨a, b, rfl⟩ := hr d (by simp)
    refine ⟨_, by simp [gNmS_nb, n5, n6]; rfl, ?_⟩
    have e1 := is_names_tuple ds a b hs hl
    have e2 := is_tuple_of_eq (.tuple ds) a b
    have e3 := is_names_list ds a b
    have e4 := is_tuple_of_eq (.list ds) a b
    dsimp only at e2 e4
    rw [hg] at e1
    have e5 : (decide (a ≤ (ds.length : Int)) && decide ((ds.length : Int) ≤ b) && good) = (decide (good = true) && (decide (a ≤ (ds.length : Int)) && decide ((ds.length : Int) ≤ b))) := by cases good <;> simp
    rw [e5] at e1
    simp [e1, e2, e3, e4, law_is_eq]
    exact fun d hd => hr d (List.mem_cons_of_mem _ hd)
  · rintro ρ ⟨s5, s6, hr, n5, n6, rfl⟩
    simp
end Law
set_option Elab.async false
set_option linter.all false
set_option maxRecDepth 100000
namespace Law
open Dn PySem
open L2 (Key)
abbrev sL : Str := Str.ofString "qabcdefghijklmnoprstuvwxyz"
abbrev sS' : Str := Str.ofString "z0123456789abcdefghijklmnopqrstuvwxy"
abbrev sF : Str := Str.ofString "9ab0zy"
theorem lenL : sL.length = 26 := by decide +kernel
theorem lenS : sS'.length = 36 := by decide +kernel
theorem lenF : sF.length = 6 := by decide +kernel
def idx (l : List Nat) (c : Nat) : Nat := l.findIdx (· == c)
def dec (l : List Nat) : Nat := match l with
  | c :: s :: _ => idx sL.cps.toList c + 26 * idx sS'.cps.toList s
  | c :: _ => idx sL.cps.toList c
  | [] => 0
def gd (i : Nat) (z : Str) : Bool := isNm z.cps.toList && dec z.cps.toList == i
def nmA (i d : Nat) : Str := (⟨#[nth sL.cps.toList (i % 26) 0]⟩ ++ ⟨#[nth sS'.cps.toList (i / 26) 0]⟩) ++ L2.cutS sF none (some (d : Int))
def nmB (i : Nat) : Str := ⟨#[nth sL.cps.toList i 0]⟩
theorem gdA : ∀ i < 200, ∀ d < 7, gd i (nmA i d) = true := by decide +kernel
theorem gdB : ∀ i < 26, gd i (nmB i) = true := by decide +kernel
theorem gd_len {i : Nat} {z : Str} (h : gd i z = true) : z.length ≤ 8 := by
  unfold gd isNm at h
  simp at h
  exact h.1.1.1.2
end Law
set_option Elab.async false
set_option linter.all false
set_option maxRecDepth 100000
namespace Law
open Dn PySem
open L2 (Key)
theorem len_app {v w : Str} : (v ++ w).length = v.length + w.length := by
  show (v.cps ++ w.cps).size = _
  rw [Array.size_append]
  rfl
theorem len_cut {v : Str} {lo hi : Option Int} : (L2.cutS v lo hi).length ≤ v.length := by
  show ((v.cps.toList.drop _).take _).toArray.size ≤ v.cps.size
  simp
  omega
theorem names_eq (ts : List Int) (count : Int) (ht : Draws ts 50) (h0 : 0 ≤ count) (h1 : count ≤ 200) :
    ∃ zs : List Str, zs.length = count.toNat ∧ (∀ z ∈ zs, isNm z.cps.toList = true ∧ z.length ≤ 8) ∧ zs.Nodup ∧ 
      d__law_names [.val (.list (ts.map .int)), .val (.int count)] = .ok (.val (.tuple (zs.map .str))) [.val (.list (ts.map .int)), .val (.int count)] := by
  suffices H : ExRet 2 (fun zs : List Str => zs.length = count.toNat ∧ (∀ z ∈ zs, isNm z.cps.toList = true ∧ z.length ≤ 8) ∧ zs.Nodup) (fun zs => .val (.tuple (zs.map .str))) (b__law_names (vals [.list (ts.map .int), .int count] ++ List.replicate 7 .emp)) by
    obtain ⟨zs, ⟨a, b, c⟩, q⟩ := mkF_ex (n := 2) (m := 9) (b := b__law_names) (ds := [.list (ts.map .int), .int count]) rfl H
    exact ⟨zs, a, b, c, q⟩
  have e1 := rg1_ok (n := count) (by omega) (by omega)
  simp [b__law_names, e1]
  refine for_rg
    (fun i ρ => ∃ (zs : List Str) (s5 s7 s8 : Sl), zs.length = i ∧ (∀ j (h : j < zs.length), gd j zs[j] = true) ∧ isBor s5 = false ∧ isBor s7 = false ∧ isBor s8 = false ∧
      ρ = [.val (.list (ts.map .int)), .val (.int count), .val (.str sL), .val (.str sS'), .own (.lst (zs.map .str)), s5, .emp, s7, s8]) ?_ ?_ ?_
  · exact ⟨[], .emp, .emp, .emp, rfl, fun j h => by simp at h, rfl, rfl, rfl, rfl⟩
  · rintro i hi ρ ⟨zs, s5, s7, s8, hz, hg, n5, n7, n8, rfl⟩
    refine ⟨_, by simp [gNmS_nb, n5]; rfl, ?_⟩
    have hlen : ts.length = 50 := ht.1
    have hdr := ht.2 (nth ts ((i : Int) % 50).toNat 0) (nth_mem (by omega))
    have e2 := fIx_ints (ns := ts) (p := (i : Int) % 50) (by omega) (by omega)
    generalize nth ts ((i : Int) % 50).toNat 0 = dr at *
    refine seq_nx (by simp [hlen, e2, putS_nb, n7]; rfl) ?_
    have e3 := fIx_str (v := sL) (p := (i : Int) % 26) (by omega) (by rw [lenL]; omega) (by rw [lenL]; decide)
    have e4 := fIx_str (v := sS') (p := (i : Int) / 26) (by omega) (by rw [lenS]; omega) (by rw [lenS]; decide)
    have e5 : fSl (.str (Str.ofString "9ab0zy")) none (some (dr % 7)) = some (.val (.str (L2.cutS sF none (some (dr % 7))))) := fSl_str (v := sF) (lo := none) (hi := some (dr % 7)) (by rw [lenF]; decide)
    have eA : (⟨#[nth sL.cps.toList ((i : Int) % 26).toNat 0]⟩ ++ ⟨#[nth sS'.cps.toList ((i : Int) / 26).toNat 0]⟩) ++ L2.cutS sF none (some (dr % 7)) = nmA i (dr % 7).toNat := by
      unfold nmA
      rw [show ((i : Int) % 26).toNat = i % 26 by omega, show ((i : Int) / 26).toNat = i / 26 by omega, show (((dr % 7).toNat : Nat) : Int) = dr % 7 by omega]
    have hA : gd i (nmA i (dr % 7).toNat) = true := gdA i (by omega) _ (by omega)
    refine seq_nx (by
      simp [e3, e4, e5]
      rw [fAdd_str (by rw [len_app, len1, len1]; have := len_cut (v := sF) (lo := none) (hi := some (dr % 7)); rw [lenF] at this; omega)]
      simp [putS_nb, n8]
      rw [eA]) ?_
    have key : ∀ z : Str, gd i z = true → ∃ zs' : List Str, ∃ s5' s7' s8' : Sl, zs'.length = i + 1 ∧ (∀ j (h : j < zs'.length), gd j zs'[j] = true) ∧ isBor s5' = false ∧ isBor s7' = false ∧ isBor s8' = false ∧
        [.val (.list (ts.map .int)), .val (.int count), .val (.str sL), .val (.str sS'), .own (.lst (zs.map .str ++ [.str z])), .val (.int (i : Int)), .emp, .val (.int dr), .val (.str z)] = [.val (.list (ts.map .int)), .val (.int count), .val (.str sL), .val (.str sS'), .own (.lst (zs'.map .str)), s5', .emp, s7', s8'] := by
      intro z hz2
      refine ⟨zs ++ [z], _, _, _, by simp [hz], fun j hj => ?_, rfl, rfl, rfl, by rw [List.map_append]; rfl⟩
      rw [List.getElem_append]
      split
      · exact hg j _
      · have : j = i := by simp at hj; omega
        simp [this, hz2]
    by_cases hc : i < 26 ∧ dr / 7 % 3 = 0
    · have e6 := fIx_str (v := sL) (p := (i : Int)) (by omega) (by rw [lenL]; omega) (by rw [lenL]; decide)
      have eB : (⟨#[nth sL.cps.toList ((i : Int)).toNat 0]⟩ : Str) = nmB i := rfl
      rw [eB] at e6
      refine seq_nx (ρ1 := _) (by
        refine if_yes' (P := fun s => s = _) (by simp [show ((i : Int) < 26) by omega, hc.2]) ?_
        simp [e6]
        rfl) ?_
      exact FL_of (by simp [hz, show i < 16777216 by omega]) (key _ (gdB i hc.1))
    · refine seq_nx (ρ1 := _) (by
        refine if_no' (P := fun s => s = _) (by simp; omega) ?_
        simp
        rfl) ?_
      exact FL_of (by simp [hz, show i < 16777216 by omega]) (key _ hA)
  · rintro ρ ⟨zs, s5, s7, s8, hz, hg, n5, n7, n8, rfl⟩
    have hlen : ts.length = 50 := ht.1
    have hdr := ht.2 (nth ts 0 0) (nth_mem (by omega))
    have e2 := fIx_ints (ns := ts) (p := 0) (by omega) (by omega)
    have e2 : fIx (.list (ts.map .int)) (.int 0) = some (.val (.int (nth ts 0 0))) := e2
    generalize nth ts 0 0 = dr at *
    refine seq_nx (by simp [e2, fMod_pos (p := dr) (q := count + 1) (by omega)]; rfl) ?_
    have hm0 : 0 ≤ dr % (count + 1) := Int.emod_nonneg _ (by omega)
    generalize dr % (count + 1) = c at *
    refine ExRet_ret (by simp [hm0]; rw [fAdd_list (by simp; omega)]; simp; exact ⟨rfl, rfl⟩) (zs.drop c.toNat ++ zs.take c.toNat) ⟨?_, ?_, ?_⟩ (by simp) (by simp)
    · simp
      omega
    · intro z hz2
      have hm : z ∈ zs := by
        rw [List.mem_append] at hz2
        exact hz2.elim List.mem_of_mem_drop List.mem_of_mem_take
      obtain ⟨j, hj, rfl⟩ := List.getElem_of_mem hm
      have q := hg j hj
      exact ⟨by unfold gd at q; simp at q; exact q.1, gd_len q⟩
    · have nd : zs.Nodup := by
        rw [List.nodup_iff_pairwise_ne, List.pairwise_iff_getElem]
        intro a b ha hb hab e
        have qa := hg a ha
        have qb := hg b hb
        rw [e] at qa
        unfold gd at qa qb
        simp at qa qb
        omega
      have pm : (zs.drop c.toNat ++ zs.take c.toNat).Perm zs := by
        have := List.perm_append_comm (l₁ := zs.drop c.toNat) (l₂ := zs.take c.toNat)
        rw [List.take_append_drop] at this
        exact this
      exact pm.nodup_iff.mpr nd
end Law
set_option Elab.async false
set_option linter.all false
set_option maxRecDepth 100000
namespace Law
open Dn PySem
open L2 (Key)
def same1 : D → D → Bool
  | .none, .none => true
  | .bool a, .bool b => a == b
  | .int a, .int b => decide (a = b)
  | .str a, .str b => decide (a = b)
  | _, _ => false
theorem same1_eq (a b : D) (ha : isTup a = false) (hb : isTup b = false) : d_same_single [.val a, .val b] = .ok (.val (.bool (same1 a b))) [.val a, .val b] := by
  refine mkF_ret (ds := [a, b]) rfl ?_
  cases a <;> cases b <;> first | (cases ha; done) | (cases hb; done) | simp [b_same_single, isNon, isBool, isInt, isStr, same1]
mutual
def wt : D → Nat
  | .tuple xs => 1 + wtL xs
  | _ => 1
def wtL : List D → Nat
  | [] => 0
  | x :: r => wt x + wtL r
end
mutual
def sameD : D → D → Bool
  | .tuple xs, .tuple ys => sameL xs ys
  | .tuple _, _ => false
  | _, .tuple _ => false
  | .none, b => same1 .none b
  | .bool a, b => same1 (.bool a) b
  | .int a, b => same1 (.int a) b
  | .str a, b => same1 (.str a) b
  | .list _, _ => false
  | .dict _, _ => false
def sameL : List D → List D → Bool
  | [], [] => true
  | x :: xs, y :: ys => sameD x y && sameL xs ys
  | _, _ => false
end
theorem sameD_1 (a b : D) (ha : isTup a = false) (hb : isTup b = false) : sameD a b = same1 a b := by
  cases a <;> cases b <;> first | (cases ha; done) | (cases hb; done) | simp [sameD, same1]
theorem wt_pos (d : D) : 1 ≤ wt d := by cases d <;> simp [wt]
theorem wtL_app : ∀ (xs ys : List D), wtL (xs ++ ys) = wtL xs + wtL ys
  | [], ys => by simp [wtL]
  | x :: xs, ys => by
    show wt x + wtL (xs ++ ys) = wt x + wtL xs + wtL ys
    rw [wtL_app xs ys]
    omega
def pr (p : D × D) : D := .tuple [p.1, p.2]
def wS (st : List (D × D)) : Nat := wtL (st.map (·.1))
def okS (st : List (D × D)) : Bool := st.all fun p => sameD p.1 p.2
theorem wS_len (st : List (D × D)) : st.length ≤ wS st := by
  induction st with
  | nil => exact Nat.zero_le _
  | cons p r ih =>
    have := wt_pos p.1
    show r.length + 1 ≤ wt p.1 + wS r
    omega
theorem sameL_len : ∀ {xs ys : List D}, sameL xs ys = true → xs.length = ys.length
  | [], [], _ => rfl
  | [], _ :: _, h => by simp [sameL] at h
  | _ :: _, [], h => by simp [sameL] at h
  | x :: xs, y :: ys, h => by
    simp [sameL] at h
    rw [List.length_cons, List.length_cons, sameL_len h.2]
theorem sameL_zip : ∀ {xs ys : List D}, xs.length = ys.length → sameL xs ys = (xs.zip ys).all fun p => sameD p.1 p.2
  | [], [], _ => rfl
  | [], _ :: _, h => by cases h
  | _ :: _, [], h => by cases h
  | x :: xs, y :: ys, h => by
    rw [List.zip_cons_cons, List.all_cons, ← sameL_zip (by simpa using h)]
    rfl
theorem same_eq (a b : D) (h : wt a ≤ 1000000) : d_same [.val a, .val b] = .ok (.val (.bool (sameD a b))) [.val a, .val b] := by
  refine mkF_ret (ds := [a, b]) rfl ?_
  simp [b_same]
  refine swhile_rule (P := Ret 2 (.val (.bool (sameD a b)))) (fun m ρ => ∃ (st : List (D × D)) (s3 s4 s5 : Sl), sameD a b = okS st ∧ wS st ≤ m ∧ m ≤ 1000000 ∧ isBor s3 = false ∧ isBor s4 = false ∧ isBor s5 = false ∧ ρ = [.val a, .val b, .own (.lst (st.map pr)), s3, s4, s5])
    (m := 1000000) (by decide) ⟨[(a, b)], .emp, .emp, .emp, by simp [okS], by simpa [wS, wtL] using h, Nat.le_refl _, rfl, rfl, rfl, rfl⟩ ?_
  rintro m ρ ⟨st, s3, s4, s5, he, hw, hm, n3, n4, n5, rfl⟩
  refine ⟨!(st.map pr).isEmpty, _, by simp; rfl, fun c => ?_, fun c => ?_⟩
  · have : st = [] := by simpa using c
    subst this
    rw [he]
    simp [okS]
  · have hne : st ≠ [] := by simpa using c
    obtain ⟨st', p, rfl⟩ : ∃ st' p, st = st' ++ [p] := ⟨_, _, (List.dropLast_concat_getLast hne).symm⟩
    obtain ⟨x, y⟩ := p
    have hw' : wS st' + wt x ≤ m := by
      have : wS (st' ++ [(x, y)]) = wS st' + wt x := by unfold wS; rw [List.map_append, wtL_app]; simp [wtL]
      omega
    have he' : sameD a b = (okS st' && sameD x y) := by rw [he]; simp [okS]
    have hwx := wt_pos x
    refine seq_nx (ρ1 := [.val a, .val b, .own (.lst (st'.map pr)), .val x, .val y, s5]) (by simp [pr, gNmS_nb, n3, n4]) ?_
    have done : sameD x y = false → sameD a b = false := fun q => by rw [he', q]; simp
    cases hx : isTup x with
    | false =>
      cases hy : isTup y with
      | false =>
        have e := same1_eq x y hx hy
        have e2 := sameD_1 x y hx hy
        cases q : same1 x y with
        | false =>
          rw [q] at e
          rw [done (by rw [e2, q])]
          simp [hx, hy, e]
        | true =>
          rw [q] at e
          refine FL_of (by simp [hx, hy, e]; exact ⟨rfl, rfl⟩) ⟨m - 1, by omega, st', _, _, _, by rw [he', e2, q]; simp, by omega, by omega, rfl, rfl, n5, rfl⟩
      | true =>
        rw [done (by cases y <;> first | (cases hy; done) | (cases x <;> first | (cases hx; done) | simp [sameD]))]
        simp [hx, hy]
    | true =>
      cases hy : isTup y with
      | false =>
        rw [done (by cases x <;> first | (cases hx; done) | (cases y <;> first | (cases hy; done) | simp [sameD]))]
        simp [hx, hy]
      | true =>
        cases x <;> first | (cases hx; done) | skip
        cases y <;> first | (cases hy; done) | skip
        rename_i xs ys
        by_cases hl : xs.length = ys.length
        · have hwt : wt (.tuple xs) = 1 + wtL xs := by simp [wt]
          have hxl : xs.length ≤ wtL xs := by
            have : ∀ l : List D, l.length ≤ wtL l := fun l => by
              induction l with
              | nil => exact Nat.zero_le _
              | cons d r ih => have := wt_pos d; show r.length + 1 ≤ wt d + wtL r; omega
            exact this xs
          have hlS := wS_len st'
          have e1 := rg1_ok (n := (xs.length : Int)) (by omega) (by omega)
          have e2 : sameD (.tuple xs) (.tuple ys) = (xs.zip ys).all fun p => sameD p.1 p.2 := sameL_zip hl
          refine if_yes' (by simp [hx]) ?_
          refine seq_nx (ρ1 := [.val a, .val b, .own (.lst (st'.map pr)), .val (.tuple xs), .val (.tuple ys), s5]) (by simp [hx, hy]) ?_
          refine seq_nx (ρ1 := [.val a, .val b, .own (.lst (st'.map pr)), .val (.tuple xs), .val (.tuple ys), s5]) (by simp [hl]) ?_
          simp only [sFor_ap, eRg1_ap, toV_ap, eOp1_ap, ePk_ap, gS_succ, gS_zero, o1_ok, toVk_ok, rg1k_ok, fLen_tuple, optR_some, toD_val, e1, sFk_ok, Int.toNat_natCast]
          refine for_lrg (P := FL _ _ _) (fun i ρ => ∃ s5, isBor s5 = false ∧ ρ = [.val a, .val b, .own (.lst ((st' ++ (xs.zip ys).take i).map pr)), .val (.tuple xs), .val (.tuple ys), s5]) ⟨s5, n5, by simp⟩ ?_ ?_
          · rintro i hi ρ ⟨s5, n5, rfl⟩
            have e3 := fIx_tuple (xs := xs) (p := (i : Int)) (by omega) (by omega)
            have e4 := fIx_tuple (xs := ys) (p := (i : Int)) (by omega) (by omega)
            refine ⟨_, by simp; exact gNmS_nb n5, ?_⟩
            refine FL_of (ρ := [.val a, .val b, .own (.lst ((st' ++ (xs.zip ys).take (i + 1)).map pr)), .val (.tuple xs), .val (.tuple ys), .val (.int (i : Int))]) ?_ ⟨_, rfl, rfl⟩
            have ez : (xs.zip ys).take (i + 1) = (xs.zip ys).take i ++ [(xs[i]'(by omega), ys[i]'(by omega))] := by
              rw [List.take_succ_eq_append_getElem (by simp; omega), List.getElem_zip]
            have ex : nth xs i .none = xs[i]'(by omega) := nth_lt (by omega)
            have ey : nth ys i .none = ys[i]'(by omega) := nth_lt (by omega)
            have hlen : (st'.map pr ++ ((xs.zip ys).take i).map pr).length < 16777216 := by simp; omega
            rw [ez]
            simp [e3, e4, ex, ey]
            rw [if_pos (by simp at hlen; omega)]
            simp [pr]
          · rintro ρ ⟨s5, n5, rfl⟩
            refine ⟨m - 1, by omega, st' ++ (xs.zip ys), Sl.val (.tuple xs), Sl.val (.tuple ys), s5, ?_, ?_, by omega, rfl, rfl, n5, ?_⟩
            · rw [he', e2]; simp [okS]
            · have : wtL ((xs.zip ys).map (·.1)) = wtL xs := by rw [List.map_fst_zip (by omega)]
              unfold wS at *
              rw [List.map_append, wtL_app, this]
              omega
            · rw [List.take_of_length_le (by simp; omega)]
        · rw [done (by
            cases q : sameD (.tuple xs) (.tuple ys) with
            | false => rfl
            | true => exact absurd (sameL_len q) hl)]
          simp [hx, hy, show ¬ ((xs.length : Int) = ys.length) by omega]
end Law
set_option Elab.async false
set_option linter.all false
set_option maxRecDepth 100000
namespace Law
open Dn PySem
open L2 (Key)
mutual
def plainD : D → Bool
  | .tuple xs => plainL xs
  | .list _ => false
  | .dict _ => false
  | _ => true
def plainL : List D → Bool
  | [] => true
  | x :: xs => plainD x && plainL xs
end
theorem plainL_all : ∀ xs : List D, plainL xs = xs.all plainD
  | [] => rfl
  | x :: xs => by
    rw [List.all_cons, ← plainL_all xs]
    rfl
theorem single_eq (a : D) (ha : isTup a = false) : d_is_single [.val a] = .ok (.val (.bool (plainD a))) [.val a] := by
  refine mkF_ret (ds := [a]) rfl ?_
  cases a <;> first | (cases ha; done) | simp [b_is_single, isNon, isInt, isStr, plainD]
theorem wtL_len : ∀ l : List D, l.length ≤ wtL l
  | [] => Nat.zero_le _
  | d :: r => by
    have := wt_pos d
    have := wtL_len r
    show r.length + 1 ≤ wt d + wtL r
    omega
theorem is_plain_eq (a : D) (h : wt a ≤ 1000000) : d_is_plain [.val a] = .ok (.val (.bool (plainD a))) [.val a] := by
  refine mkF_ret (ds := [a]) rfl ?_
  simp [b_is_plain]
  refine swhile_rule (P := Ret 1 (.val (.bool (plainD a)))) (fun m ρ => ∃ (st : List D) (s2 : Sl), plainD a = st.all plainD ∧ wtL st ≤ m ∧ m ≤ 1000000 ∧ isBor s2 = false ∧ ρ = [.val a, .own (.lst st), s2])
    (m := 1000000) (by decide) ⟨[a], .emp, by simp, by simpa [wtL] using h, Nat.le_refl _, rfl, rfl⟩ ?_
  rintro m ρ ⟨st, s2, he, hw, hm, n2, rfl⟩
  refine ⟨!st.isEmpty, _, by simp; rfl, fun c => ?_, fun c => ?_⟩
  · have : st = [] := by simpa using c
    subst this
    rw [he]
    simp
  · have hne : st ≠ [] := by simpa using c
    obtain ⟨st', x, rfl⟩ : ∃ st' x, st = st' ++ [x] := ⟨_, _, (List.dropLast_concat_getLast hne).symm⟩
    have hw' : wtL st' + wt x ≤ m := by
      rw [wtL_app] at hw
      simp [wtL] at hw
      omega
    have he' : plainD a = (st'.all plainD && plainD x) := by rw [he]; simp
    have hwx := wt_pos x
    have hls := wtL_len st'
    refine seq_nx (ρ1 := [.val a, .own (.lst st'), .val x]) (by simp [putS_nb, n2]) ?_
    cases hx : isTup x with
    | false =>
      have e := single_eq x hx
      cases q : plainD x with
      | false =>
        have : plainD a = false := by rw [he', q]; simp
        rw [q] at e
        rw [this]
        simp [hx, e]
      | true =>
        rw [q] at e
        exact FL_of (ρ := [.val a, .own (.lst st'), .val x]) (by simp [hx, e]) ⟨m - 1, by omega, st', _, by rw [he', q]; simp, by omega, by omega, rfl, rfl⟩
    | true =>
      cases x <;> first | (cases hx; done) | skip
      rename_i xs
      have hwt : wt (.tuple xs) = 1 + wtL xs := by simp [wt]
      have hlx := wtL_len xs
      exact FL_of (ρ := [.val a, .own (.lst (st' ++ xs)), .val (.tuple xs)]) (by simp [hx]; omega) ⟨m - 1, by omega, st' ++ xs, _, by rw [he', List.all_append, ← plainL_all xs]; rfl, by rw [wtL_app]; omega, by omega, rfl, rfl⟩
/-! ### odd names -/
theorem go_all : ∀ {ds : List D} {seen : List Str}, nmsGo seen ds = true → ∃ zs : List Str, ds = zs.map .str ∧ zs.Nodup ∧ (∀ z ∈ zs, isNm z.cps.toList = true) ∧ ∀ z ∈ zs, z ∉ seen
  | [], seen, _ => ⟨[], rfl, List.nodup_nil, by simp, by simp⟩
  | .str z :: r, seen, h => by
    have h : (isNm z.cps.toList && !decide (z ∈ seen) && nmsGo (z :: seen) r) = true := h
    rw [Bool.and_eq_true, Bool.and_eq_true] at h
    obtain ⟨zs, e, nd, hn, hs⟩ := go_all h.2
    have hz : z ∉ seen := by simpa using h.1.2
    refine ⟨z :: zs, by rw [e]; rfl, List.nodup_cons.mpr ⟨fun m => hs z m (List.mem_cons_self ..), nd⟩, ?_, ?_⟩
    · intro y hy
      rcases List.mem_cons.mp hy with rfl | hy
      · exact h.1.1
      · exact hn y hy
    · intro y hy
      rcases List.mem_cons.mp hy with rfl | hy
      · exact hz
      · exact fun m => hs y hy (List.mem_cons_of_mem _ m)
  | .none :: _, _, h => by cases h
  | .bool _ :: _, _, h => by cases h
  | .int _ :: _, _, h => by cases h
  | .list _ :: _, _, h => by cases h
  | .tuple _ :: _, _, h => by cases h
  | .dict _ :: _, _, h => by cases h
theorem go_true : ∀ {zs seen : List Str}, zs.Nodup → (∀ z ∈ zs, isNm z.cps.toList = true) → (∀ z ∈ zs, z ∉ seen) → nmsGo seen (zs.map .str) = true
  | [], _, _, _, _ => rfl
  | z :: zs, seen, nd, hn, hs => by
    show (isNm z.cps.toList && !decide (z ∈ seen) && nmsGo (z :: seen) (zs.map .str)) = true
    rw [hn z (List.mem_cons_self ..), decide_eq_false (hs z (List.mem_cons_self ..))]
    have := List.nodup_cons.mp nd
    rw [go_true this.2 (fun y hy => hn y (List.mem_cons_of_mem _ hy))]
    · rfl
    · intro y hy m
      rcases List.mem_cons.mp m with rfl | m
      · exact this.1 hy
      · exact hs y (List.mem_cons_of_mem _ hy) m
theorem not_ok_item {ds : List D} {d : D} (hm : d ∈ ds) (h : isName d = false) : namesOk ds = false := by
  cases q : namesOk ds with
  | false => rfl
  | true =>
    obtain ⟨zs, e, _, hn, _⟩ := go_all q
    rw [e] at hm
    obtain ⟨z, hz, rfl⟩ := List.mem_map.mp hm
    have := hn z hz
    rw [show isName (.str z) = isNm z.cps.toList from rfl, this] at h
    cases h
theorem not_ok_twice {ds : List D} {i j : Nat} (hi : i < ds.length) (hj : j < ds.length) (hij : i ≠ j) (e : ds[i] = ds[j]) : namesOk ds = false := by
  cases q : namesOk ds with
  | false => rfl
  | true =>
    obtain ⟨zs, e', nd, _, _⟩ := go_all q
    subst e'
    rw [List.length_map] at hi hj
    rw [List.getElem_map, List.getElem_map] at e
    have e2 : zs[i] = zs[j] := by injection e
    rw [List.nodup_iff_pairwise_ne, List.pairwise_iff_getElem] at nd
    rcases Nat.lt_or_gt_of_ne hij with c | c
    · exact absurd e2 (nd i j hi hj c)
    · exact absurd e2.symm (nd j i hj hi c)
end Law
set_option Elab.async false
set_option linter.all false
set_option maxRecDepth 100000
namespace Law
open Dn PySem
open L2 (Key)
def oddL : List D := [.str (Str.ofString ""), .str (Str.ofString "9a"), .str (Str.ofString "A"), .str (Str.ofString "abcdefghi"), .str (Str.ofString "a_b"), .str (Str.ofString "a b"), .str (Str.ofString "aB"), .str (Str.ofString " a"), .str (Str.ofString "a."), .int 1, .none, .bool true, .tuple [.str (Str.ofString "a")], .list [.str (Str.ofString "a")], .str (Str.ofString "0"), .str (Str.ofString "abcdefg-"), .str (Str.ofString "ab\n")]
theorem odd_bad : ∀ d ∈ oddL, isName d = false ∧ strOk d = true := by
  have : ∀ i < 17, isName (nth oddL i .none) = false ∧ strOk (nth oddL i .none) = true := by decide +kernel
  intro d hd
  obtain ⟨i, hi, rfl⟩ := List.getElem_of_mem hd
  have := this i hi
  rw [nth_lt hi] at this
  exact this
theorem odd_eq (ds : List D) (dr : Int) (h : 0 ≤ dr) : ∃ d, (isName d = false ∧ strOk d = true) ∧ d__law_odd_name [.val (.tuple ds), .val (.int dr)] = .ok (.val d) [.val (.tuple ds), .val (.int dr)] := by
  refine mkF_ex (n := 2) (m := 3) (b := b__law_odd_name) (ds := [.tuple ds, .int dr]) (f := .val) rfl ?_
  simp [b__law_odd_name]
  by_cases c : 1 < ds.length ∧ dr % 3 = 0
  · exact ExRet_ret (by simp [c.2, show (1 : Int) < ds.length by omega]; exact ⟨rfl, rfl⟩) _ ⟨rfl, rfl⟩ rfl (by simp)
  · have e := fIx_list (xs := oddL) (p := dr / 3 % 17) (by omega) (by show _ < (17 : Int); omega)
    have hm : nth oddL (dr / 3 % 17).toNat .none ∈ oddL := nth_mem (by show _ < 17; omega)
    generalize nth oddL (dr / 3 % 17).toNat .none = d at *
    refine ExRet_ret (ρ := [.val (.tuple ds), .val (.int dr), .own (.lst oddL)]) (r := .val d) ?_ d (odd_bad d hm) rfl (by simp)
    rw [if_neg (by omega)]
    show bindRS (optR (fIx (.list oddL) (.int (dr / 3 % 17))) _) _ = _
    rw [e]
    rfl
/-! ### texts of a draw -/
def lg (n : Int) : Str := Str.ofString "k" ++ L2.cutS (toString (1000000 + n) : Str) (some 1) none
theorem lg_cps {n : Int} (h : 0 ≤ n) : (lg n).cps.toList = 107 :: (digits (1000000 + n).toNat).drop 1 := by
  have e : (toString (1000000 + n) : Str).cps.toList = digits (1000000 + n).toNat := str_int (by omega)
  have l1 : (toString (1000000 + n) : Str).length = (digits (1000000 + n).toNat).length := by
    rw [← e]; rfl
  have l2 : 6 < (digits (1000000 + n).toNat).length := by
    have := (digits_le (n := (1000000 + n).toNat) (k := 6) (by decide))
    omega
  unfold lg
  show ((Str.ofString "k").cps ++ (L2.cutS _ _ _).cps).toList = _
  rw [Array.toList_append, show (Str.ofString "k").cps.toList = [107] by decide +kernel]
  unfold L2.cutS
  rw [l1, e]
  show 107 :: ((List.drop (HT.sIx _ 0 (some 1)) _).take _) = _
  rw [sIx_nn (by decide), sIx_none]
  rw [List.take_of_length_le]
  · congr 2
    show min 1 _ = 1
    omega
  · rw [List.length_drop]
    omega
end Law
set_option Elab.async false
set_option linter.all false
set_option maxRecDepth 100000
namespace Law
open Dn PySem
open L2 (Key)
theorem draw_at {ds : List Int} {n : Nat} (h : Draws ds n) (k : Int) (h0 : 0 ≤ k) (hk : k < n) : ∃ v : Int, (0 ≤ v ∧ v < 5040) ∧ fIx (.list (ds.map .int)) (.int k) = some (.val (.int v)) := by
  have hl := h.1
  exact ⟨_, h.2 _ (nth_mem (d := 0) (by omega)), fIx_ints (ns := ds) (p := k) h0 (by omega)⟩
theorem lg_ok {n : Int} (h : 0 ≤ n) (h2 : n < 5040) : ∃ t : List Nat, (lg n).cps.toList = 107 :: t ∧ t.length = 6 ∧ t.all okCh = true := by
  refine ⟨_, lg_cps h, ?_, ?_⟩
  · rw [List.length_drop]
    have a := digits_le (n := (1000000 + n).toNat) (k := 6) (by decide)
    have b := digits_le (n := (1000000 + n).toNat) (k := 7) (by decide)
    omega
  · rw [List.all_eq_true]
    intro c hc
    have := digits_mem (List.mem_of_mem_drop hc)
    unfold okCh isDig
    simp
    exact .inr this
theorem app_cps (v w : Str) : (v ++ w).cps.toList = v.cps.toList ++ w.cps.toList := by
  show (v.cps ++ w.cps).toList = _
  rw [Array.toList_append]
theorem isNm_t {t : List Nat} {c : Nat} (h : t.length = 6) (ha : t.all okCh = true) (hc : okCh c = true) : isNm (107 :: t ++ [c]) = true := by
  unfold isNm
  simp only [List.length_append, List.length_cons, List.length_nil, h, List.all_append, List.all_cons, ha, hc, List.all_nil, List.cons_append, nth_zero]
  decide
theorem long_eq {n : Int} (h : 0 ≤ n) (h2 : n < 5040) : ∃ s r : Str, fStr (.int (1000000 + n)) = some (.val (.str s)) ∧ fSl (.str s) (some 1) none = some (.val (.str r)) ∧
    fAdd (.str (Str.ofString "k")) (.str r) = some (.val (.str (lg n))) ∧ (lg n).length = 7 := by
  have l1 : (toString (1000000 + n) : Str).length ≤ 7 := by
    have e : (toString (1000000 + n) : Str).cps.toList = digits (1000000 + n).toNat := str_int (by omega)
    have : (toString (1000000 + n) : Str).length = (digits (1000000 + n).toNat).length := by rw [← e]; rfl
    rw [this]
    exact (Dn.digits_le (by decide)).mpr (by omega)
  have l2 := len_cut (v := toString (1000000 + n)) (lo := some 1) (hi := none)
  have l3 : (Str.ofString "k").length = 1 := by decide +kernel
  refine ⟨toString (1000000 + n), L2.cutS (toString (1000000 + n)) (some 1) none, fStr_int (log_small (by omega)), fSl_str (by omega), fAdd_str (by omega), ?_⟩
  obtain ⟨t, e, l, _⟩ := lg_ok h h2
  show (lg n).cps.toList.length = 7
  rw [e, List.length_cons, l]
theorem same_strs (v w : Str) : d_same [.val (.str v), .val (.str w)] = .ok (.val (.bool (decide (v = w)))) [.val (.str v), .val (.str w)] := by
  rw [same_eq _ _ (by simp [wt])]
  simp [sameD, same1]
theorem names2 (v w : Str) (lv : v.length ≤ 100) (lw : w.length ≤ 100) : d_is_names [.val (.tuple [.str v, .str w]), .val (.int 0), .val (.int 200)] = .ok (.val (.bool (isNm v.cps.toList && isNm w.cps.toList && !decide (w = v)))) [.val (.tuple [.str v, .str w]), .val (.int 0), .val (.int 200)] := by
  rw [is_names_tuple _ _ _ (by intro d hd; simp at hd; rcases hd with rfl | rfl <;> simp [strOk] <;> omega) (by simp)]
  have : namesOk [.str v, .str w] = (isNm v.cps.toList && isNm w.cps.toList && !decide (w = v)) := by
    show (isNm v.cps.toList && !decide (v ∈ ([] : List Str)) && (isNm w.cps.toList && !decide (w ∈ [v]) && true)) = _
    simp [Bool.and_assoc]
  rw [this]
  simp
theorem name_long {n : Int} (h : 0 ≤ n) (h2 : n < 5040) : ∃ a b ab : Str, fAdd (.str (lg n)) (.str (Str.ofString "a")) = some (.val (.str a)) ∧ fAdd (.str (lg n)) (.str (Str.ofString "b")) = some (.val (.str b)) ∧ fAdd (.str (lg n)) (.str (Str.ofString "ab")) = some (.val (.str ab)) ∧
    isNm a.cps.toList = true ∧ isNm b.cps.toList = true ∧ isNm ab.cps.toList = false ∧ a ≠ b ∧ a.length = 8 ∧ b.length = 8 ∧ ab.length = 9 := by
  obtain ⟨t, e, l, ha⟩ := lg_ok h h2
  obtain ⟨_, _, _, _, _, l7⟩ := long_eq h h2
  have a1 : (Str.ofString "a").cps.toList = [97] := by decide +kernel
  have b1 : (Str.ofString "b").cps.toList = [98] := by decide +kernel
  have c1 : (Str.ofString "ab").cps.toList = [97, 98] := by decide +kernel
  have a2 : (Str.ofString "a").length = 1 := by decide +kernel
  have b2 : (Str.ofString "b").length = 1 := by decide +kernel
  have c2 : (Str.ofString "ab").length = 2 := by decide +kernel
  refine ⟨_, _, _, fAdd_str (by omega), fAdd_str (by omega), fAdd_str (by omega), ?_, ?_, ?_, ?_, by rw [len_app]; omega, by rw [len_app]; omega, by rw [len_app]; omega⟩
  · rw [app_cps, e, a1]; exact isNm_t l ha (by decide)
  · rw [app_cps, e, b1]; exact isNm_t l ha (by decide)
  · rw [app_cps, e, c1]; simp [isNm, l]
  · intro q
    have := congrArg (fun z : Str => z.cps.toList) q
    simp only [app_cps, e, a1, b1] at this
    simp at this
end Law
set_option Elab.async false
set_option linter.all false
set_option maxRecDepth 100000
set_option maxHeartbeats 2000000
namespace Law
open Dn PySem
open L2 (Key)
theorem ask_names_eq (ds ts : List Int) (hd : Draws ds 7) (ht : Draws ts 50) : d__law_ask_names [.val (.list (ds.map .int)), .val (.list (ts.map .int))] = .ok (.val (.bool true)) [.val (.list (ds.map .int)), .val (.list (ts.map .int))] := by
  refine mkF_ret (ds := [.list (ds.map .int), .list (ts.map .int)]) rfl ?_
  obtain ⟨v0, b0, e0⟩ := draw_at hd 0 (by decide) (by decide)
  obtain ⟨v1, b1, e1⟩ := draw_at hd 1 (by decide) (by decide)
  obtain ⟨v2, b2, e2⟩ := draw_at hd 2 (by decide) (by decide)
  obtain ⟨v3, b3, e3⟩ := draw_at hd 3 (by decide) (by decide)
  obtain ⟨v4, b4, e4⟩ := draw_at hd 4 (by decide) (by decide)
  obtain ⟨v5, b5, e5⟩ := draw_at hd 5 (by decide) (by decide)
  obtain ⟨v6, b6, e6⟩ := draw_at hd 6 (by decide) (by decide)
  generalize ds.map PyData.int = dl at *
  have hnames := names_eq ts
  generalize hT : (PyData.list (ts.map PyData.int)) = tl at *
  unfold b__law_ask_names
  show Ret 2 _ (sSeq _ _ [.val (.list dl), .val tl, .emp, .emp, .emp, .emp, .emp, .emp, .emp, .emp])
  refine seq_nx (ρ1 := [.val (.list dl), .val tl, .val (.int (v0 % 201)), .emp, .emp, .emp, .emp, .emp, .emp, .emp]) (by simp [e0]) ?_
  refine seq_nx (ρ1 := [.val (.list dl), .val tl, .val (.int (if v1 % 3 = 0 then v0 % 9 else v0 % 201)), .emp, .emp, .emp, .emp, .emp, .emp, .emp]) (by by_cases c : v1 % 3 = 0 <;> simp [e0, e1, c]) ?_
  have hc : 0 ≤ (if v1 % 3 = 0 then v0 % 9 else v0 % 201) ∧ (if v1 % 3 = 0 then v0 % 9 else v0 % 201) ≤ 200 := by split <;> omega
  generalize (if v1 % 3 = 0 then v0 % 9 else v0 % 201) = c at *
  obtain ⟨zs, hzl, hzn, hzd, ez⟩ := hnames c ht hc.1 hc.2
  refine seq_nx (ρ1 := [.val (.list dl), .val tl, .val (.int c), .val (.tuple (zs.map .str)), .emp, .emp, .emp, .emp, .emp, .emp]) (by simp [ez]) ?_
  refine seq_nx (ρ1 := [.val (.list dl), .val tl, .val (.int c), .val (.tuple (zs.map .str)), .val (.int (v2 % 210)), .emp, .emp, .emp, .emp, .emp]) (by simp [e2]) ?_
  refine seq_nx (ρ1 := [.val (.list dl), .val tl, .val (.int c), .val (.tuple (zs.map .str)), .val (.int (v2 % 210)), .val (.int (v2 % 210 + v3 % 60)), .emp, .emp, .emp, .emp]) (by simp [e3]) ?_
  generalize v2 % 210 = lo
  generalize lo + v3 % 60 = hi
  have hstr : ∀ d ∈ zs.map PyData.str, strOk d = true := by
    intro d hd
    obtain ⟨z, hz, rfl⟩ := List.mem_map.mp hd
    have := (hzn z hz).2
    show decide (z.length ≤ 16777216) = true
    exact decide_eq_true (by omega)
  have hgood : namesOk (zs.map .str) = true := go_true hzd (fun z hz => (hzn z hz).1) (fun _ _ h => by cases h)
  have eh := held_eq (zs.map .str) lo hi true hstr (by rw [List.length_map]; omega) hgood
  refine seq_nx (ρ1 := [.val (.list dl), .val tl, .val (.int c), .val (.tuple (zs.map .str)), .val (.int lo), .val (.int hi), .emp, .emp, .emp, .emp]) (by simp [eh]) ?_
  rw [sSeq_ap, sFor_ap]
  simp only [eIt_ap, toV_ap, eSlV_ap, ePk_ap, gS_succ, gS_zero, sl1_ok, sl2_ok, sl3_ok, sl4_ok, osk_ok, toVk_ok, itk_ok, sFk_ok, oNone_ap, oSome_ap, eC_ap, toD_val, asI_int, optR_some, fSl_tuple, iterD_tuple, cut_hi (show (0 : Int) ≤ 30 by decide)]
  refine for_rule (fun r ρ => ∃ s6, (∀ d ∈ r, d ∈ zs.map PyData.str) ∧ isBor s6 = false ∧ ρ = [.val (.list dl), .val tl, .val (.int c), .val (.tuple (zs.map .str)), .val (.int lo), .val (.int hi), s6, .emp, .emp, .emp]) ⟨.emp, fun d h => List.mem_of_mem_take h, rfl, rfl⟩ ?_ ?_
  · rintro d r ρ ⟨s6, hm, n6, rfl⟩
    obtain ⟨z, hz, rfl⟩ := List.mem_map.mp (hm d (List.mem_cons_self ..))
    have q := is_name_eq (.str z) (hstr _ (List.mem_map.mpr ⟨z, hz, rfl⟩))
    rw [show isName (.str z) = isNm z.cps.toList from rfl, (hzn z hz).1] at q
    refine ⟨_, by simp; exact gNmS_nb n6, ?_⟩
    exact FL_of (by simp [q, law_is_eq]; rfl) ⟨_, fun d h => hm d (List.mem_cons_of_mem _ h), rfl, rfl⟩
  rintro ρ ⟨s6, _, n6, rfl⟩
  obtain ⟨y1, y2, f1, f2, f3, f4⟩ := long_eq b5.1 b5.2
  obtain ⟨a, b, ab, g1, g2, g3, h1, h2, h3, h4, la, lb, lab⟩ := name_long b5.1 b5.2
  refine seq_nx (ρ1 := [.val (.list dl), .val tl, .val (.int c), .val (.tuple (zs.map .str)), .val (.int lo), .val (.int hi), s6, .val (.str (lg v5)), .emp, .emp]) (by simp [e5, f1, f2, f3]) ?_
  have n2a := names2 a b (by omega) (by omega)
  have n2b := names2 a a (by omega) (by omega)
  rw [h1, h2, decide_eq_false (fun q => h4 q.symm)] at n2a
  rw [h1] at n2b
  refine seq_nx (ρ1 := [.val (.list dl), .val tl, .val (.int c), .val (.tuple (zs.map .str)), .val (.int lo), .val (.int hi), s6, .val (.str (lg v5)), .emp, .emp]) (by simp [g1, g2, n2a, n2b, law_is_eq]) ?_
  have n3 := is_name_eq (.str ab) (by show decide _ = true; exact decide_eq_true (by omega))
  rw [show isName (.str ab) = isNm ab.cps.toList from rfl, h3] at n3
  refine seq_nx (ρ1 := [.val (.list dl), .val tl, .val (.int c), .val (.tuple (zs.map .str)), .val (.int lo), .val (.int hi), s6, .val (.str (lg v5)), .emp, .emp]) (by simp [g1, g2, g3, same_strs, h4, n3, law_is_eq]) ?_
  by_cases hz0 : c = 0
  · simp [hz0]
  refine seq_nx (ρ1 := [.val (.list dl), .val tl, .val (.int c), .val (.tuple (zs.map .str)), .val (.int lo), .val (.int hi), s6, .val (.str (lg v5)), .emp, .emp]) (by simp [hz0]) ?_
  refine seq_nx (ρ1 := [.val (.list dl), .val tl, .val (.int c), .val (.tuple (zs.map .str)), .val (.int lo), .val (.int hi), s6, .val (.str (lg v5)), .val (.int (v4 % c)), .emp]) (by simp [e4, fMod_pos (p := v4) (q := c) (by omega)]) ?_
  have hs0 : 0 ≤ v4 % c := Int.emod_nonneg _ hz0
  have hs1 : v4 % c < c := Int.emod_lt_of_pos _ (by omega)
  generalize v4 % c = sp at *
  obtain ⟨od, ⟨ho1, ho2⟩, eo⟩ := odd_eq (zs.map .str) v5 b5.1
  refine seq_nx (ρ1 := [.val (.list dl), .val tl, .val (.int c), .val (.tuple (zs.map .str)), .val (.int lo), .val (.int hi), s6, .val (.str (lg v5)), .val (.int sp), .val od]) (by simp [e5, eo]) ?_
  have hdl : zs.length = c.toNat := hzl
  have hfin : ∀ it : D, strOk it = true → (namesOk ((zs.map PyData.str).take sp.toNat ++ [it] ++ (zs.map PyData.str).drop (sp.toNat + 1)) = false) → Ret 2 (.val (.bool true)) (sRet (eCall 4 d__law_held_names (aCons (toV (eOp2 fAdd (toV (eOp2 fAdd (toV (eSlV 3 (oNone) (oSome (toV (eVar 8))))) (toV (eOpN fTup (aCons (toV (eVar 9)) (aNil)))))) (toV (eSlV 3 (oSome (toV (eOp2 fAdd (toV (eVar 8)) (toV (eC (.int 1)))))) (oNone))))) (aCons (toV (eVar 4)) (aCons (toV (eVar 5)) (aCons (toV (eC (.bool false))) (aNil)))))) [.val (.list dl), .val tl, .val (.int c), .val (.tuple (zs.map .str)), .val (.int lo), .val (.int hi), s6, .val (.str (lg v5)), .val (.int sp), .val it]) := by
    intro it hit hno
    have ehf := held_eq ((zs.map PyData.str).take sp.toNat ++ [it] ++ (zs.map PyData.str).drop (sp.toNat + 1)) lo hi false (by
      intro d hd
      rw [List.mem_append, List.mem_append] at hd
      rcases hd with (hd | hd) | hd
      · exact hstr d (List.mem_of_mem_take hd)
      · rw [List.mem_singleton] at hd; rw [hd]; exact hit
      · exact hstr d (List.mem_of_mem_drop hd)) (by simp; omega) hno
    have ec1 : cutD (zs.map PyData.str) none (some sp) = (zs.map PyData.str).take sp.toNat := cut_hi hs0
    have ec2 : cutD (zs.map PyData.str) (some (sp + 1)) none = (zs.map PyData.str).drop (sp.toNat + 1) := by
      rw [cut_lo (by omega)]
      congr 1
      omega
    generalize hA : (zs.map PyData.str).take sp.toNat = A at *
    generalize hB : (zs.map PyData.str).drop (sp.toNat + 1) = B at *
    have lA : A.length ≤ 200 := by rw [← hA]; simp; omega
    have lB : B.length ≤ 200 := by rw [← hB]; simp; omega
    simp [ec1, ec2, fAdd_tuple (xs := A) (ys := [it]) (by simp; omega), fAdd_tuple (xs := A ++ [it]) (ys := B) (by simp; omega)]
    simp at ehf
    simp [ehf]
  by_cases hcase : isNon od = true ∧ v5 % 3 = 0 ∧ 1 < c
  · obtain ⟨k1, k2, k3⟩ := hcase
    have hu0 : 0 ≤ v6 % (c - 1) := Int.emod_nonneg _ (by omega)
    have hu1 : v6 % (c - 1) < c - 1 := Int.emod_lt_of_pos _ (by omega)
    have em := fMod_pos (p := v6) (q := c - 1) (by omega)
    generalize v6 % (c - 1) = u at *
    have em2 := fMod_pos (p := sp + 1 + u) (q := c) (by omega)
    have hj : 0 ≤ (sp + 1 + u) % c ∧ (sp + 1 + u) % c < c ∧ (sp + 1 + u) % c ≠ sp := by
      refine ⟨Int.emod_nonneg _ (by omega), Int.emod_lt_of_pos _ (by omega), ?_⟩
      by_cases hw : sp + 1 + u < c
      · rw [Int.emod_eq_of_lt (by omega) hw]; omega
      · have : (sp + 1 + u - c + c) % c = (sp + 1 + u - c) % c := Int.add_emod_right _ _
        rw [Int.sub_add_cancel, Int.emod_eq_of_lt (a := sp + 1 + u - c) (by omega) (by omega)] at this
        omega
    generalize (sp + 1 + u) % c = j at *
    have ei := fIx_tuple (xs := zs.map PyData.str) (p := j) (by omega) (by rw [List.length_map]; omega)
    have hjl : j.toNat < zs.length := by omega
    rw [nth_map (d := Str.ofString "") hjl, nth_lt hjl] at ei
    refine seq_nx (ρ1 := [.val (.list dl), .val tl, .val (.int c), .val (.tuple (zs.map .str)), .val (.int lo), .val (.int hi), s6, .val (.str (lg v5)), .val (.int sp), .val (.str zs[j.toNat])]) ?_ ?_
    · simp [k1, k2, k3, e5, e6, em, em2, ei]
    · refine hfin _ (hstr _ (List.mem_map.mpr ⟨_, List.getElem_mem hjl, rfl⟩)) ?_
      have hsl : sp.toNat < zs.length := by omega
      by_cases hjs : j.toNat < sp.toNat
      · refine not_ok_twice (i := j.toNat) (j := sp.toNat) (by simp; omega) (by simp; omega) (by omega) ?_
        rw [List.getElem_append_left (by simp; omega), List.getElem_append_left (by simp; omega), List.getElem_append_left (by simp; omega), List.getElem_append_right (by simp <;> omega)]
        simp
      · refine not_ok_twice (i := j.toNat) (j := sp.toNat) (by simp; omega) (by simp; omega) (by omega) ?_
        rw [List.getElem_append_right (by simp; omega), List.getElem_append_left (by simp; omega), List.getElem_append_right (by simp <;> omega)]
        simp
        congr 1
        omega
  · have nq := is_name_eq od ho2
    rw [ho1] at nq
    refine seq_nx (ρ1 := [.val (.list dl), .val tl, .val (.int c), .val (.tuple (zs.map .str)), .val (.int lo), .val (.int hi), s6, .val (.str (lg v5)), .val (.int sp), .val od]) ?_ ?_
    · refine if_no' (P := fun s => s = _) ?_ ?_
      · simp [e5]
        intro a b
        cases hb : decide (1 < c) with
        | false => simpa using hb
        | true => exact absurd ⟨a, b, of_decide_eq_true hb⟩ hcase
      · simp [nq, law_is_eq]
    · exact hfin od ho2 (not_ok_item (d := od) (by simp) ho1)
end Law
set_option Elab.async false
set_option linter.all false
set_option maxRecDepth 100000
set_option maxHeartbeats 2000000
namespace Law
open Dn PySem
open L2 (Key)
theorem is_whole_eq (d : D) : d_is_whole [.val d] = .ok (.val (.bool (isInt d && !isBool d))) [.val d] := by
  refine mkF_ret (ds := [d]) rfl ?_
  simp [b_is_whole]
def isWh (d : D) : Bool := isInt d && !isBool d
theorem rising_list (ds : List D) : d_is_rising [.val (.list ds)] = .ok (.val (.bool false)) [.val (.list ds)] := by
  refine mkF_ret (ds := [.list ds]) rfl ?_
  simp [b_is_rising, isTup]
theorem rising_odd (ds : List D) (h : ds.all isWh = false) : d_is_rising [.val (.tuple ds)] = .ok (.val (.bool false)) [.val (.tuple ds)] := by
  refine mkF_ret (ds := [.tuple ds]) rfl ?_
  simp [b_is_rising, isTup]
  refine for_rule (P := Ret 1 (.val (.bool false))) (fun r ρ => ∃ s1, r.all isWh = false ∧ isBor s1 = false ∧ ρ = [.val (.tuple ds), s1, .emp]) ⟨.emp, h, rfl, rfl⟩ ?_ ?_
  · rintro d r ρ ⟨s1, hr, n1, rfl⟩
    refine ⟨_, by simp; exact gNmS_nb n1, ?_⟩
    have e := is_whole_eq d
    rw [show (isInt d && !isBool d) = isWh d from rfl] at e
    cases q : isWh d with
    | false => rw [q] at e; simp [e]
    | true =>
      rw [q] at e
      have hr' : r.all isWh = false := by simpa [q] using hr
      exact FL_of (by simp [e]; rfl) ⟨_, hr', rfl, rfl⟩
  · rintro ρ ⟨s1, hr, n1, rfl⟩
    cases hr
theorem all_ints (ns : List Int) : (ns.map PyData.int).all isWh = true := by
  rw [List.all_eq_true]
  intro d hd
  obtain ⟨i, _, rfl⟩ := List.mem_map.mp hd
  rfl
/-- is the first loop past: the second one -/
theorem rising_loop (b : Bool) (ns : List Int) (hl : ns.length ≤ 1000000)
    (h : ∀ ρ s1 s2, isBor s1 = false → isBor s2 = false → ρ = [.val (.tuple (ns.map .int)), s1, s2] → Ret 1 (.val (.bool b)) (bindS (forL (gNm 2) (sIf (tBoolD (eOp2 fGe (toV (eIxV 0 (toV (eOp2 fSub (toV (eVar 2)) (toV (eC (.int 1))))))) (toV (eIxV 0 (toV (eVar 2)))))) (sRet (eC (.bool false))) (sNil)) (rgD 1 (ns.length - 1)) ρ) (sRet (eC (.bool true))))) :
    d_is_rising [.val (.tuple (ns.map .int))] = .ok (.val (.bool b)) [.val (.tuple (ns.map .int))] := by
  refine mkF_ret (ds := [.tuple (ns.map .int)]) rfl ?_
  have e2 := rg2_ok (a := 1) (b := (ns.length : Int)) (by omega) (by omega) (by omega) (by omega)
  simp [b_is_rising, isTup]
  refine for_rule (P := Ret 1 (.val (.bool b))) (fun r ρ => ∃ s1, r.all isWh = true ∧ isBor s1 = false ∧ ρ = [.val (.tuple (ns.map .int)), s1, .emp]) ⟨.emp, all_ints ns, rfl, rfl⟩ ?_ ?_
  · rintro d r ρ ⟨s1, hr, n1, rfl⟩
    refine ⟨_, by simp; exact gNmS_nb n1, ?_⟩
    have e := is_whole_eq d
    rw [List.all_cons, Bool.and_eq_true] at hr
    rw [show (isInt d && !isBool d) = isWh d from rfl, hr.1] at e
    exact FL_of (by simp [e]; rfl) ⟨_, hr.2, rfl, rfl⟩
  · rintro ρ ⟨s1, hr, n1, rfl⟩
    simp [e2]
    exact h _ s1 .emp n1 rfl rfl
theorem rising_yes (ns : List Int) (hl : ns.length ≤ 1000000) (h : ∀ i, i + 1 < ns.length → nth ns i 0 < nth ns (i + 1) 0) : d_is_rising [.val (.tuple (ns.map .int))] = .ok (.val (.bool true)) [.val (.tuple (ns.map .int))] := by
  refine rising_loop true ns hl ?_
  rintro ρ s1 s2 n1 n2 rfl
  refine for_rg (fun i ρ => ∃ s2, isBor s2 = false ∧ ρ = [.val (.tuple (ns.map .int)), s1, s2]) ⟨s2, n2, rfl⟩ ?_ ?_
  · rintro i hi ρ ⟨s2, n2, rfl⟩
    refine ⟨_, by simp; exact gNmS_nb n2, ?_⟩
    have e1 := fIx_tints (ns := ns) (p := 1 + (i : Int) - 1) (by omega) (by omega)
    have e2 := fIx_tints (ns := ns) (p := 1 + (i : Int)) (by omega) (by omega)
    rw [show (1 + (i : Int) - 1).toNat = i by omega] at e1
    rw [show (1 + (i : Int)).toNat = i + 1 by omega] at e2
    have q := h i (by omega)
    refine FL_of (by simp [e1, e2]; rw [if_neg (by omega)]) ⟨_, rfl, rfl⟩
  · rintro ρ ⟨s2, n2, rfl⟩
    simp
theorem rising_no (ns : List Int) (hl : ns.length ≤ 1000000) (j : Nat) (hj : j + 1 < ns.length) (h : nth ns (j + 1) 0 ≤ nth ns j 0) : d_is_rising [.val (.tuple (ns.map .int))] = .ok (.val (.bool false)) [.val (.tuple (ns.map .int))] := by
  refine rising_loop false ns hl ?_
  rintro ρ s1 s2 n1 n2 rfl
  refine for_rg (fun i ρ => i ≤ j ∧ ∃ s2, isBor s2 = false ∧ ρ = [.val (.tuple (ns.map .int)), s1, s2]) ⟨Nat.zero_le _, s2, n2, rfl⟩ ?_ ?_
  · rintro i hi ρ ⟨hij, s2, n2, rfl⟩
    refine ⟨_, by simp; exact gNmS_nb n2, ?_⟩
    have e1 := fIx_tints (ns := ns) (p := 1 + (i : Int) - 1) (by omega) (by omega)
    have e2 := fIx_tints (ns := ns) (p := 1 + (i : Int)) (by omega) (by omega)
    rw [show (1 + (i : Int) - 1).toNat = i by omega] at e1
    rw [show (1 + (i : Int)).toNat = i + 1 by omega] at e2
    by_cases q : nth ns (i + 1) 0 ≤ nth ns i 0
    · simp [e1, e2, q]
    · have : i ≠ j := fun z => q (by rw [z]; exact h)
      refine FL_of (by simp [e1, e2]; rw [if_neg (by omega)]) ⟨by omega, _, rfl, rfl⟩
  · rintro ρ ⟨hij, s2, n2, rfl⟩
    omega
theorem whole_in_eq (d : D) (a b : Int) : d_is_whole_in [.val d, .val (.int a), .val (.int b)] = .ok (.val (.bool (match d with | .int i => decide (a ≤ i) && decide (i ≤ b) | _ => false))) [.val d, .val (.int a), .val (.int b)] := by
  refine mkF_ret (ds := [d, .int a, .int b]) rfl ?_
  have e := is_whole_eq d
  cases d <;> simp [isInt, isBool] at e <;> simp [b_is_whole_in, e]
end Law
set_option Elab.async false
set_option linter.all false
set_option maxRecDepth 100000
set_option maxHeartbeats 2000000
namespace Law
open Dn PySem
open L2 (Key)
def big : Int := 10 ^ 35
/-- the numbers that are found: rising, small -/
def Ris (xs : List Int) (v : Int) : Prop := (∀ i, i + 1 < xs.length → nth xs i 0 < nth xs (i + 1) 0) ∧ (∀ i, i < xs.length → nth xs i 0 ≤ v) ∧ (∀ i, i < xs.length → -(10 ^ 24) ≤ nth xs i 0 ∧ nth xs i 0 ≤ (i + 1) * 10 ^ 31 + 10 ^ 24)
theorem nth_app_l {xs ys : List Int} {i : Nat} (h : i < xs.length) : nth (xs ++ ys) i 0 = nth xs i 0 := by
  rw [nth_lt (by rw [List.length_append]; omega), nth_lt h, List.getElem_append_left h]
theorem nth_app_r {xs : List Int} {x : Int} : nth (xs ++ [x]) xs.length 0 = x := by
  rw [nth_lt (by simp), List.getElem_append_right (by omega)]
  simp
theorem nth_app {α : Type} {d : α} (xs ys : List α) (i : Nat) : nth (xs ++ ys) i d = if i < xs.length then nth xs i d else nth ys (i - xs.length) d := by
  unfold nth
  rw [List.getD_eq_getElem?_getD, List.getElem?_append]
  split <;> rw [List.getD_eq_getElem?_getD]
theorem nth_take {α : Type} {d : α} (xs : List α) (n i : Nat) (h : i < n) : nth (xs.take n) i d = nth xs i d := by
  unfold nth
  rw [List.getD_eq_getElem?_getD, List.getElem?_take, if_pos h, List.getD_eq_getElem?_getD]
theorem Ris.snoc {xs : List Int} {v w : Int} (h : Ris xs v) (hw : v < w) (h1 : -(10 ^ 24) ≤ w) (h2 : w ≤ ((xs.length : Int) + 1) * 10 ^ 31 + 10 ^ 24) : Ris (xs ++ [w]) w := by
  refine ⟨fun i hi => ?_, fun i hi => ?_, fun i hi => ?_⟩
  · rw [List.length_append, List.length_singleton] at hi
    by_cases c : i + 1 < xs.length
    · rw [nth_app_l (by omega), nth_app_l c]; exact h.1 i c
    · have e : i + 1 = xs.length := by omega
      rw [nth_app_l (by omega), e, nth_app_r]
      have := h.2.1 i (by omega)
      omega
  · rw [List.length_append, List.length_singleton] at hi
    by_cases c : i < xs.length
    · rw [nth_app_l c]; have := h.2.1 i c; omega
    · have e : i = xs.length := by omega
      rw [e, nth_app_r]; exact Int.le_refl _
  · rw [List.length_append, List.length_singleton] at hi
    by_cases c : i < xs.length
    · rw [nth_app_l c]; exact h.2.2 i c
    · have e : i = xs.length := by omega
      rw [e, nth_app_r]; exact ⟨h1, h2⟩
theorem Ris.mono {xs : List Int} {v : Int} (h : Ris xs v) : ∀ {i j : Nat}, i ≤ j → j < xs.length → nth xs i 0 ≤ nth xs j 0 := by
  intro i j hij hj
  induction j with
  | zero => rw [show i = 0 by omega]; exact Int.le_refl _
  | succ j ih =>
    by_cases c : i = j + 1
    · rw [c]; exact Int.le_refl _
    · have a := ih (by omega) (by omega)
      have b := h.1 j hj
      omega
theorem Ris.all {xs : List Int} {v : Int} (h : Ris xs v) (hl : xs.length ≤ 200) : ∀ i, i < xs.length → -(10 ^ 24) ≤ nth xs i 0 ∧ nth xs i 0 ≤ 10 ^ 35 := by
  intro i hi
  have := h.2.2 i hi
  omega
theorem ask_rising_eq (ds ts : List Int) (hd : Draws ds 3) (ht : Draws ts 50) : d__law_ask_rising [.val (.list (ds.map .int)), .val (.list (ts.map .int))] = .ok (.val (.bool true)) [.val (.list (ds.map .int)), .val (.list (ts.map .int))] := by
  refine mkF_ret (ds := [.list (ds.map .int), .list (ts.map .int)]) rfl ?_
  obtain ⟨v0, b0, e0⟩ := draw_at hd 0 (by decide) (by decide)
  obtain ⟨v1, b1, e1⟩ := draw_at hd 1 (by decide) (by decide)
  obtain ⟨v2, b2, e2⟩ := draw_at hd 2 (by decide) (by decide)
  generalize ds.map PyData.int = dl at *
  have dT := fun k h0 hk => draw_at ht k h0 hk
  have lT : (ts.map PyData.int).length = 50 := by rw [List.length_map]; exact ht.1
  generalize ts.map PyData.int = tl at *
  unfold b__law_ask_rising
  show Ret 2 _ (sSeq _ _ [.val (.list dl), .val (.list tl), .emp, .emp, .emp, .emp, .emp, .emp, .emp, .emp, .emp, .emp])
  refine seq_nx (ρ1 := [.val (.list dl), .val (.list tl), .val (.int (v0 % 201)), .emp, .emp, .emp, .emp, .emp, .emp, .emp, .emp, .emp]) (by simp [e0]) ?_
  have hm : ∃ m : Int, (m = 1 ∨ m = 10 ^ 20) ∧ fIx (.list [.int 1, .int 100000000000000000000]) (.int (v1 % 2)) = some (.val (.int m)) := by
    have : v1 % 2 = 0 ∨ v1 % 2 = 1 := by omega
    rcases this with q | q
    · exact ⟨1, .inl rfl, by rw [q]; rfl⟩
    · exact ⟨10 ^ 20, .inr rfl, by rw [q]; rfl⟩
  obtain ⟨m, hm, em⟩ := hm
  refine seq_nx (ρ1 := [.val (.list dl), .val (.list tl), .val (.int (v0 % 201)), .val (.int ((v1 - 2520) * m)), .emp, .emp, .emp, .emp, .emp, .emp, .emp, .emp]) (by simp [e1, em, fMul_l (p := v1 - 2520) (q := m) (by omega) (by omega)]) ?_
  have hv : -(10 ^ 24) ≤ (v1 - 2520) * m ∧ (v1 - 2520) * m ≤ 10 ^ 24 := by rcases hm with rfl | rfl <;> omega
  generalize (v1 - 2520) * m = v at *
  have hc : 0 ≤ v0 % 201 ∧ v0 % 201 ≤ 200 := by omega
  generalize v0 % 201 = c at *
  refine seq_nx (ρ1 := [.val (.list dl), .val (.list tl), .val (.int c), .val (.int v), .own (.lst []), .emp, .emp, .emp, .emp, .emp, .emp, .emp]) (by simp) ?_
  have er := rg1_ok (n := c) (by omega) (by omega)
  simp only [sSeq_ap, sFor_ap, eRg1_ap, toV_ap, eVar_ap, gS_succ, gS_zero, toVk_ok, rg1k_ok, sFk_ok, toD_val, er, optR_some]
  refine for_rg (fun i ρ => ∃ xs v s5 s10, xs.length = i ∧ Ris xs v ∧ -(10 ^ 24) ≤ v ∧ v ≤ (i : Int) * 10 ^ 31 + 10 ^ 24 ∧ isBor s5 = false ∧ isBor s10 = false ∧ ρ = [.val (.list dl), .val (.list tl), .val (.int c), .val (.int v), .own (.lst (xs.map .int)), s5, .emp, .emp, .emp, .emp, s10, .emp]) ?_ ?_ ?_
  · exact ⟨[], v, .emp, .emp, rfl, ⟨fun i hi => by simp at hi, fun i hi => by simp at hi, fun i hi => by simp at hi⟩, hv.1, by omega, rfl, rfl, rfl⟩
  · rintro i hi ρ ⟨xs, v, s5, s10, hx, hR, hv1, hv2, n5, n10, rfl⟩
    refine ⟨_, by simp [gNmS_nb, n5]; rfl, ?_⟩
    obtain ⟨w, bw, ew⟩ := dT ((i : Int) % 50) (by omega) (by omega)
    refine seq_nx (ρ1 := [.val (.list dl), .val (.list tl), .val (.int c), .val (.int v), .own (.lst (xs.map .int)), .val (.int (i : Int)), .emp, .emp, .emp, .emp, .val (.int w), .emp]) (by simp [lT, ew, putS_nb, n10]) ?_
    have hm : ∃ m : Int, (m = 0 ∨ m = 1 ∨ m = 10 ^ 26) ∧ fIx (.list [.int 0, .int 0, .int 1, .int 100000000000000000000000000]) (.int (w % 4)) = some (.val (.int m)) := by
      have : w % 4 = 0 ∨ w % 4 = 1 ∨ w % 4 = 2 ∨ w % 4 = 3 := by omega
      rcases this with q | q | q | q
      · exact ⟨0, .inl rfl, by rw [q]; rfl⟩
      · exact ⟨0, .inl rfl, by rw [q]; rfl⟩
      · exact ⟨1, .inr (.inl rfl), by rw [q]; rfl⟩
      · exact ⟨10 ^ 26, .inr (.inr rfl), by rw [q]; rfl⟩
    obtain ⟨m, hm, em⟩ := hm
    refine seq_nx (ρ1 := [.val (.list dl), .val (.list tl), .val (.int c), .val (.int (v + 1 + w / 4 * m)), .own (.lst (xs.map .int)), .val (.int (i : Int)), .emp, .emp, .emp, .emp, .val (.int w), .emp]) (by simp [em, fMul_l (p := w / 4) (q := m) (by omega) (by omega)]) ?_
    have hw : 0 ≤ w / 4 * m ∧ w / 4 * m ≤ 1260 * 10 ^ 26 := by rcases hm with rfl | rfl | rfl <;> omega
    generalize w / 4 * m = u at *
    refine FL_of (ρ := [.val (.list dl), .val (.list tl), .val (.int c), .val (.int (v + 1 + u)), .own (.lst ((xs ++ [v + 1 + u]).map .int)), .val (.int (i : Int)), .emp, .emp, .emp, .emp, .val (.int w), .emp]) (by simp; omega) ⟨xs ++ [v + 1 + u], v + 1 + u, _, _, by simp [hx], hR.snoc (by omega) (by omega) (by rw [hx]; omega), by omega, by omega, rfl, rfl, rfl⟩
  rintro ρ ⟨xs, v, s5, s10, hx, hR, hv1, hv2, n5, n10, rfl⟩
  have hxl : xs.length ≤ 200 := by omega
  have hB := hR.all hxl
  have hbad : ∀ (sp : Nat) (it : D), 1 ≤ sp → sp < xs.length → (isWh it = false ∨ ∃ k, it = .int k ∧ k ≤ nth xs (sp - 1) 0) → d_is_rising [.val (.tuple ((xs.map PyData.int).take sp ++ ([it] ++ (xs.map PyData.int).drop (sp + 1))))] = .ok (.val (.bool false)) [.val (.tuple ((xs.map PyData.int).take sp ++ ([it] ++ (xs.map PyData.int).drop (sp + 1))))] := by
    intro sp it h1 h2 h3
    rcases h3 with h3 | ⟨k, rfl, hk⟩
    · exact rising_odd _ (by simp [h3])
    · have q := rising_no (xs.take sp ++ ([k] ++ xs.drop (sp + 1))) (by simp; omega) (sp - 1) (by simp; omega) ?_
      · simpa using q
      · have l1 : (xs.take sp).length = sp := by rw [List.length_take]; omega
        have z1 : nth (xs.take sp ++ ([k] ++ xs.drop (sp + 1))) sp 0 = k := by rw [nth_app, l1, if_neg (by omega), Nat.sub_self]; rfl
        have z2 : nth (xs.take sp ++ ([k] ++ xs.drop (sp + 1))) (sp - 1) 0 = nth xs (sp - 1) 0 := by rw [nth_app, l1, if_pos (by omega), nth_take _ _ _ (by omega)]
        rw [show sp - 1 + 1 = sp by omega, z1, z2]
        exact hk
  have y1 := rising_yes xs (by omega) hR.1
  have y2 := rising_list (xs.map .int)
  refine seq_nx (ρ1 := [.val (.list dl), .val (.list tl), .val (.int c), .val (.int v), .own (.lst (xs.map .int)), s5, .val (.tuple (xs.map .int)), .emp, .emp, .emp, s10, .emp]) (by simp) ?_
  refine seq_nx (ρ1 := [.val (.list dl), .val (.list tl), .val (.int c), .val (.int v), .val (.list (xs.map .int)), s5, .val (.tuple (xs.map .int)), .emp, .emp, .emp, s10, .emp]) (by simp [y1, y2, law_is_eq]) ?_
  by_cases hc2 : c < 2
  · simp [hc2]
  refine seq_nx (ρ1 := [.val (.list dl), .val (.list tl), .val (.int c), .val (.int v), .val (.list (xs.map .int)), s5, .val (.tuple (xs.map .int)), .emp, .emp, .emp, s10, .emp]) (by simp [hc2]) ?_
  have em := fMod_pos (p := v2) (q := c - 1) (by omega)
  have hu0 : 0 ≤ v2 % (c - 1) := Int.emod_nonneg _ (by omega)
  have hu1 : v2 % (c - 1) < c - 1 := Int.emod_lt_of_pos _ (by omega)
  generalize v2 % (c - 1) = u at *
  refine seq_nx (ρ1 := [.val (.list dl), .val (.list tl), .val (.int c), .val (.int v), .val (.list (xs.map .int)), s5, .val (.tuple (xs.map .int)), .val (.int (1 + u)), .emp, .emp, s10, .emp]) (by simp [e2, em]) ?_
  have a1 := fIx_tints (ns := xs) (p := 1 + u - 1) (by omega) (by omega)
  have a2 := fIx_tints (ns := xs) (p := 1 + u) (by omega) (by omega)
  have k2 := hB (1 + u).toNat (by omega)
  have hbad' := fun it => hbad (1 + u).toNat it (by omega) (by omega)
  rw [show (1 + u - 1).toNat = (1 + u).toNat - 1 by omega] at a1
  have a3 := fStr_int (i := nth xs (1 + u).toNat 0) (log_small (by omega))
  generalize nth xs ((1 + u).toNat - 1) 0 = p1 at *
  generalize nth xs (1 + u).toNat 0 = p2 at *
  generalize (toString p2 : Str) = ps at *
  have c1 : cutD (xs.map PyData.int) none (some (1 + u)) = (xs.map PyData.int).take (1 + u).toNat := cut_hi (by omega)
  have c2 : cutD (xs.map PyData.int) (some (1 + u + 1)) none = (xs.map PyData.int).drop ((1 + u).toNat + 1) := by
    rw [cut_lo (by omega)]
    congr 1
    omega
  rw [sSeq_ap, sFor_ap]
  simp [a1, a2, a3]
  refine for_rule (fun r ρ => ∃ s8, (∀ d ∈ r, isWh d = false ∨ ∃ k, d = .int k ∧ k ≤ p1) ∧ isBor s8 = false ∧ ρ = [.val (.list dl), .val (.list tl), .val (.int c), .val (.int v), .val (.list (xs.map .int)), s5, .val (.tuple (xs.map .int)), .val (.int (1 + u)), s8, .emp, s10, .emp]) ⟨.emp, ?_, rfl, rfl⟩ ?_ ?_
  · intro d hd
    simp at hd
    rcases hd with rfl | rfl | rfl | rfl | rfl | rfl | rfl
    · exact .inr ⟨_, rfl, Int.le_refl _⟩
    · exact .inr ⟨_, rfl, by omega⟩
    all_goals exact .inl rfl
  · rintro d r ρ ⟨s8, hr, n8, rfl⟩
    refine ⟨_, by simp; exact gNmS_nb n8, ?_⟩
    have q := hbad' d (hr d (List.mem_cons_self ..))
    generalize hA : (xs.map PyData.int).take (1 + u).toNat = A at *
    generalize hC : (xs.map PyData.int).drop ((1 + u).toNat + 1) = C at *
    have lA : A.length ≤ 200 := by rw [← hA]; simp; omega
    have lC : C.length ≤ 200 := by rw [← hC]; simp; omega
    have f1 := fAdd_tuple (xs := A) (ys := [d]) (by simp; omega)
    have f2 := fAdd_tuple (xs := A ++ [d]) (ys := C) (by simp; omega)
    rw [← List.append_assoc] at q
    generalize A ++ [d] ++ C = Z at *
    refine FL_of (by simp [c1, c2, f1]; simp [f2, q, law_is_eq]; rfl) ⟨_, fun d hd => hr d (List.mem_cons_of_mem _ hd), rfl, rfl⟩
  rintro ρ ⟨s8, _, n8, rfl⟩
  have g0 := fIx_tints (ns := xs) (p := 0) (by omega) (by omega)
  have g1 : fIx (.tuple (xs.map .int)) (.int (-1)) = some (.val (.int (nth xs (xs.length - 1) 0))) := by
    have hne : xs ≠ [] := fun z => by rw [z] at hx; simp at hx; omega
    exact fIx_tlast hne
  have hr0 := hB 0 (by omega)
  have g0 : fIx (.tuple (xs.map .int)) (.int 0) = some (.val (.int (nth xs 0 0))) := g0
  have g3 := fStr_int (i := nth xs 0 0) (log_small (by omega))
  generalize (toString (nth xs 0 0) : Str) = ps at *
  generalize nth xs 0 0 = lo at *
  generalize nth xs (xs.length - 1) 0 = hi at *
  rw [sSeq_ap, sFor_ap]
  simp [g0, g1]
  refine for_rule (fun r ρ => ∃ s8 s11, (∀ d ∈ r, ∃ k, d = .int k) ∧ isBor s8 = false ∧ isBor s11 = false ∧ ρ = [.val (.list dl), .val (.list tl), .val (.int c), .val (.int v), .val (.list (xs.map .int)), s5, .val (.tuple (xs.map .int)), .val (.int (1 + u)), s8, .emp, s10, s11]) ⟨s8, .emp, ?_, n8, rfl, rfl⟩ ?_ ?_
  · intro d hd
    simp at hd
    rcases hd with rfl | rfl | rfl | rfl <;> exact ⟨_, rfl⟩
  · rintro d r ρ ⟨s8, s11, hr, n8, n11, rfl⟩
    refine ⟨_, by simp; exact gNmS_nb n8, ?_⟩
    obtain ⟨k, rfl⟩ := hr d (List.mem_cons_self ..)
    have w1 := is_whole_eq (.int k)
    have w2 := whole_in_eq (.int k) lo hi
    simp [isInt, isBool] at w1 w2
    refine FL_of (by simp [g0, g1, putS_nb, n11, w1, w2, law_is_eq]; exact ⟨rfl, rfl⟩) ⟨_, _, fun d hd => hr d (List.mem_cons_of_mem _ hd), rfl, rfl, rfl⟩
  rintro ρ ⟨s8, s11, _, n8, n11, rfl⟩
  refine seq_nx (ρ1 := [.val (.list dl), .val (.list tl), .val (.int c), .val (.int v), .val (.list (xs.map .int)), s5, .val (.tuple (xs.map .int)), .val (.int (1 + u)), s8, .own (.lst [.tuple [.int (lo - 1), .bool false], .tuple [.int (hi + 1), .bool false], .tuple [.bool true, .bool false], .tuple [.str ps, .bool false], .tuple [.none, .bool false]]), s10, s11]) (by simp [g0, g1, g3]) ?_
  rw [sSeq_ap, sFor_ap]
  simp
  refine for_rule (fun r ρ => ∃ s8 s11, (∀ d ∈ r, ∃ k, d = .tuple [k, .bool false] ∧ d_is_whole_in [.val k, .val (.int lo), .val (.int hi)] = .ok (.val (.bool false)) [.val k, .val (.int lo), .val (.int hi)]) ∧ isBor s8 = false ∧ isBor s11 = false ∧ ρ = [.val (.list dl), .val (.list tl), .val (.int c), .val (.int v), .val (.list (xs.map .int)), s5, .val (.tuple (xs.map .int)), .val (.int (1 + u)), s8, .val (.list [.tuple [.int (lo - 1), .bool false], .tuple [.int (hi + 1), .bool false], .tuple [.bool true, .bool false], .tuple [.str ps, .bool false], .tuple [.none, .bool false]]), s10, s11]) ⟨s8, s11, ?_, n8, n11, rfl⟩ ?_ ?_
  · intro d hd
    simp at hd
    rcases hd with rfl | rfl | rfl | rfl | rfl <;> refine ⟨_, rfl, ?_⟩ <;> rw [whole_in_eq] <;> simp <;> omega
  · rintro d r ρ ⟨s8, s11, hr, n8, n11, rfl⟩
    obtain ⟨k, rfl, ek⟩ := hr d (List.mem_cons_self ..)
    refine ⟨_, by simp [gNmS_nb, n8, n11]; rfl, ?_⟩
    refine FL_of (by simp [g0, g1, ek, law_is_eq]; exact ⟨rfl, rfl⟩) ⟨_, _, fun d hd => hr d (List.mem_cons_of_mem _ hd), rfl, rfl, rfl⟩
  rintro ρ ⟨s8, s11, _, n8, n11, rfl⟩
  simp
end Law
set_option Elab.async false
set_option linter.all false
set_option maxRecDepth 100000
set_option maxHeartbeats 2000000
namespace Law
open Dn PySem
open L2 (Key)
def leafL : List D := [.int 0, .int 1, .int (-1), .bool true, .bool false, .none, .str (Str.ofString ""), .str (Str.ofString "a"), .str (Str.ofString "yes"), .int 1000000000000000000000000000000, .tuple [], .tuple [.int 1, .str (Str.ofString "b")]]
theorem leaf_eq (dr : Int) : d__law_leaf [.val (.int dr)] = .ok (.val (nth leafL (dr % 12).toNat .none)) [.val (.int dr)] := by
  refine mkF_ret (ds := [.int dr]) rfl ?_
  have e := fIx_list (xs := leafL) (p := dr % 12) (by omega) (by show _ < (12 : Int); omega)
  unfold leafL at *
  simp [b__law_leaf]
  rw [e]
  simp
def nice (d : D) : Bool := plainD d && sameD d d && decide (wt d ≤ 3)
theorem leaf_nice (dr : Int) : nice (nth leafL (dr % 12).toNat .none) = true := by
  have : ∀ i < 12, nice (nth leafL i .none) = true := by decide +kernel
  exact this _ (by omega)
/-- one level more: the value, what stands beside it, the form -/
def step (v o : D) (k : Nat) : D := match k with
  | 0 => .tuple [v, o]
  | 1 => .tuple [o, v]
  | _ => .tuple [o, v, o]
/-- the levels, from the inside: what stands beside, the form; none stands for the leaf -/
def grow (leaf : D) : D → List (Option D × Nat) → D
  | v, [] => v
  | v, (o, k) :: r => grow leaf (step v (o.getD leaf) k) r
theorem grow_app (leaf : D) : ∀ (v : D) (l : List (Option D × Nat)) (p : Option D × Nat), grow leaf v (l ++ [p]) = step (grow leaf v l) (p.1.getD leaf) p.2
  | v, [], p => rfl
  | v, q :: l, p => grow_app leaf _ l p
def lvAt (ts : List Int) (spot : Int) (i : Nat) : Option D × Nat := (if (1 + i : Int) = spot then none else some (nth leafL (nth ts ((1 + i : Int) % 50).toNat 0 % 12).toNat .none), (nth ts ((1 + i : Int) % 50).toNat 0 / 12 % 3).toNat)
def lvs (ts : List Int) (spot : Int) (n : Nat) : List (Option D × Nat) := (List.range n).map (lvAt ts spot)
def bas (ts : List Int) (spot : Int) : Option D := if spot = 0 then none else some (nth leafL (nth ts 0 0 % 12).toNat .none)
theorem lvs_succ (ts : List Int) (spot : Int) (n : Nat) : lvs ts spot (n + 1) = lvs ts spot n ++ [lvAt ts spot n] := by
  unfold lvs
  rw [List.range_succ, List.map_append]
  rfl
theorem tree_eq (depth spot : Int) (ts : List Int) (ht : Draws ts 50) (h0 : 0 ≤ depth) (h1 : depth ≤ 150) (leaf : D) :
    d__law_tree [.val (.int depth), .val (.list (ts.map .int)), .val (.int spot), .val leaf] = .ok (.val (grow leaf ((bas ts spot).getD leaf) (lvs ts spot depth.toNat))) [.val (.int depth), .val (.list (ts.map .int)), .val (.int spot), .val leaf] := by
  refine mkF_ret (ds := [.int depth, .list (ts.map .int), .int spot, leaf]) rfl ?_
  have lT : ts.length = 50 := ht.1
  have eT := fun (k : Int) (a : 0 ≤ k) (b : k < 50) => fIx_ints (ns := ts) (p := k) a (by omega)
  have lT' : (ts.map PyData.int).length = 50 := by rw [List.length_map]; exact lT
  generalize ts.map PyData.int = tl at *
  unfold b__law_tree
  show Ret 4 _ (sSeq _ _ [.val (.int depth), .val (.list tl), .val (.int spot), .val leaf, .emp, .emp, .emp, .emp])
  refine seq_nx (ρ1 := [.val (.int depth), .val (.list tl), .val (.int spot), .val leaf, .val leaf, .emp, .emp, .emp]) (by simp) ?_
  have e0 : fIx (.list tl) (.int 0) = some (.val (.int (nth ts 0 0))) := eT 0 (by decide) (by decide)
  refine seq_nx (ρ1 := [.val (.int depth), .val (.list tl), .val (.int spot), .val leaf, .val ((bas ts spot).getD leaf), .emp, .emp, .emp]) (by by_cases c : spot = 0 <;> simp [bas, c, e0, leaf_eq]) ?_
  have er := rg2_ok (a := 1) (b := depth + 1) (by omega) (by omega) (by omega) (by omega)
  rw [show (depth + 1 - 1) = depth by omega] at er
  simp only [sSeq_ap, sFor_ap, eRg2_ap, aCons_ap, aNil_ap, eOp2_ap, eC_ap, toV_ap, eVar_ap, gS_succ, gS_zero, toVk_ok, o2a_ok, o2b_ok, ac1_ok, ac2_ok, rg2k_ok, sFk_ok, toD_val, fAdd_int, rgA_2, er, optR_some]
  generalize bas ts spot = bs
  refine for_rg (fun i ρ => ∃ s5 s6 s7, isBor s5 = false ∧ isBor s6 = false ∧ isBor s7 = false ∧ ρ = [.val (.int depth), .val (.list tl), .val (.int spot), .val leaf, .val (grow leaf (bs.getD leaf) (lvs ts spot i)), s5, s6, s7]) ⟨.emp, .emp, .emp, rfl, rfl, rfl, rfl⟩ ?_ ?_
  · rintro i hi ρ ⟨s5, s6, s7, n5, n6, n7, rfl⟩
    refine ⟨_, by simp [gNmS_nb, n5]; rfl, ?_⟩
    have ei := eT ((1 + i : Int) % 50) (by omega) (by omega)
    have hL : lvAt ts spot i = (if (1 + i : Int) = spot then none else some (nth leafL (nth ts ((1 + i : Int) % 50).toNat 0 % 12).toNat .none), (nth ts ((1 + i : Int) % 50).toNat 0 / 12 % 3).toNat) := rfl
    rw [lvs_succ]
    simp only [grow_app]
    rw [hL]
    generalize nth ts ((1 + i : Int) % 50).toNat 0 = dr at *
    generalize grow leaf (bs.getD leaf) (lvs ts spot i) = v
    refine seq_nx (ρ1 := [.val (.int depth), .val (.list tl), .val (.int spot), .val leaf, .val v, .val (.int (1 + i)), .val (.int dr), s7]) (by simp [lT', ei, putS_nb, n6]) ?_
    refine seq_nx (ρ1 := [.val (.int depth), .val (.list tl), .val (.int spot), .val leaf, .val v, .val (.int (1 + i)), .val (.int dr), .val (nth leafL (dr % 12).toNat .none)]) (by simp [leaf_eq, putS_nb, n7]) ?_
    generalize nth leafL (dr % 12).toNat .none = lf
    refine seq_nx (ρ1 := [.val (.int depth), .val (.list tl), .val (.int spot), .val leaf, .val v, .val (.int (1 + i)), .val (.int dr), .val ((if (1 + i : Int) = spot then none else some lf).getD leaf)]) (by by_cases c : (1 + i : Int) = spot <;> simp [c]) ?_
    generalize (if (1 + i : Int) = spot then none else some lf).getD leaf = o
    have ek : fIx (.list [.tuple [v, o], .tuple [o, v], .tuple [o, v, o]]) (.int (dr / 12 % 3)) = some (.val (step v o (dr / 12 % 3).toNat)) := by
      have : dr / 12 % 3 = 0 ∨ dr / 12 % 3 = 1 ∨ dr / 12 % 3 = 2 := by omega
      rcases this with q | q | q <;> rw [q] <;> rfl
    refine FL_of (by simp [ek]; exact ⟨rfl, rfl, rfl⟩) ⟨_, _, _, rfl, rfl, rfl, rfl⟩
  · rintro ρ ⟨s5, s6, s7, n5, n6, n7, rfl⟩
    simp
end Law
set_option Elab.async false
set_option linter.all false
set_option maxRecDepth 100000
set_option maxHeartbeats 2000000
namespace Law
open Dn PySem
open L2 (Key)
theorem nice_3 {d : D} (h : nice d = true) : plainD d = true ∧ sameD d d = true ∧ wt d ≤ 3 := by
  unfold nice at h
  rw [Bool.and_eq_true, Bool.and_eq_true] at h
  exact ⟨h.1.1, h.1.2, of_decide_eq_true h.2⟩
def NiceL (lv : List (Option D × Nat)) : Prop := ∀ p ∈ lv, ∀ o, p.1 = some o → nice o = true
theorem NiceL.tail {p : Option D × Nat} {lv : List (Option D × Nat)} (h : NiceL (p :: lv)) : NiceL lv := fun q hq => h q (List.mem_cons_of_mem _ hq)
theorem step_same (v w o p : D) (k : Nat) : sameD (step v o k) (step w p k) = (sameD v w && sameD o p) := by
  unfold step
  split
  · show (sameD v w && (sameD o p && true)) = _
    rw [Bool.and_true]
  · show (sameD o p && (sameD v w && true)) = _
    rw [Bool.and_true, Bool.and_comm]
  · show (sameD o p && (sameD v w && (sameD o p && true))) = _
    cases sameD o p <;> simp
theorem step_plain (v o : D) (k : Nat) : plainD (step v o k) = (plainD v && plainD o) := by
  unfold step
  split
  · show (plainD v && (plainD o && true)) = _
    rw [Bool.and_true]
  · show (plainD o && (plainD v && true)) = _
    rw [Bool.and_true, Bool.and_comm]
  · show (plainD o && (plainD v && (plainD o && true))) = _
    cases plainD o <;> simp
theorem step_wt (v o : D) (k : Nat) (h : wt o ≤ 3) : wt (step v o k) ≤ wt v + 7 := by
  unfold step
  split
  · show 1 + (wt v + (wt o + 0)) ≤ _
    omega
  · show 1 + (wt o + (wt v + 0)) ≤ _
    omega
  · show 1 + (wt o + (wt v + (wt o + 0))) ≤ _
    omega
theorem grow_wt (leaf : D) (hl : wt leaf ≤ 3) : ∀ (lv : List (Option D × Nat)) (v : D), NiceL lv → wt (grow leaf v lv) ≤ wt v + 7 * lv.length
  | [], v, _ => by show wt v ≤ _; omega
  | (o, k) :: r, v, h => by
    have a := grow_wt leaf hl r (step v (o.getD leaf) k) h.tail
    have b := step_wt v (o.getD leaf) k (by
      cases o with
      | none => exact hl
      | some o => exact (nice_3 (h _ (List.mem_cons_self ..) o rfl)).2.2)
    show wt (grow leaf (step v (o.getD leaf) k) r) ≤ wt v + 7 * (r.length + 1)
    omega
theorem grow_same (leaf : D) (hl : nice leaf = true) : ∀ (lv : List (Option D × Nat)) (v : D), NiceL lv → sameD v v = true → sameD (grow leaf v lv) (grow leaf v lv) = true
  | [], v, _, hv => hv
  | (o, k) :: r, v, h, hv => by
    refine grow_same leaf hl r _ h.tail ?_
    rw [step_same, hv]
    cases o with
    | none => exact (nice_3 hl).2.1
    | some o => exact (nice_3 (h _ (List.mem_cons_self ..) o rfl)).2.1
theorem grow_plain (leaf : D) (hl : plainD leaf = true) : ∀ (lv : List (Option D × Nat)) (v : D), NiceL lv → plainD v = true → plainD (grow leaf v lv) = true
  | [], v, _, hv => hv
  | (o, k) :: r, v, h, hv => by
    refine grow_plain leaf hl r _ h.tail ?_
    rw [step_plain, hv]
    cases o with
    | none => exact hl
    | some o => exact (nice_3 (h _ (List.mem_cons_self ..) o rfl)).1
theorem grow_diff (a b : D) : ∀ (lv : List (Option D × Nat)) (v w : D), sameD v w = false → sameD (grow a v lv) (grow b w lv) = false
  | [], v, w, h => h
  | (o, k) :: r, v, w, h => grow_diff a b r _ _ (by rw [step_same, h]; rfl)
theorem grow_rough (a : D) : ∀ (lv : List (Option D × Nat)) (v : D), plainD v = false → plainD (grow a v lv) = false
  | [], v, h => h
  | (o, k) :: r, v, h => grow_rough a r _ (by rw [step_plain, h]; rfl)
theorem grow_diff2 (a b : D) (hab : sameD a b = false) : ∀ (lv : List (Option D × Nat)) (v w : D), (∃ p ∈ lv, p.1 = none) → sameD (grow a v lv) (grow b w lv) = false
  | [], v, w, h => by obtain ⟨p, hp, _⟩ := h; cases hp
  | (none, k) :: r, v, w, _ => grow_diff a b r _ _ (by rw [step_same]; show (sameD v w && sameD a b) = false; rw [hab, Bool.and_false])
  | (some o, k) :: r, v, w, h => grow_diff2 a b hab r _ _ (by
      obtain ⟨p, hp, e⟩ := h
      rcases List.mem_cons.mp hp with rfl | hp
      · cases e
      · exact ⟨p, hp, e⟩)
theorem grow_rough2 (a : D) (ha : plainD a = false) : ∀ (lv : List (Option D × Nat)) (v : D), (∃ p ∈ lv, p.1 = none) → plainD (grow a v lv) = false
  | [], v, h => by obtain ⟨p, hp, _⟩ := h; cases hp
  | (none, k) :: r, v, _ => grow_rough a r _ (by rw [step_plain]; show (plainD v && plainD a) = false; rw [ha, Bool.and_false])
  | (some o, k) :: r, v, h => grow_rough2 a ha r _ (by
      obtain ⟨p, hp, e⟩ := h
      rcases List.mem_cons.mp hp with rfl | hp
      · cases e
      · exact ⟨p, hp, e⟩)
theorem grow_tup (a : D) : ∀ (lv : List (Option D × Nat)) (v : D), lv ≠ [] ∨ isTup v = true → ∃ xs, grow a v lv = .tuple xs
  | [], v, h => by
    rcases h with h | h
    · exact absurd rfl h
    · cases v <;> first | (cases h; done) | exact ⟨_, rfl⟩
  | (o, k) :: r, v, _ => grow_tup a r _ (.inr (by unfold step; split <;> rfl))
theorem lvs_nice (ts : List Int) (spot : Int) (n : Nat) : NiceL (lvs ts spot n) := by
  intro p hp o ho
  obtain ⟨i, _, rfl⟩ := List.mem_map.mp hp
  unfold lvAt at ho
  dsimp only at ho
  split at ho
  · cases ho
  · cases ho
    exact leaf_nice _
theorem bas_nice (ts : List Int) (spot : Int) (leaf : D) (h : nice leaf = true) : nice ((bas ts spot).getD leaf) = true := by
  unfold bas
  split
  · exact h
  · exact leaf_nice _
theorem lvs_len (ts : List Int) (spot : Int) (n : Nat) : (lvs ts spot n).length = n := by simp [lvs]
def tre (ts : List Int) (spot : Int) (n : Nat) (leaf : D) : D := grow leaf ((bas ts spot).getD leaf) (lvs ts spot n)
theorem spot_in (ts : List Int) (spot : Int) (n : Nat) (h0 : 0 ≤ spot) (h1 : spot ≤ n) : bas ts spot = none ∨ ∃ p ∈ lvs ts spot n, p.1 = none := by
  by_cases c : spot = 0
  · exact .inl (if_pos c)
  · refine .inr ⟨lvAt ts spot (spot - 1).toNat, List.mem_map.mpr ⟨(spot - 1).toNat, List.mem_range.mpr (by omega), rfl⟩, ?_⟩
    exact if_pos (by omega)
theorem tre_diff (ts : List Int) (spot : Int) (n : Nat) (a b : D) (h0 : 0 ≤ spot) (h1 : spot ≤ n) (h : sameD a b = false) : sameD (tre ts spot n a) (tre ts spot n b) = false := by
  unfold tre
  rcases spot_in ts spot n h0 h1 with q | q
  · rw [q]; exact grow_diff a b _ _ _ h
  · exact grow_diff2 a b h _ _ _ q
theorem tre_rough (ts : List Int) (spot : Int) (n : Nat) (a : D) (h0 : 0 ≤ spot) (h1 : spot ≤ n) (h : plainD a = false) : plainD (tre ts spot n a) = false := by
  unfold tre
  rcases spot_in ts spot n h0 h1 with q | q
  · rw [q]; exact grow_rough a _ _ h
  · exact grow_rough2 a h _ _ q
theorem tre_wt (ts : List Int) (spot : Int) (n : Nat) (a : D) (hn : n ≤ 150) (h : wt a ≤ 3) : wt (tre ts spot n a) ≤ 1000000 := by
  have q := grow_wt a h (lvs ts spot n) ((bas ts spot).getD a) (lvs_nice ts spot n)
  have b : wt ((bas ts spot).getD a) ≤ 3 := by
    unfold bas
    split
    · exact h
    · exact (nice_3 (leaf_nice _)).2.2
  rw [lvs_len] at q
  unfold tre
  omega
theorem tre_same (ts : List Int) (spot : Int) (n : Nat) (a : D) (h : nice a = true) : sameD (tre ts spot n a) (tre ts spot n a) = true :=
  grow_same a h _ _ (lvs_nice ts spot n) (nice_3 (bas_nice ts spot a h)).2.1
theorem tre_plain (ts : List Int) (spot : Int) (n : Nat) (a : D) (h : nice a = true) : plainD (tre ts spot n a) = true :=
  grow_plain a (nice_3 h).1 _ _ (lvs_nice ts spot n) (nice_3 (bas_nice ts spot a h)).1
theorem tre_tup (ts : List Int) (spot : Int) (n : Nat) (a : D) (h : 1 ≤ n) : ∃ xs, tre ts spot n a = .tuple xs :=
  grow_tup a _ _ (.inl fun q => by have := congrArg List.length q; rw [lvs_len] at this; simp at this; omega)
/-! ### the pairs -/
def pairL : List (D × D) := [(.int 1, .bool true), (.int 0, .bool false), (.str (Str.ofString ""), .tuple []), (.none, .int 0), (.str (Str.ofString "a"), .str (Str.ofString "b")), (.tuple [.int 1], .tuple [.int 1, .int 1]), (.bool false, .none), (.str (Str.ofString "1"), .int 1), (.int (-1), .int 1), (.int 1000000000000000000000000000000, .int 1000000000000000000000000000001), (.tuple [], .none)]
def oddT : List D := [.list [], .list [.int 1], .dict []]
theorem pairs_ok : ∀ i < 11, nice (nth pairL i (.none, .none)).1 = true ∧ nice (nth pairL i (.none, .none)).2 = true ∧ sameD (nth pairL i (.none, .none)).1 (nth pairL i (.none, .none)).2 = false ∧ sameD (nth pairL i (.none, .none)).2 (nth pairL i (.none, .none)).1 = false ∧ (oddT.all fun o => !sameD (nth pairL i (.none, .none)).1 o) = true := by decide +kernel
theorem odd_ok : ∀ o ∈ oddT, plainD o = false ∧ sameD o o = false ∧ wt o ≤ 3 := by
  intro o ho
  simp [oddT] at ho
  rcases ho with rfl | rfl | rfl <;> exact ⟨rfl, rfl, by decide⟩
/-! ### is_answer -/
theorem answer_pair (s : Str) (x : D) : d_is_answer [.val (.tuple [.str s, x])] = .ok (.val (.bool (decide (s = Str.ofString "yes") || decide (s = Str.ofString "no")))) [.val (.tuple [.str s, x])] := by
  refine mkF_ret (ds := [.tuple [.str s, x]]) rfl ?_
  have e := is_tuple_of_eq (.tuple [.str s, x]) 2 2
  simp at e
  have e0 := fIx_tuple (xs := [.str s, x]) (p := 0) (by decide) (by simp)
  simp at e0
  simp [b_is_answer, e, e0, isStr]
theorem answer_list (ds : List D) : d_is_answer [.val (.list ds)] = .ok (.val (.bool false)) [.val (.list ds)] := by
  refine mkF_ret (ds := [.list ds]) rfl ?_
  have e := is_tuple_of_eq (.list ds) 2 2
  simp at e
  simp [b_is_answer, e]
theorem answer_3 (a b c : D) : d_is_answer [.val (.tuple [a, b, c])] = .ok (.val (.bool false)) [.val (.tuple [a, b, c])] := by
  refine mkF_ret (ds := [.tuple [a, b, c]]) rfl ?_
  have e := is_tuple_of_eq (.tuple [a, b, c]) 2 2
  simp at e
  simp [b_is_answer, e]
theorem answer_tup (xs : List D) (y : D) : d_is_answer [.val (.tuple [.tuple xs, y])] = .ok (.val (.bool false)) [.val (.tuple [.tuple xs, y])] := by
  refine mkF_ret (ds := [.tuple [.tuple xs, y]]) rfl ?_
  have e := is_tuple_of_eq (.tuple [.tuple xs, y]) 2 2
  simp at e
  have e0 := fIx_tuple (xs := [.tuple xs, y]) (p := 0) (by decide) (by simp)
  simp at e0
  simp [b_is_answer, e, e0, isStr]
theorem yes_yes : decide (Str.ofString "yes" = Str.ofString "yes") = true := decide_eq_true rfl
theorem no_yes : decide (Str.ofString "no" = Str.ofString "yes") = false := by decide +kernel
theorem no_no : decide (Str.ofString "no" = Str.ofString "no") = true := decide_eq_true rfl
theorem Yes_yes : decide (Str.ofString "Yes" = Str.ofString "yes") = false := by decide +kernel
theorem Yes_no : decide (Str.ofString "Yes" = Str.ofString "no") = false := by decide +kernel
end Law
set_option Elab.async false
set_option linter.all false
set_option maxRecDepth 100000
set_option maxHeartbeats 4000000
namespace Law
open Dn PySem
open L2 (Key)
theorem ask_trees_eq (ds ts : List Int) (hd : Draws ds 3) (ht : Draws ts 50) : d__law_ask_trees [.val (.list (ds.map .int)), .val (.list (ts.map .int))] = .ok (.val (.bool true)) [.val (.list (ds.map .int)), .val (.list (ts.map .int))] := by
  refine mkF_ret (ds := [.list (ds.map .int), .list (ts.map .int)]) rfl ?_
  obtain ⟨v0, b0, e0⟩ := draw_at hd 0 (by decide) (by decide)
  obtain ⟨v1, b1, e1⟩ := draw_at hd 1 (by decide) (by decide)
  obtain ⟨v2, b2, e2⟩ := draw_at hd 2 (by decide) (by decide)
  generalize ds.map PyData.int = dl at *
  have eT := fun (depth spot : Int) (h0 : 0 ≤ depth) (h1 : depth ≤ 150) (leaf : D) => tree_eq depth spot ts ht h0 h1 leaf
  generalize PyData.list (ts.map PyData.int) = tl at *
  unfold b__law_ask_trees
  show Ret 2 _ (sSeq _ _ [.val (.list dl), .val tl, .emp, .emp, .emp, .emp, .emp, .emp, .emp, .emp, .emp, .emp, .emp, .emp])
  refine seq_nx (ρ1 := [.val (.list dl), .val tl, .val (.int (1 + v0 % 150)), .emp, .emp, .emp, .emp, .emp, .emp, .emp, .emp, .emp, .emp, .emp]) (by simp [e0]) ?_
  have hdp : 1 ≤ 1 + v0 % 150 ∧ 1 + v0 % 150 ≤ 150 := by omega
  generalize 1 + v0 % 150 = dp at *
  refine seq_nx (ρ1 := [.val (.list dl), .val tl, .val (.int dp), .val (.int (v1 % (dp + 1))), .emp, .emp, .emp, .emp, .emp, .emp, .emp, .emp, .emp, .emp]) (by simp [e1, fMod_pos (p := v1) (q := dp + 1) (by omega)]) ?_
  have hs0 : 0 ≤ v1 % (dp + 1) := Int.emod_nonneg _ (by omega)
  have hs1 : v1 % (dp + 1) < dp + 1 := Int.emod_lt_of_pos _ (by omega)
  generalize v1 % (dp + 1) = sp at *
  refine seq_nx (ρ1 := [.val (.list dl), .val tl, .val (.int dp), .val (.int sp), .own (.lst (pairL.map pr)), .emp, .emp, .emp, .emp, .emp, .emp, .emp, .emp, .emp]) (by simp [pairL, pr]) ?_
  have hp := pairs_ok (v2 % 11).toNat (by omega)
  have ep := fIx_list (xs := pairL.map pr) (p := v2 % 11) (by omega) (by show _ < (11 : Int); omega)
  rw [nth_map (d := (.none, .none)) (by show _ < 11; omega)] at ep
  generalize nth pairL (v2 % 11).toNat (.none, .none) = pp at *
  obtain ⟨one, oth⟩ := pp
  dsimp only at hp
  obtain ⟨p1, p2, p3, p4, p5⟩ := hp
  generalize pairL.map pr = PL at *
  have ep : fIx (.list PL) (.int (v2 % 11)) = some (.val (.tuple [one, oth])) := ep
  refine seq_nx (ρ1 := [.val (.list dl), .val tl, .val (.int dp), .val (.int sp), .own (.lst PL), .emp, .emp, .emp, .emp, .val one, .val oth, .emp, .emp, .emp]) (by simp [e2, ep]) ?_
  have eT1 := fun leaf => eT dp sp (by omega) (by omega) leaf
  have eT2 : ∀ leaf, d__law_tree [.val (.int dp), .val tl, .val (.int sp), .val leaf] = .ok (.val (tre ts sp dp.toNat leaf)) [.val (.int dp), .val tl, .val (.int sp), .val leaf] := eT1
  have sp1 : sp ≤ dp.toNat := by omega
  have w1 := tre_wt ts sp dp.toNat one (by omega) (nice_3 p1).2.2
  have w2 := tre_wt ts sp dp.toNat oth (by omega) (nice_3 p2).2.2
  have q11 := same_eq (tre ts sp dp.toNat one) (tre ts sp dp.toNat one) w1
  rw [tre_same ts sp _ one p1] at q11
  have q12 := same_eq (tre ts sp dp.toNat one) (tre ts sp dp.toNat oth) w1
  rw [tre_diff ts sp _ one oth hs0 sp1 p3] at q12
  have q21 := same_eq (tre ts sp dp.toNat oth) (tre ts sp dp.toNat one) w2
  rw [tre_diff ts sp _ oth one hs0 sp1 p4] at q21
  have r1 := is_plain_eq (tre ts sp dp.toNat one) w1
  rw [tre_plain ts sp _ one p1] at r1
  have r2 := is_plain_eq (tre ts sp dp.toNat oth) w2
  rw [tre_plain ts sp _ oth p2] at r2
  have r3 := is_plain_eq (.list [tre ts sp dp.toNat one]) (by simp [wt])
  have hT := tre_tup ts sp dp.toNat one (by omega)
  have hodd : ∀ o ∈ oddT, d_is_plain [.val (tre ts sp dp.toNat o)] = .ok (.val (.bool false)) [.val (tre ts sp dp.toNat o)] ∧ d_same [.val (tre ts sp dp.toNat o), .val (tre ts sp dp.toNat o)] = .ok (.val (.bool false)) [.val (tre ts sp dp.toNat o), .val (tre ts sp dp.toNat o)] ∧
      d_same [.val (tre ts sp dp.toNat one), .val (tre ts sp dp.toNat o)] = .ok (.val (.bool false)) [.val (tre ts sp dp.toNat one), .val (tre ts sp dp.toNat o)] := by
    intro o ho
    obtain ⟨k1, k2, k3⟩ := odd_ok o ho
    have wo := tre_wt ts sp dp.toNat o (by omega) k3
    refine ⟨?_, ?_, ?_⟩
    · rw [is_plain_eq _ wo, tre_rough ts sp _ o hs0 sp1 k1]
    · rw [same_eq _ _ wo, tre_diff ts sp _ o o hs0 sp1 k2]
    · rw [same_eq _ _ w1, tre_diff ts sp _ one o hs0 sp1 (by
        have := List.all_eq_true.mp p5 o ho
        simpa using this)]
  refine seq_nx (ρ1 := [.val (.list dl), .val tl, .val (.int dp), .val (.int sp), .own (.lst PL), .val (tre ts sp dp.toNat one), .emp, .emp, .emp, .val one, .val oth, .emp, .emp, .emp]) (by simp [eT2]) ?_
  refine seq_nx (ρ1 := [.val (.list dl), .val tl, .val (.int dp), .val (.int sp), .own (.lst PL), .val (tre ts sp dp.toNat one), .val (tre ts sp dp.toNat one), .emp, .emp, .val one, .val oth, .emp, .emp, .emp]) (by simp [eT2]) ?_
  refine seq_nx (ρ1 := [.val (.list dl), .val tl, .val (.int dp), .val (.int sp), .own (.lst PL), .val (tre ts sp dp.toNat one), .val (tre ts sp dp.toNat one), .val (tre ts sp dp.toNat oth), .emp, .val one, .val oth, .emp, .emp, .emp]) (by simp [eT2]) ?_
  generalize hF : tre ts sp dp.toNat one = F at *
  generalize tre ts sp dp.toNat oth = G at *
  refine seq_nx (ρ1 := [.val (.list dl), .val tl, .val (.int dp), .val (.int sp), .own (.lst PL), .val F, .val F, .val G, .emp, .val one, .val oth, .emp, .emp, .emp]) (by simp [q11, law_is_eq]) ?_
  refine seq_nx (ρ1 := [.val (.list dl), .val tl, .val (.int dp), .val (.int sp), .own (.lst PL), .val F, .val F, .val G, .emp, .val one, .val oth, .emp, .emp, .emp]) (by simp [q12, q21, law_is_eq]) ?_
  rw [sSeq_ap, sFor_ap]
  simp
  refine for_rule (fun r ρ => ∃ s8 s11, (∀ d ∈ r, d ∈ oddT) ∧ isBor s8 = false ∧ isBor s11 = false ∧ ρ = [.val (.list dl), .val tl, .val (.int dp), .val (.int sp), .own (.lst PL), .val F, .val F, .val G, s8, .val one, .val oth, s11, .emp, .emp]) ⟨.emp, .emp, fun d hd => hd, rfl, rfl, rfl⟩ ?_ ?_
  · rintro d r ρ ⟨s8, s11, hr, n8, n11, rfl⟩
    obtain ⟨k1, k2, k3⟩ := hodd d (hr d (List.mem_cons_self ..))
    refine ⟨_, by simp; exact gNmS_nb n8, ?_⟩
    refine FL_of (by simp [eT2, putS_nb, n11, k1, k2, k3, law_is_eq]; exact ⟨rfl, rfl⟩) ⟨_, _, fun d hd => hr d (List.mem_cons_of_mem _ hd), rfl, rfl, rfl⟩
  rintro ρ ⟨s8, s11, _, n8, n11, rfl⟩
  rw [sSeq_ap, sFor_ap]
  simp
  refine for_rule (fun r ρ => ∃ s12 s13, (∀ d ∈ r, ∃ x b, d = .tuple [x, .bool b] ∧ d_is_plain [.val x] = .ok (.val (.bool b)) [.val x]) ∧ isBor s12 = false ∧ isBor s13 = false ∧ ρ = [.val (.list dl), .val tl, .val (.int dp), .val (.int sp), .own (.lst PL), .val F, .val F, .val G, s8, .val one, .val oth, s11, s12, s13]) ⟨.emp, .emp, ?_, rfl, rfl, rfl⟩ ?_ ?_
  · intro d hd
    simp at hd
    rcases hd with rfl | rfl | rfl
    · exact ⟨_, _, rfl, r1⟩
    · exact ⟨_, _, rfl, r2⟩
    · exact ⟨_, _, rfl, r3⟩
  · rintro d r ρ ⟨s12, s13, hr, n12, n13, rfl⟩
    obtain ⟨x, b, rfl, k1⟩ := hr d (List.mem_cons_self ..)
    refine ⟨_, by simp [gNmS_nb, n12, n13]; rfl, ?_⟩
    refine FL_of (by simp [k1, law_is_eq]; exact ⟨rfl, rfl⟩) ⟨_, _, fun d hd => hr d (List.mem_cons_of_mem _ hd), rfl, rfl, rfl⟩
  rintro ρ ⟨s12, s13, _, n12, n13, rfl⟩
  rw [sSeq_ap, sFor_ap]
  simp
  refine for_rule (fun r ρ => ∃ s12 s13, (∀ d ∈ r, ∃ x b, d = .tuple [x, .bool b] ∧ d_is_answer [.val x] = .ok (.val (.bool b)) [.val x]) ∧ isBor s12 = false ∧ isBor s13 = false ∧ ρ = [.val (.list dl), .val tl, .val (.int dp), .val (.int sp), .own (.lst PL), .val F, .val F, .val G, s8, .val one, .val oth, s11, s12, s13]) ⟨s12, s13, ?_, n12, n13, rfl⟩ ?_ ?_
  · intro d hd
    simp at hd
    rcases hd with rfl | rfl | rfl | rfl | rfl
    · exact ⟨_, _, rfl, by rw [answer_pair, yes_yes]; rfl⟩
    · exact ⟨_, _, rfl, by rw [answer_pair, no_yes, no_no]; rfl⟩
    · exact ⟨_, _, rfl, by rw [answer_pair, Yes_yes, Yes_no]; rfl⟩
    · exact ⟨_, _, rfl, answer_3 _ _ _⟩
    · exact ⟨_, _, rfl, answer_list _⟩
  · rintro d r ρ ⟨s12, s13, hr, n12, n13, rfl⟩
    obtain ⟨x, b, rfl, k1⟩ := hr d (List.mem_cons_self ..)
    refine ⟨_, by simp [gNmS_nb, n12, n13]; rfl, ?_⟩
    refine FL_of (by simp [k1, law_is_eq]; exact ⟨rfl, rfl⟩) ⟨_, _, fun d hd => hr d (List.mem_cons_of_mem _ hd), rfl, rfl, rfl⟩
  rintro ρ ⟨s12, s13, _, n12, n13, rfl⟩
  obtain ⟨xs, rfl⟩ := hT
  have k := answer_tup xs (.str (Str.ofString "yes"))
  simp [k, law_is_eq]
end Law
set_option Elab.async false
set_option linter.all false
set_option maxRecDepth 100000
set_option maxHeartbeats 4000000
namespace Law
open Dn PySem
theorem Draws.cut {xs : List Int} {n : Nat} (h : Draws xs n) (a b : Nat) (hab : a ≤ b) (hb : b ≤ n) : Draws ((xs.take b).drop a) (b - a) := by
  refine ⟨by rw [List.length_drop, List.length_take, h.1]; omega, fun x hx => h.2 x (List.mem_of_mem_take (List.mem_of_mem_drop hx))⟩
theorem law_true (ns : List Int) (_ : ns.length ≤ 63) : ∃ ρ, d_law [.val (script ns)] = .ok (.val (.bool true)) ρ := by
  refine ⟨_, mkF_ret (ds := [script ns]) rfl ?_⟩
  obtain ⟨xs, hx, ex⟩ := draws_eq ns 0 20 (by decide) (by decide) (by decide) (by decide)
  obtain ⟨t1, h1, g1⟩ := draws_eq ns 1 50 (by decide) (by decide) (by decide) (by decide)
  obtain ⟨t2, h2, g2⟩ := draws_eq ns 2 50 (by decide) (by decide) (by decide) (by decide)
  obtain ⟨t3, h3, g3⟩ := draws_eq ns 3 50 (by decide) (by decide) (by decide) (by decide)
  obtain ⟨t4, h4, g4⟩ := draws_eq ns 4 50 (by decide) (by decide) (by decide) (by decide)
  have k1 := ask_names_eq _ _ (hx.cut 0 7 (by decide) (by decide)) h1
  have k2 := ask_rising_eq _ _ (hx.cut 7 10 (by decide) (by decide)) h2
  have k3 := ask_trees_eq _ _ (hx.cut 10 13 (by decide) (by decide)) h3
  have k4 := ask_names_eq _ _ (hx.cut 13 20 (by decide) (by decide)) h4
  simp only [List.map_drop, List.map_take, List.drop_zero] at k1 k2 k3 k4
  generalize ns.length = nl at *
  generalize script ns = S at *
  simp [b_law, ex, g1, g2, g3, g4, k1, k2, k3, k4]
end Law
set_option Elab.async false
set_option linter.all false
set_option maxRecDepth 100000
namespace Law
open PySem L2 Dn
def topS (i : Nat) : Stmt := PySem.Challenge.pw_typefoundry_k38_rows_of_names_at_size.main.body.getD i (.Pass ⟨0, 0, 0, 0⟩)
abbrev s_is_whole : Stmt := topS 3
abbrev N_is_whole : List Str := ["value"]
theorem sc_is_whole : FnScope N_is_whole ["value"] (defScope s_is_whole) := ⟨rfl, rfl, rfl, by decide +kernel, rfl, by decide +kernel, by decide +kernel⟩
abbrev s_is_whole_in : Stmt := topS 4
abbrev N_is_whole_in : List Str := ["value", "low", "high"]
theorem sc_is_whole_in : FnScope N_is_whole_in ["value", "low", "high"] (defScope s_is_whole_in) := ⟨rfl, rfl, rfl, by decide +kernel, rfl, by decide +kernel, by decide +kernel⟩
abbrev s_is_name : Stmt := topS 5
abbrev N_is_name : List Str := ["value", "char"]
theorem sc_is_name : FnScope N_is_name ["value"] (defScope s_is_name) := ⟨rfl, rfl, rfl, by decide +kernel, rfl, by decide +kernel, by decide +kernel⟩
abbrev s_is_tuple_of : Stmt := topS 6
abbrev N_is_tuple_of : List Str := ["value", "low", "high"]
theorem sc_is_tuple_of : FnScope N_is_tuple_of ["value", "low", "high"] (defScope s_is_tuple_of) := ⟨rfl, rfl, rfl, by decide +kernel, rfl, by decide +kernel, by decide +kernel⟩
abbrev s_is_names : Stmt := topS 7
abbrev N_is_names : List Str := ["value", "low", "high", "seen", "item"]
theorem sc_is_names : FnScope N_is_names ["value", "low", "high"] (defScope s_is_names) := ⟨rfl, rfl, rfl, by decide +kernel, rfl, by decide +kernel, by decide +kernel⟩
abbrev s_is_rising : Stmt := topS 8
abbrev N_is_rising : List Str := ["value", "item", "at"]
theorem sc_is_rising : FnScope N_is_rising ["value"] (defScope s_is_rising) := ⟨rfl, rfl, rfl, by decide +kernel, rfl, by decide +kernel, by decide +kernel⟩
abbrev s_is_single : Stmt := topS 9
abbrev N_is_single : List Str := ["value"]
theorem sc_is_single : FnScope N_is_single ["value"] (defScope s_is_single) := ⟨rfl, rfl, rfl, by decide +kernel, rfl, by decide +kernel, by decide +kernel⟩
abbrev s_is_plain : Stmt := topS 10
abbrev N_is_plain : List Str := ["value", "waiting", "item"]
theorem sc_is_plain : FnScope N_is_plain ["value"] (defScope s_is_plain) := ⟨rfl, rfl, rfl, by decide +kernel, rfl, by decide +kernel, by decide +kernel⟩
abbrev s_same_single : Stmt := topS 11
abbrev N_same_single : List Str := ["first", "second"]
theorem sc_same_single : FnScope N_same_single ["first", "second"] (defScope s_same_single) := ⟨rfl, rfl, rfl, by decide +kernel, rfl, by decide +kernel, by decide +kernel⟩
abbrev s_same : Stmt := topS 12
abbrev N_same : List Str := ["first", "second", "waiting", "one", "other", "at"]
theorem sc_same : FnScope N_same ["first", "second"] (defScope s_same) := ⟨rfl, rfl, rfl, by decide +kernel, rfl, by decide +kernel, by decide +kernel⟩
abbrev s_is_answer : Stmt := topS 13
abbrev N_is_answer : List Str := ["value"]
theorem sc_is_answer : FnScope N_is_answer ["value"] (defScope s_is_answer) := ⟨rfl, rfl, rfl, by decide +kernel, rfl, by decide +kernel, by decide +kernel⟩
abbrev s__law_cell : Stmt := topS 15
abbrev N__law_cell : List Str := ["script", "k"]
theorem sc__law_cell : FnScope N__law_cell ["script", "k"] (defScope s__law_cell) := ⟨rfl, rfl, rfl, by decide +kernel, rfl, by decide +kernel, by decide +kernel⟩
abbrev s__law_draws : Stmt := topS 16
abbrev N__law_draws : List Str := ["script", "k", "count", "cell", "rest", "rows", "at", "mixed"]
theorem sc__law_draws : FnScope N__law_draws ["script", "k", "count"] (defScope s__law_draws) := ⟨rfl, rfl, rfl, by decide +kernel, rfl, by decide +kernel, by decide +kernel⟩
abbrev s__law_is : Stmt := topS 17
abbrev N__law_is : List Str := ["actual", "due"]
theorem sc__law_is : FnScope N__law_is ["actual", "due"] (defScope s__law_is) := ⟨rfl, rfl, rfl, by decide +kernel, rfl, by decide +kernel, by decide +kernel⟩
abbrev s__law_names : Stmt := topS 18
abbrev N__law_names : List Str := ["draws", "count", "letters", "signs", "names", "at", "cut", "draw", "name"]
theorem sc__law_names : FnScope N__law_names ["draws", "count"] (defScope s__law_names) := ⟨rfl, rfl, rfl, by decide +kernel, rfl, by decide +kernel, by decide +kernel⟩
abbrev s__law_odd_name : Stmt := topS 19
abbrev N__law_odd_name : List Str := ["names", "draw", "odd"]
theorem sc__law_odd_name : FnScope N__law_odd_name ["names", "draw"] (defScope s__law_odd_name) := ⟨rfl, rfl, rfl, by decide +kernel, rfl, by decide +kernel, by decide +kernel⟩
abbrev s__law_held_names : Stmt := topS 20
abbrev N__law_held_names : List Str := ["names", "low", "high", "good", "count", "least", "most"]
theorem sc__law_held_names : FnScope N__law_held_names ["names", "low", "high", "good"] (defScope s__law_held_names) := ⟨rfl, rfl, rfl, by decide +kernel, rfl, by decide +kernel, by decide +kernel⟩
abbrev s__law_ask_names : Stmt := topS 21
abbrev N__law_ask_names : List Str := ["draws", "tail", "count", "names", "low", "high", "name", "long", "spot", "item"]
theorem sc__law_ask_names : FnScope N__law_ask_names ["draws", "tail"] (defScope s__law_ask_names) := ⟨rfl, rfl, rfl, by decide +kernel, rfl, by decide +kernel, by decide +kernel⟩
abbrev s__law_ask_rising : Stmt := topS 22
abbrev N__law_ask_rising : List Str := ["draws", "tail", "count", "value", "found", "at", "numbers", "spot", "item", "ends", "draw", "due"]
theorem sc__law_ask_rising : FnScope N__law_ask_rising ["draws", "tail"] (defScope s__law_ask_rising) := ⟨rfl, rfl, rfl, by decide +kernel, rfl, by decide +kernel, by decide +kernel⟩
abbrev s__law_leaf : Stmt := topS 23
abbrev N__law_leaf : List Str := ["draw"]
theorem sc__law_leaf : FnScope N__law_leaf ["draw"] (defScope s__law_leaf) := ⟨rfl, rfl, rfl, by decide +kernel, rfl, by decide +kernel, by decide +kernel⟩
abbrev s__law_tree : Stmt := topS 24
abbrev N__law_tree : List Str := ["depth", "tail", "spot", "leaf", "value", "level", "draw", "other"]
theorem sc__law_tree : FnScope N__law_tree ["depth", "tail", "spot", "leaf"] (defScope s__law_tree) := ⟨rfl, rfl, rfl, by decide +kernel, rfl, by decide +kernel, by decide +kernel⟩
abbrev s__law_ask_trees : Stmt := topS 25
abbrev N__law_ask_trees : List Str := ["draws", "tail", "depth", "spot", "pairs", "first", "again", "second", "odd", "one", "other", "spoilt", "value", "due"]
theorem sc__law_ask_trees : FnScope N__law_ask_trees ["draws", "tail"] (defScope s__law_ask_trees) := ⟨rfl, rfl, rfl, by decide +kernel, rfl, by decide +kernel, by decide +kernel⟩
abbrev s_law : Stmt := topS 26
abbrev N_law : List Str := ["script", "draws"]
theorem sc_law : FnScope N_law ["script"] (defScope s_law) := ⟨rfl, rfl, rfl, by decide +kernel, rfl, by decide +kernel, by decide +kernel⟩
section
variable {P : Program} {w : World} {K : PySem.W.Frag} {mg : Str → Option Value} {base : Heap}
set_option maxHeartbeats 4000000 in
theorem ok_is_whole {f : Addr} {fd : FuncData} (F : Fun K "is_whole" "is_whole" s_is_whole f fd) (m_isinstance : mg "isinstance" = none) (m_int : mg "int" = none) (m_bool : mg "bool" = none) : FnOk P w K mg base (L2.CX P w) 1 f fd ["value"] (spG K mg 1 d_is_whole) := by
  refine known F sc_is_whole (fun cdv A outer s H E C hr tk po => ?_)
  exact (js_one (js_ret (je_and (je_isi kit_int bt_int m_isinstance m_int (jp_var (pv 0)) rfl rfl) (je_one (je_not (je_isi kit_bool bt_bool m_isinstance m_bool (jp_var (pv 0)) rfl rfl))))))
set_option maxHeartbeats 4000000 in
theorem ok_is_whole_in {f : Addr} {fd : FuncData} (F : Fun K "is_whole_in" "is_whole_in" s_is_whole_in f fd) (G_is_whole : Known P w K mg base "is_whole" ["value"] 1 d_is_whole) : FnOk P w K mg base (L2.CX P w) 2 f fd ["value", "low", "high"] (spG K mg 3 d_is_whole_in) := by
  obtain ⟨a_is_whole, fd_is_whole, F_is_whole, m_is_whole, k_is_whole, b_is_whole⟩ := G_is_whole
  refine known F sc_is_whole_in (fun cdv A outer s H E C hr tk po => ?_)
  exact (js_one (js_ret (je_and (je_call F_is_whole (hr.mono (by decide)) m_is_whole k_is_whole b_is_whole tk (ja_cons (JE.v (je_var (pv 0))) (ja_nil)) rfl) (je_one (je_chain od_le od_le (JE.v (je_var (pv 1))) (JE.v (je_var (pv 0))) (JE.v (je_var (pv 2))))))))
set_option maxHeartbeats 4000000 in
theorem ok_is_name {f : Addr} {fd : FuncData} (F : Fun K "is_name" "is_name" s_is_name f fd) (m_len : mg "len" = none) (m_isinstance : mg "isinstance" = none) (m_str : mg "str" = none) {t_LETTERS : Tok} (c_LETTERS : mg "LETTERS" = some (.str "abcdefghijklmnopqrstuvwxyz" t_LETTERS)) {t_DIGITS : Tok} (c_DIGITS : mg "DIGITS" = some (.str "0123456789" t_DIGITS)) : FnOk P w K mg base (L2.CX P w) 1 f fd ["value"] (spG K mg 1 d_is_name) := by
  refine known F sc_is_name (fun cdv A outer s H E C hr tk po => ?_)
  exact (js_cons (js_if (jt_not (jt_tru (JE.p (je_isi kit_str bt_str m_isinstance m_str (jp_var (pv 0)) rfl rfl)))) (js_one (js_ret (je_bl))) (js_nil))
    (js_cons (js_if (JW.t (jw_or (jt_cmp od_lt (JE.v (je_b1 cr_len m_len bt_len (jp_var (pv 0)) rfl)) (JE.v (je_int)) (nomark _)) (jw_or1 (jt_cmp od_gt (JE.v (je_b1 cr_len m_len bt_len (jp_var (pv 0)) rfl)) (JE.v (je_int)) (nomark _))))) (js_one (js_ret (je_bl))) (js_nil))
    (js_cons (js_if (jt_cmp od_notin (JE.v (je_ixV (pv 0) (JE.v (je_int)) (fun _ _ => rfl))) (JE.v (je_gstr c_LETTERS rfl)) (by rfl)) (js_one (js_ret (je_bl))) (js_nil))
    (js_cons (js_for po rfl (ji_any (JE.v (je_var (pv 0)))) (jg_name (i := 1) sc_is_name.nd rfl (.inl rfl)) (js_one (js_if (JW.t (jw_and (jt_cmp od_notin (JE.v (je_var (pv 1))) (JE.v (je_gstr c_LETTERS rfl)) (by rfl)) (jw_and1 (jt_cmp od_notin (JE.v (je_var (pv 1))) (JE.v (je_gstr c_DIGITS rfl)) (by rfl))))) (js_one (js_ret (je_bl))) (js_nil))))
    (js_one (js_ret (je_bl)))))))
set_option maxHeartbeats 4000000 in
theorem ok_is_tuple_of {f : Addr} {fd : FuncData} (F : Fun K "is_tuple_of" "is_tuple_of" s_is_tuple_of f fd) (m_isinstance : mg "isinstance" = none) (m_tuple : mg "tuple" = none) (m_len : mg "len" = none) : FnOk P w K mg base (L2.CX P w) 1 f fd ["value", "low", "high"] (spG K mg 3 d_is_tuple_of) := by
  refine known F sc_is_tuple_of (fun cdv A outer s H E C hr tk po => ?_)
  exact (js_one (js_ret (je_and (je_isi kit_tuple bt_tuple m_isinstance m_tuple (jp_var (pv 0)) rfl rfl) (je_one (je_chain od_le od_le (JE.v (je_var (pv 1))) (JE.v (je_b1 cr_len m_len bt_len (jp_var (pv 0)) rfl)) (JE.v (je_var (pv 2))))))))
set_option maxHeartbeats 4000000 in
theorem ok_is_names {f : Addr} {fd : FuncData} (F : Fun K "is_names" "is_names" s_is_names f fd) (G_is_name : Known P w K mg base "is_name" ["value"] 1 d_is_name) (G_is_tuple_of : Known P w K mg base "is_tuple_of" ["value", "low", "high"] 1 d_is_tuple_of) : FnOk P w K mg base (L2.CX P w) 2 f fd ["value", "low", "high"] (spG K mg 3 d_is_names) := by
  obtain ⟨a_is_name, fd_is_name, F_is_name, m_is_name, k_is_name, b_is_name⟩ := G_is_name
  obtain ⟨a_is_tuple_of, fd_is_tuple_of, F_is_tuple_of, m_is_tuple_of, k_is_tuple_of, b_is_tuple_of⟩ := G_is_tuple_of
  refine known F sc_is_names (fun cdv A outer s H E C hr tk po => ?_)
  exact (js_cons (js_if (jt_not (jt_tru (JE.p (je_call F_is_tuple_of (hr.mono (by decide)) m_is_tuple_of k_is_tuple_of b_is_tuple_of tk (ja_cons (JE.v (je_var (pv 0))) (ja_cons (JE.v (je_var (pv 1))) (ja_cons (JE.v (je_var (pv 2))) (ja_nil)))) rfl)))) (js_one (js_ret (je_bl))) (js_nil))
    (js_cons (js_set (i := 3) sc_is_names.nd rfl (.inl rfl) (je_dic0))
    (js_cons (js_for po rfl (ji_any (JE.v (je_var (pv 0)))) (jg_name (i := 4) sc_is_names.nd rfl (.inl rfl)) (js_cons (js_if (JW.t (jw_or (jt_not (jt_tru (JE.p (je_call F_is_name (hr.mono (by decide)) m_is_name k_is_name b_is_name tk (ja_cons (JE.v (je_var (pv 4))) (ja_nil)) rfl)))) (jw_or1 (jt_din (hu_of hr) (JE.v (je_var (pv 4))) (pv 3))))) (js_one (js_ret (je_bl))) (js_nil))
    (js_one (js_setD (hu_of hr) (JE.v (je_bl)) (pv 3) (JE.v (je_var (pv 4)))))))
    (js_one (js_ret (je_bl))))))
set_option maxHeartbeats 4000000 in
theorem ok_is_rising {f : Addr} {fd : FuncData} (F : Fun K "is_rising" "is_rising" s_is_rising f fd) (G_is_whole : Known P w K mg base "is_whole" ["value"] 1 d_is_whole) (m_len : mg "len" = none) (m_range : mg "range" = none) (m_isinstance : mg "isinstance" = none) (m_tuple : mg "tuple" = none) : FnOk P w K mg base (L2.CX P w) 2 f fd ["value"] (spG K mg 1 d_is_rising) := by
  obtain ⟨a_is_whole, fd_is_whole, F_is_whole, m_is_whole, k_is_whole, b_is_whole⟩ := G_is_whole
  refine known F sc_is_rising (fun cdv A outer s H E C hr tk po => ?_)
  exact (js_cons (js_if (jt_not (jt_tru (JE.p (je_isi kit_tuple bt_tuple m_isinstance m_tuple (jp_var (pv 0)) rfl rfl)))) (js_one (js_ret (je_bl))) (js_nil))
    (js_cons (js_for po rfl (ji_any (JE.v (je_var (pv 0)))) (jg_name (i := 1) sc_is_rising.nd rfl (.inl rfl)) (js_one (js_if (jt_not (jt_tru (JE.p (je_call F_is_whole (hr.mono (by decide)) m_is_whole k_is_whole b_is_whole tk (ja_cons (JE.v (je_var (pv 1))) (ja_nil)) rfl)))) (js_one (js_ret (je_bl))) (js_nil))))
    (js_cons (js_for po rfl (ji_rg2 m_range (ja_cons (JE.v (je_int)) (ja_cons (JE.v (je_b1 cr_len m_len bt_len (jp_var (pv 0)) rfl)) (ja_nil))) rfl) (jg_name (i := 2) sc_is_rising.nd rfl (.inl rfl)) (js_one (js_if (jt_cmp od_ge (JE.v (je_ixV (pv 0) (JE.v (je_op od_sub (JE.v (je_var (pv 2))) (JE.v (je_int)))) (fun _ _ => rfl))) (JE.v (je_ixV (pv 0) (JE.v (je_var (pv 2))) (fun _ _ => rfl))) (nomark _)) (js_one (js_ret (je_bl))) (js_nil))))
    (js_one (js_ret (je_bl))))))
set_option maxHeartbeats 4000000 in
theorem ok_is_single {f : Addr} {fd : FuncData} (F : Fun K "is_single" "is_single" s_is_single f fd) (m_isinstance : mg "isinstance" = none) (m_int : mg "int" = none) (m_str : mg "str" = none) : FnOk P w K mg base (L2.CX P w) 1 f fd ["value"] (spG K mg 1 d_is_single) := by
  refine known F sc_is_single (fun cdv A outer s H E C hr tk po => ?_)
  exact (js_one (js_ret (je_or (je_cmp od_is (JE.v (je_var (pv 0))) (JE.v (je_non)) (nomark _)) (je_one (je_isi2 kit_int kit_str bt_int bt_str m_isinstance m_int m_str (jp_var (pv 0)) rfl rfl rfl)))))
set_option maxHeartbeats 4000000 in
theorem ok_is_plain {f : Addr} {fd : FuncData} (F : Fun K "is_plain" "is_plain" s_is_plain f fd) (G_is_single : Known P w K mg base "is_single" ["value"] 1 d_is_single) (m_isinstance : mg "isinstance" = none) (m_tuple : mg "tuple" = none) (m_list : mg "list" = none) : FnOk P w K mg base (L2.CX P w) 2 f fd ["value"] (spG K mg 1 d_is_plain) := by
  obtain ⟨a_is_single, fd_is_single, F_is_single, m_is_single, k_is_single, b_is_single⟩ := G_is_single
  refine known F sc_is_plain (fun cdv A outer s H E C hr tk po => ?_)
  exact (js_cons (js_set (i := 1) sc_is_plain.nd rfl (.inl rfl) (je_lst (ja_cons (JE.v (je_var (pv 0))) (ja_nil))))
    (js_cons (js_while po (jt_tru (jp_var (pv 1))) (js_cons (js_set (i := 2) sc_is_plain.nd rfl (.inl rfl) (je_pop (pe_bm0 PySem.F.plainAttrs_list PySem.F.slot_list_pop PySem.F.type_list_pop mt_pop (pv 1))))
    (js_one (js_if (jt_tru (JE.p (je_isi kit_tuple bt_tuple m_isinstance m_tuple (jp_var (pv 2)) rfl rfl))) (js_one (js_ext (je_t1 cr_list m_list bt_list (jp_var (pv 2)) rfl) (fun h => ps_expr (pe_bm PySem.F.plainAttrs_list PySem.F.slot_list_extend PySem.F.type_list_extend mt_extend (pv 1) (pa_cons h pa_nil))))) (js_one (js_if (jt_not (jt_tru (JE.p (je_call F_is_single (hr.mono (by decide)) m_is_single k_is_single b_is_single tk (ja_cons (JE.v (je_var (pv 2))) (ja_nil)) rfl)))) (js_one (js_ret (je_bl))) (js_nil)))))))
    (js_one (js_ret (je_bl)))))
set_option maxHeartbeats 4000000 in
theorem ok_same_single {f : Addr} {fd : FuncData} (F : Fun K "same_single" "same_single" s_same_single f fd) (m_isinstance : mg "isinstance" = none) (m_str : mg "str" = none) (m_int : mg "int" = none) (m_bool : mg "bool" = none) : FnOk P w K mg base (L2.CX P w) 1 f fd ["first", "second"] (spG K mg 2 d_same_single) := by
  refine known F sc_same_single (fun cdv A outer s H E C hr tk po => ?_)
  exact (js_cons (js_if (JW.t (jw_or (jt_cmp od_is (JE.v (je_var (pv 0))) (JE.v (je_non)) (nomark _)) (jw_or1 (jt_cmp od_is (JE.v (je_var (pv 1))) (JE.v (je_non)) (nomark _))))) (js_one (js_ret (je_and (je_cmp od_is (JE.v (je_var (pv 0))) (JE.v (je_non)) (nomark _)) (je_one (je_cmp od_is (JE.v (je_var (pv 1))) (JE.v (je_non)) (nomark _)))))) (js_nil))
    (js_cons (js_if (JW.t (jw_or (jt_tru (JE.p (je_isi kit_bool bt_bool m_isinstance m_bool (jp_var (pv 0)) rfl rfl))) (jw_or1 (jt_tru (JE.p (je_isi kit_bool bt_bool m_isinstance m_bool (jp_var (pv 1)) rfl rfl)))))) (js_one (js_ret (je_and (je_isi kit_bool bt_bool m_isinstance m_bool (jp_var (pv 0)) rfl rfl) (je_and (je_isi kit_bool bt_bool m_isinstance m_bool (jp_var (pv 1)) rfl rfl) (je_one (je_cmp (od_eq hr.units) (JE.v (je_var (pv 0))) (JE.v (je_var (pv 1))) (nomark _))))))) (js_nil))
    (js_cons (js_if (JW.t (jw_or (jt_tru (JE.p (je_isi kit_int bt_int m_isinstance m_int (jp_var (pv 0)) rfl rfl))) (jw_or1 (jt_tru (JE.p (je_isi kit_int bt_int m_isinstance m_int (jp_var (pv 1)) rfl rfl)))))) (js_one (js_ret (je_and (je_isi kit_int bt_int m_isinstance m_int (jp_var (pv 0)) rfl rfl) (je_and (je_isi kit_int bt_int m_isinstance m_int (jp_var (pv 1)) rfl rfl) (je_one (je_cmp (od_eq hr.units) (JE.v (je_var (pv 0))) (JE.v (je_var (pv 1))) (nomark _))))))) (js_nil))
    (js_one (js_ret (je_and (je_isi kit_str bt_str m_isinstance m_str (jp_var (pv 0)) rfl rfl) (je_and (je_isi kit_str bt_str m_isinstance m_str (jp_var (pv 1)) rfl rfl) (je_one (je_cmp (od_eq hr.units) (JE.v (je_var (pv 0))) (JE.v (je_var (pv 1))) (nomark _))))))))))
set_option maxHeartbeats 4000000 in
theorem ok_same {f : Addr} {fd : FuncData} (F : Fun K "same" "same" s_same f fd) (G_same_single : Known P w K mg base "same_single" ["first", "second"] 1 d_same_single) (m_isinstance : mg "isinstance" = none) (m_tuple : mg "tuple" = none) (m_len : mg "len" = none) (m_range : mg "range" = none) : FnOk P w K mg base (L2.CX P w) 2 f fd ["first", "second"] (spG K mg 2 d_same) := by
  obtain ⟨a_same_single, fd_same_single, F_same_single, m_same_single, k_same_single, b_same_single⟩ := G_same_single
  refine known F sc_same (fun cdv A outer s H E C hr tk po => ?_)
  exact (js_cons (js_set (i := 2) sc_same.nd rfl (.inl rfl) (je_lst (ja_cons (JE.v (je_tup (ja_cons (JE.v (je_var (pv 0))) (ja_cons (JE.v (je_var (pv 1))) (ja_nil))))) (ja_nil))))
    (js_cons (js_while po (jt_tru (jp_var (pv 2))) (js_cons (js_asg (JE.v (je_pop (pe_bm0 PySem.F.plainAttrs_list PySem.F.slot_list_pop PySem.F.type_list_pop mt_pop (pv 2)))) (jg_tup rfl (jgs_cons (jg_name (i := 3) sc_same.nd rfl (.inl rfl)) (jgs_cons (jg_name (i := 4) sc_same.nd rfl (.inl rfl)) (jgs_nil)))))
    (js_one (js_if (JW.t (jw_or (jt_tru (JE.p (je_isi kit_tuple bt_tuple m_isinstance m_tuple (jp_var (pv 3)) rfl rfl))) (jw_or1 (jt_tru (JE.p (je_isi kit_tuple bt_tuple m_isinstance m_tuple (jp_var (pv 4)) rfl rfl)))))) (js_cons (js_if (JW.t (jw_or (jt_not (jt_tru (JE.p (je_isi kit_tuple bt_tuple m_isinstance m_tuple (jp_var (pv 3)) rfl rfl)))) (jw_or1 (jt_not (jt_tru (JE.p (je_isi kit_tuple bt_tuple m_isinstance m_tuple (jp_var (pv 4)) rfl rfl))))))) (js_one (js_ret (je_bl))) (js_nil))
    (js_cons (js_if (jt_cmp (od_ne hr.units) (JE.v (je_b1 cr_len m_len bt_len (jp_var (pv 3)) rfl)) (JE.v (je_b1 cr_len m_len bt_len (jp_var (pv 4)) rfl)) (nomark _)) (js_one (js_ret (je_bl))) (js_nil))
    (js_one (js_for po rfl (ji_rg1 m_range (JE.v (je_b1 cr_len m_len bt_len (jp_var (pv 3)) rfl)) rfl) (jg_name (i := 5) sc_same.nd rfl (.inl rfl)) (js_one (js_app (pv 2) (je_tup (ja_cons (JE.v (je_ixV (pv 3) (JE.v (je_var (pv 5))) (fun _ _ => rfl))) (ja_cons (JE.v (je_ixV (pv 4) (JE.v (je_var (pv 5))) (fun _ _ => rfl))) (ja_nil)))) (fun h => ps_expr (pe_bm PySem.F.plainAttrs_list PySem.F.slot_list_append PySem.F.type_list_append mt_append (pv 2) (pa_cons h pa_nil))))))))) (js_one (js_if (jt_not (jt_tru (JE.p (je_call F_same_single (hr.mono (by decide)) m_same_single k_same_single b_same_single tk (ja_cons (JE.v (je_var (pv 3))) (ja_cons (JE.v (je_var (pv 4))) (ja_nil))) rfl)))) (js_one (js_ret (je_bl))) (js_nil)))))))
    (js_one (js_ret (je_bl)))))
set_option maxHeartbeats 4000000 in
theorem ok_is_answer {f : Addr} {fd : FuncData} (F : Fun K "is_answer" "is_answer" s_is_answer f fd) (G_is_tuple_of : Known P w K mg base "is_tuple_of" ["value", "low", "high"] 1 d_is_tuple_of) (m_isinstance : mg "isinstance" = none) (m_str : mg "str" = none) : FnOk P w K mg base (L2.CX P w) 2 f fd ["value"] (spG K mg 1 d_is_answer) := by
  obtain ⟨a_is_tuple_of, fd_is_tuple_of, F_is_tuple_of, m_is_tuple_of, k_is_tuple_of, b_is_tuple_of⟩ := G_is_tuple_of
  refine known F sc_is_answer (fun cdv A outer s H E C hr tk po => ?_)
  exact (js_cons (js_if (JW.t (jw_or (jt_not (jt_tru (JE.p (je_call F_is_tuple_of (hr.mono (by decide)) m_is_tuple_of k_is_tuple_of b_is_tuple_of tk (ja_cons (JE.v (je_var (pv 0))) (ja_cons (JE.v (je_int)) (ja_cons (JE.v (je_int)) (ja_nil)))) rfl)))) (jw_or1 (jt_not (jt_tru (JE.p (je_isi kit_str bt_str m_isinstance m_str (JE.p (je_ixV (pv 0) (JE.v (je_int)) (fun _ _ => rfl))) rfl rfl))))))) (js_one (js_ret (je_bl))) (js_nil))
    (js_one (js_ret (je_or (je_cmp (od_eq hr.units) (JE.v (je_ixV (pv 0) (JE.v (je_int)) (fun _ _ => rfl))) (JE.v (je_str)) (nomark _)) (je_one (je_cmp (od_eq hr.units) (JE.v (je_ixV (pv 0) (JE.v (je_int)) (fun _ _ => rfl))) (JE.v (je_str)) (nomark _)))))))
set_option maxHeartbeats 4000000 in
theorem ok__law_cell {f : Addr} {fd : FuncData} (F : Fun K "_law_cell" "_law_cell" s__law_cell f fd) (m_len : mg "len" = none) (m_int : mg "int" = none) : FnOk P w K mg base (L2.CX P w) 1 f fd ["script", "k"] (spG K mg 2 d__law_cell) := by
  refine known F sc__law_cell (fun cdv A outer s H E C hr tk po => ?_)
  exact (js_cons (js_if (jt_cmp od_lt (JE.v (je_var (pv 1))) (JE.v (je_b1 cr_len m_len bt_len (jp_var (pv 0)) rfl)) (nomark _)) (js_one (js_ret (je_t1 cr_int m_int bt_int (JE.p (je_ixV (pv 0) (JE.v (je_var (pv 1))) (fun _ _ => rfl))) rfl))) (js_nil))
    (js_one (js_ret (je_int))))
set_option maxHeartbeats 4000000 in
theorem ok__law_draws {f : Addr} {fd : FuncData} (F : Fun K "_law_draws" "_law_draws" s__law_draws f fd) (G__law_cell : Known P w K mg base "_law_cell" ["script", "k"] 1 d__law_cell) (m_range : mg "range" = none) (m_int : mg "int" = none) (m_abs : mg "abs" = none) : FnOk P w K mg base (L2.CX P w) 2 f fd ["script", "k", "count"] (spG K mg 3 d__law_draws) := by
  obtain ⟨a__law_cell, fd__law_cell, F__law_cell, m__law_cell, k__law_cell, b__law_cell⟩ := G__law_cell
  refine known F sc__law_draws (fun cdv A outer s H E C hr tk po => ?_)
  exact (js_cons (js_set (i := 3) sc__law_draws.nd rfl (.inl rfl) (je_b1 cr_abs m_abs bt_abs (JE.p (je_call F__law_cell (hr.mono (by decide)) m__law_cell k__law_cell b__law_cell tk (ja_cons (JE.v (je_var (pv 0))) (ja_cons (JE.v (je_var (pv 1))) (ja_nil))) rfl)) rfl))
    (js_cons (js_set (i := 4) sc__law_draws.nd rfl (.inl rfl) (je_var (pv 3)))
    (js_cons (js_set (i := 5) sc__law_draws.nd rfl (.inl rfl) (je_lst (ja_nil)))
    (js_cons (js_for po rfl (ji_rg1 m_range (JE.v (je_var (pv 2))) rfl) (jg_name (i := 6) sc__law_draws.nd rfl (.inl rfl)) (js_one (js_if (JW.t (jw_and (jt_cmp od_ge (JE.v (je_var (pv 3))) (JE.v (je_op od_pow (JE.v (je_int)) (JE.v (je_int)))) (nomark _)) (jw_and1 (jt_cmp od_gt (JE.v (je_var (pv 4))) (JE.v (je_int)) (nomark _))))) (js_cons (js_app (pv 5) (je_op od_mod (JE.v (je_t1 cr_int m_int bt_int (jp_var (pv 4)) rfl)) (JE.v (je_int))) (fun h => ps_expr (pe_bm PySem.F.plainAttrs_list PySem.F.slot_list_append PySem.F.type_list_append mt_append (pv 5) (pa_cons h pa_nil))))
    (js_one (js_set (i := 4) sc__law_draws.nd rfl (.inl rfl) (je_op od_fdiv (JE.v (je_var (pv 4))) (JE.v (je_int)))))) (js_cons (js_set (i := 7) sc__law_draws.nd rfl (.inl rfl) (je_op od_mod (JE.v (je_t1 cr_int m_int bt_int (JE.p (je_op od_add (JE.v (je_op od_add (JE.v (je_op od_mul (JE.v (je_var (pv 3))) (JE.v (je_int)))) (JE.v (je_op od_mul (JE.v (je_op od_add (JE.v (je_var (pv 6))) (JE.v (je_int)))) (JE.v (je_int)))))) (JE.v (je_op od_mul (JE.v (je_op od_add (JE.v (je_var (pv 1))) (JE.v (je_int)))) (JE.v (je_int)))))) rfl)) (JE.v (je_int))))
    (js_cons (js_set (i := 7) sc__law_draws.nd rfl (.inl rfl) (je_op od_add (JE.v (je_op od_mul (JE.v (je_op od_add (JE.v (je_op od_mod (JE.v (je_t1 cr_int m_int bt_int (jp_var (pv 7)) rfl)) (JE.v (je_int)))) (JE.v (je_int)))) (JE.v (je_op od_add (JE.v (je_op od_fdiv (JE.v (je_var (pv 7))) (JE.v (je_int)))) (JE.v (je_int)))))) (JE.v (je_op od_mul (JE.v (je_var (pv 6))) (JE.v (je_int))))))
    (js_one (js_app (pv 5) (je_op od_mod (JE.v (je_t1 cr_int m_int bt_int (JE.p (je_op od_fdiv (JE.v (je_var (pv 7))) (JE.v (je_int)))) rfl)) (JE.v (je_int))) (fun h => ps_expr (pe_bm PySem.F.plainAttrs_list PySem.F.slot_list_append PySem.F.type_list_append mt_append (pv 5) (pa_cons h pa_nil))))))))))
    (js_one (js_ret (je_var (pv 5))))))))
set_option maxHeartbeats 4000000 in
theorem ok__law_is {f : Addr} {fd : FuncData} (F : Fun K "_law_is" "_law_is" s__law_is f fd) (m_isinstance : mg "isinstance" = none) (m_bool : mg "bool" = none) : FnOk P w K mg base (L2.CX P w) 1 f fd ["actual", "due"] (spG K mg 2 d__law_is) := by
  refine known F sc__law_is (fun cdv A outer s H E C hr tk po => ?_)
  exact (js_one (js_ret (je_and (je_isi kit_bool bt_bool m_isinstance m_bool (jp_var (pv 0)) rfl rfl) (je_one (je_cmp (od_eq hr.units) (JE.v (je_var (pv 0))) (JE.v (je_var (pv 1))) (nomark _))))))
set_option maxHeartbeats 4000000 in
theorem ok__law_names {f : Addr} {fd : FuncData} (F : Fun K "_law_names" "_law_names" s__law_names f fd) (m_tuple : mg "tuple" = none) (m_int : mg "int" = none) (m_range : mg "range" = none) (m_len : mg "len" = none) : FnOk P w K mg base (L2.CX P w) 1 f fd ["draws", "count"] (spG K mg 2 d__law_names) := by
  refine known F sc__law_names (fun cdv A outer s H E C hr tk po => ?_)
  exact (js_cons (js_set (i := 2) sc__law_names.nd rfl (.inl rfl) (je_str))
    (js_cons (js_set (i := 3) sc__law_names.nd rfl (.inl rfl) (je_str))
    (js_cons (js_set (i := 4) sc__law_names.nd rfl (.inl rfl) (je_lst (ja_nil)))
    (js_cons (js_for po rfl (ji_rg1 m_range (JE.v (je_var (pv 1))) rfl) (jg_name (i := 5) sc__law_names.nd rfl (.inl rfl)) (js_cons (js_set (i := 7) sc__law_names.nd rfl (.inl rfl) (je_t1 cr_int m_int bt_int (JE.p (je_ixV (pv 0) (JE.v (je_op od_mod (JE.v (je_t1 cr_int m_int bt_int (jp_var (pv 5)) rfl)) (JE.v (je_b1 cr_len m_len bt_len (jp_var (pv 0)) rfl)))) (fun _ _ => rfl))) rfl))
    (js_cons (js_set (i := 8) sc__law_names.nd rfl (.inl rfl) (je_op od_add (JE.v (je_op od_add (JE.v (je_ixV (pv 2) (JE.v (je_op od_mod (JE.v (je_t1 cr_int m_int bt_int (jp_var (pv 5)) rfl)) (JE.v (je_int)))) (fun _ _ => rfl))) (JE.v (je_ixV (pv 3) (JE.v (je_op od_fdiv (JE.v (je_var (pv 5))) (JE.v (je_int)))) (fun _ _ => rfl))))) (JE.v (je_sl (JE.v (je_str)) (jo_none) (jo_some (JE.v (je_op od_mod (JE.v (je_var (pv 7))) (JE.v (je_int)))))))))
    (js_cons (js_if (JW.t (jw_and (jt_cmp od_lt (JE.v (je_var (pv 5))) (JE.v (je_int)) (nomark _)) (jw_and1 (jt_cmp (od_eq hr.units) (JE.v (je_op od_mod (JE.v (je_op od_fdiv (JE.v (je_var (pv 7))) (JE.v (je_int)))) (JE.v (je_int)))) (JE.v (je_int)) (nomark _))))) (js_one (js_set (i := 8) sc__law_names.nd rfl (.inl rfl) (je_ixV (pv 2) (JE.v (je_var (pv 5))) (fun _ _ => rfl)))) (js_nil))
    (js_one (js_app (pv 4) (je_var (pv 8)) (fun h => ps_expr (pe_bm PySem.F.plainAttrs_list PySem.F.slot_list_append PySem.F.type_list_append mt_append (pv 4) (pa_cons h pa_nil)))))))))
    (js_cons (js_set (i := 6) sc__law_names.nd rfl (.inl rfl) (je_op od_mod (JE.v (je_t1 cr_int m_int bt_int (JE.p (je_ixV (pv 0) (JE.v (je_int)) (fun _ _ => rfl))) rfl)) (JE.v (je_op od_add (JE.v (je_var (pv 1))) (JE.v (je_int))))))
    (js_one (js_ret (je_t1 cr_tuple m_tuple bt_tuple (JE.p (je_op od_add (JE.v (je_slV (pv 4) (jo_some (JE.v (je_var (pv 6)))) (jo_none))) (JE.v (je_slV (pv 4) (jo_none) (jo_some (JE.v (je_var (pv 6)))))))) rfl))))))))
set_option maxHeartbeats 4000000 in
theorem ok__law_odd_name {f : Addr} {fd : FuncData} (F : Fun K "_law_odd_name" "_law_odd_name" s__law_odd_name f fd) (m_int : mg "int" = none) (m_len : mg "len" = none) : FnOk P w K mg base (L2.CX P w) 1 f fd ["names", "draw"] (spG K mg 2 d__law_odd_name) := by
  refine known F sc__law_odd_name (fun cdv A outer s H E C hr tk po => ?_)
  exact (js_cons (js_set (i := 2) sc__law_odd_name.nd rfl (.inl rfl) (je_lst (ja_cons (JE.v (je_str)) (ja_cons (JE.v (je_str)) (ja_cons (JE.v (je_str)) (ja_cons (JE.v (je_str)) (ja_cons (JE.v (je_str)) (ja_cons (JE.v (je_str)) (ja_cons (JE.v (je_str)) (ja_cons (JE.v (je_str)) (ja_cons (JE.v (je_str)) (ja_cons (JE.v (je_int)) (ja_cons (JE.v (je_non)) (ja_cons (JE.v (je_bl)) (ja_cons (JE.v (je_tup (ja_cons (JE.v (je_str)) (ja_nil)))) (ja_cons (JE.v (je_lst (ja_cons (JE.v (je_str)) (ja_nil)))) (ja_cons (JE.v (je_str)) (ja_cons (JE.v (je_str)) (ja_cons (JE.v (je_str)) (ja_nil))))))))))))))))))))
    (js_cons (js_if (JW.t (jw_and (jt_cmp od_gt (JE.v (je_b1 cr_len m_len bt_len (jp_var (pv 0)) rfl)) (JE.v (je_int)) (nomark _)) (jw_and1 (jt_cmp (od_eq hr.units) (JE.v (je_op od_mod (JE.v (je_t1 cr_int m_int bt_int (jp_var (pv 1)) rfl)) (JE.v (je_int)))) (JE.v (je_int)) (nomark _))))) (js_one (js_ret (je_non))) (js_nil))
    (js_one (js_ret (je_ixV (pv 2) (JE.v (je_op od_mod (JE.v (je_t1 cr_int m_int bt_int (JE.p (je_op od_fdiv (JE.v (je_var (pv 1))) (JE.v (je_int)))) rfl)) (JE.v (je_int)))) (fun _ _ => rfl))))))
set_option maxHeartbeats 4000000 in
theorem ok__law_held_names {f : Addr} {fd : FuncData} (F : Fun K "_law_held_names" "_law_held_names" s__law_held_names f fd) (G__law_is : Known P w K mg base "_law_is" ["actual", "due"] 1 d__law_is) (G_is_names : Known P w K mg base "is_names" ["value", "low", "high"] 2 d_is_names) (G_is_tuple_of : Known P w K mg base "is_tuple_of" ["value", "low", "high"] 1 d_is_tuple_of) (m_list : mg "list" = none) (m_len : mg "len" = none) : FnOk P w K mg base (L2.CX P w) 3 f fd ["names", "low", "high", "good"] (spG K mg 4 d__law_held_names) := by
  obtain ⟨a__law_is, fd__law_is, F__law_is, m__law_is, k__law_is, b__law_is⟩ := G__law_is
  obtain ⟨a_is_names, fd_is_names, F_is_names, m_is_names, k_is_names, b_is_names⟩ := G_is_names
  obtain ⟨a_is_tuple_of, fd_is_tuple_of, F_is_tuple_of, m_is_tuple_of, k_is_tuple_of, b_is_tuple_of⟩ := G_is_tuple_of
  refine known F sc__law_held_names (fun cdv A outer s H E C hr tk po => ?_)
  exact (js_cons (js_set (i := 4) sc__law_held_names.nd rfl (.inl rfl) (je_b1 cr_len m_len bt_len (jp_var (pv 0)) rfl))
    (js_cons (js_for po rfl (ji_any (JE.v (je_lst (ja_cons (JE.v (je_tup (ja_cons (JE.v (je_int)) (ja_cons (JE.v (je_int)) (ja_nil))))) (ja_cons (JE.v (je_tup (ja_cons (JE.v (je_var (pv 4))) (ja_cons (JE.v (je_var (pv 4))) (ja_nil))))) (ja_cons (JE.v (je_tup (ja_cons (JE.v (je_op od_add (JE.v (je_var (pv 4))) (JE.v (je_int)))) (ja_cons (JE.v (je_int)) (ja_nil))))) (ja_cons (JE.v (je_tup (ja_cons (JE.v (je_int)) (ja_cons (JE.v (je_op od_sub (JE.v (je_var (pv 4))) (JE.v (je_int)))) (ja_nil))))) (ja_cons (JE.v (je_tup (ja_cons (JE.v (je_var (pv 1))) (ja_cons (JE.v (je_var (pv 2))) (ja_nil))))) (ja_nil))))))))) (jg_tup rfl (jgs_cons (jg_name (i := 5) sc__law_held_names.nd rfl (.inl rfl)) (jgs_cons (jg_name (i := 6) sc__law_held_names.nd rfl (.inl rfl)) (jgs_nil)))) (js_cons (js_if (jt_not (jt_tru (JE.p (je_call F__law_is (hr.mono (by decide)) m__law_is k__law_is b__law_is tk (ja_cons (JE.v (je_call F_is_names (hr.mono (by decide)) m_is_names k_is_names b_is_names tk (ja_cons (JE.v (je_var (pv 0))) (ja_cons (JE.v (je_var (pv 5))) (ja_cons (JE.v (je_var (pv 6))) (ja_nil)))) rfl)) (ja_cons (JE.v (je_and (je_var (pv 3)) (je_one (je_chain od_le od_le (JE.v (je_var (pv 5))) (JE.v (je_var (pv 4))) (JE.v (je_var (pv 6))))))) (ja_nil))) rfl)))) (js_one (js_ret (je_bl))) (js_nil))
    (js_cons (js_if (jt_not (jt_tru (JE.p (je_call F__law_is (hr.mono (by decide)) m__law_is k__law_is b__law_is tk (ja_cons (JE.v (je_call F_is_tuple_of (hr.mono (by decide)) m_is_tuple_of k_is_tuple_of b_is_tuple_of tk (ja_cons (JE.v (je_var (pv 0))) (ja_cons (JE.v (je_var (pv 5))) (ja_cons (JE.v (je_var (pv 6))) (ja_nil)))) rfl)) (ja_cons (JE.v (je_chain od_le od_le (JE.v (je_var (pv 5))) (JE.v (je_var (pv 4))) (JE.v (je_var (pv 6))))) (ja_nil))) rfl)))) (js_one (js_ret (je_bl))) (js_nil))
    (js_one (js_if (JW.t (jw_or (jt_not (jt_tru (JE.p (je_call F__law_is (hr.mono (by decide)) m__law_is k__law_is b__law_is tk (ja_cons (JE.v (je_call F_is_names (hr.mono (by decide)) m_is_names k_is_names b_is_names tk (ja_cons (JE.v (je_t1 cr_list m_list bt_list (jp_var (pv 0)) rfl)) (ja_cons (JE.v (je_var (pv 5))) (ja_cons (JE.v (je_var (pv 6))) (ja_nil)))) rfl)) (ja_cons (JE.v (je_bl)) (ja_nil))) rfl)))) (jw_or1 (jt_not (jt_tru (JE.p (je_call F__law_is (hr.mono (by decide)) m__law_is k__law_is b__law_is tk (ja_cons (JE.v (je_call F_is_tuple_of (hr.mono (by decide)) m_is_tuple_of k_is_tuple_of b_is_tuple_of tk (ja_cons (JE.v (je_t1 cr_list m_list bt_list (jp_var (pv 0)) rfl)) (ja_cons (JE.v (je_var (pv 5))) (ja_cons (JE.v (je_var (pv 6))) (ja_nil)))) rfl)) (ja_cons (JE.v (je_bl)) (ja_nil))) rfl))))))) (js_one (js_ret (je_bl))) (js_nil))))))
    (js_one (js_ret (je_bl)))))
set_option maxHeartbeats 4000000 in
theorem ok__law_ask_names {f : Addr} {fd : FuncData} (F : Fun K "_law_ask_names" "_law_ask_names" s__law_ask_names f fd) (G__law_held_names : Known P w K mg base "_law_held_names" ["names", "low", "high", "good"] 3 d__law_held_names) (G__law_is : Known P w K mg base "_law_is" ["actual", "due"] 1 d__law_is) (G_is_name : Known P w K mg base "is_name" ["value"] 1 d_is_name) (G__law_odd_name : Known P w K mg base "_law_odd_name" ["names", "draw"] 1 d__law_odd_name) (G_same : Known P w K mg base "same" ["first", "second"] 2 d_same) (G_is_names : Known P w K mg base "is_names" ["value", "low", "high"] 2 d_is_names) (G__law_names : Known P w K mg base "_law_names" ["draws", "count"] 1 d__law_names) (m_int : mg "int" = none) (m_str : mg "str" = none) : FnOk P w K mg base (L2.CX P w) 4 f fd ["draws", "tail"] (spG K mg 2 d__law_ask_names) := by
  obtain ⟨a__law_held_names, fd__law_held_names, F__law_held_names, m__law_held_names, k__law_held_names, b__law_held_names⟩ := G__law_held_names
  obtain ⟨a__law_is, fd__law_is, F__law_is, m__law_is, k__law_is, b__law_is⟩ := G__law_is
  obtain ⟨a_is_name, fd_is_name, F_is_name, m_is_name, k_is_name, b_is_name⟩ := G_is_name
  obtain ⟨a__law_odd_name, fd__law_odd_name, F__law_odd_name, m__law_odd_name, k__law_odd_name, b__law_odd_name⟩ := G__law_odd_name
  obtain ⟨a_same, fd_same, F_same, m_same, k_same, b_same⟩ := G_same
  obtain ⟨a_is_names, fd_is_names, F_is_names, m_is_names, k_is_names, b_is_names⟩ := G_is_names
  obtain ⟨a__law_names, fd__law_names, F__law_names, m__law_names, k__law_names, b__law_names⟩ := G__law_names
  refine known F sc__law_ask_names (fun cdv A outer s H E C hr tk po => ?_)
  exact (js_cons (js_set (i := 2) sc__law_ask_names.nd rfl (.inl rfl) (je_op od_mod (JE.v (je_t1 cr_int m_int bt_int (JE.p (je_ixV (pv 0) (JE.v (je_int)) (fun _ _ => rfl))) rfl)) (JE.v (je_int))))
    (js_cons (js_if (jt_cmp (od_eq hr.units) (JE.v (je_op od_mod (JE.v (je_t1 cr_int m_int bt_int (JE.p (je_ixV (pv 0) (JE.v (je_int)) (fun _ _ => rfl))) rfl)) (JE.v (je_int)))) (JE.v (je_int)) (nomark _)) (js_one (js_set (i := 2) sc__law_ask_names.nd rfl (.inl rfl) (je_op od_mod (JE.v (je_t1 cr_int m_int bt_int (JE.p (je_ixV (pv 0) (JE.v (je_int)) (fun _ _ => rfl))) rfl)) (JE.v (je_int))))) (js_nil))
    (js_cons (js_set (i := 3) sc__law_ask_names.nd rfl (.inl rfl) (je_call F__law_names (hr.mono (by decide)) m__law_names k__law_names b__law_names tk (ja_cons (JE.v (je_var (pv 1))) (ja_cons (JE.v (je_var (pv 2))) (ja_nil))) rfl))
    (js_cons (js_set (i := 4) sc__law_ask_names.nd rfl (.inl rfl) (je_op od_mod (JE.v (je_t1 cr_int m_int bt_int (JE.p (je_ixV (pv 0) (JE.v (je_int)) (fun _ _ => rfl))) rfl)) (JE.v (je_int))))
    (js_cons (js_set (i := 5) sc__law_ask_names.nd rfl (.inl rfl) (je_op od_add (JE.v (je_var (pv 4))) (JE.v (je_op od_mod (JE.v (je_t1 cr_int m_int bt_int (JE.p (je_ixV (pv 0) (JE.v (je_int)) (fun _ _ => rfl))) rfl)) (JE.v (je_int))))))
    (js_cons (js_if (jt_not (jt_tru (JE.p (je_call F__law_held_names (hr.mono (by decide)) m__law_held_names k__law_held_names b__law_held_names tk (ja_cons (JE.v (je_var (pv 3))) (ja_cons (JE.v (je_var (pv 4))) (ja_cons (JE.v (je_var (pv 5))) (ja_cons (JE.v (je_bl)) (ja_nil))))) rfl)))) (js_one (js_ret (je_bl))) (js_nil))
    (js_cons (js_for po rfl (ji_any (JE.v (je_slV (pv 3) (jo_none) (jo_some (JE.v (je_int)))))) (jg_name (i := 6) sc__law_ask_names.nd rfl (.inl rfl)) (js_one (js_if (jt_not (jt_tru (JE.p (je_call F__law_is (hr.mono (by decide)) m__law_is k__law_is b__law_is tk (ja_cons (JE.v (je_call F_is_name (hr.mono (by decide)) m_is_name k_is_name b_is_name tk (ja_cons (JE.v (je_var (pv 6))) (ja_nil)) rfl)) (ja_cons (JE.v (je_bl)) (ja_nil))) rfl)))) (js_one (js_ret (je_bl))) (js_nil))))
    (js_cons (js_set (i := 7) sc__law_ask_names.nd rfl (.inl rfl) (je_op od_add (JE.v (je_str)) (JE.v (je_sl (JE.v (je_t1 cr_str m_str bt_str (JE.p (je_op od_add (JE.v (je_int)) (JE.v (je_t1 cr_int m_int bt_int (JE.p (je_ixV (pv 0) (JE.v (je_int)) (fun _ _ => rfl))) rfl)))) rfl)) (jo_some (JE.v (je_int))) (jo_none)))))
    (js_cons (js_if (JW.t (jw_or (jt_not (jt_tru (JE.p (je_call F__law_is (hr.mono (by decide)) m__law_is k__law_is b__law_is tk (ja_cons (JE.v (je_call F_is_names (hr.mono (by decide)) m_is_names k_is_names b_is_names tk (ja_cons (JE.v (je_tup (ja_cons (JE.v (je_op od_add (JE.v (je_var (pv 7))) (JE.v (je_str)))) (ja_cons (JE.v (je_op od_add (JE.v (je_var (pv 7))) (JE.v (je_str)))) (ja_nil))))) (ja_cons (JE.v (je_int)) (ja_cons (JE.v (je_int)) (ja_nil)))) rfl)) (ja_cons (JE.v (je_bl)) (ja_nil))) rfl)))) (jw_or1 (jt_not (jt_tru (JE.p (je_call F__law_is (hr.mono (by decide)) m__law_is k__law_is b__law_is tk (ja_cons (JE.v (je_call F_is_names (hr.mono (by decide)) m_is_names k_is_names b_is_names tk (ja_cons (JE.v (je_tup (ja_cons (JE.v (je_op od_add (JE.v (je_var (pv 7))) (JE.v (je_str)))) (ja_cons (JE.v (je_op od_add (JE.v (je_var (pv 7))) (JE.v (je_str)))) (ja_nil))))) (ja_cons (JE.v (je_int)) (ja_cons (JE.v (je_int)) (ja_nil)))) rfl)) (ja_cons (JE.v (je_bl)) (ja_nil))) rfl))))))) (js_one (js_ret (je_bl))) (js_nil))
    (js_cons (js_if (JW.t (jw_or (jt_not (jt_tru (JE.p (je_call F__law_is (hr.mono (by decide)) m__law_is k__law_is b__law_is tk (ja_cons (JE.v (je_call F_same (hr.mono (by decide)) m_same k_same b_same tk (ja_cons (JE.v (je_op od_add (JE.v (je_var (pv 7))) (JE.v (je_str)))) (ja_cons (JE.v (je_op od_add (JE.v (je_var (pv 7))) (JE.v (je_str)))) (ja_nil))) rfl)) (ja_cons (JE.v (je_bl)) (ja_nil))) rfl)))) (jw_or1 (jt_not (jt_tru (JE.p (je_call F__law_is (hr.mono (by decide)) m__law_is k__law_is b__law_is tk (ja_cons (JE.v (je_call F_is_name (hr.mono (by decide)) m_is_name k_is_name b_is_name tk (ja_cons (JE.v (je_op od_add (JE.v (je_var (pv 7))) (JE.v (je_str)))) (ja_nil)) rfl)) (ja_cons (JE.v (je_bl)) (ja_nil))) rfl))))))) (js_one (js_ret (je_bl))) (js_nil))
    (js_cons (js_if (jt_cmp (od_eq hr.units) (JE.v (je_var (pv 2))) (JE.v (je_int)) (nomark _)) (js_one (js_ret (je_bl))) (js_nil))
    (js_cons (js_set (i := 8) sc__law_ask_names.nd rfl (.inl rfl) (je_op od_mod (JE.v (je_t1 cr_int m_int bt_int (JE.p (je_ixV (pv 0) (JE.v (je_int)) (fun _ _ => rfl))) rfl)) (JE.v (je_var (pv 2)))))
    (js_cons (js_set (i := 9) sc__law_ask_names.nd rfl (.inl rfl) (je_call F__law_odd_name (hr.mono (by decide)) m__law_odd_name k__law_odd_name b__law_odd_name tk (ja_cons (JE.v (je_var (pv 3))) (ja_cons (JE.v (je_ixV (pv 0) (JE.v (je_int)) (fun _ _ => rfl))) (ja_nil))) rfl))
    (js_cons (js_if (JW.t (jw_and (jt_cmp od_is (JE.v (je_var (pv 9))) (JE.v (je_non)) (nomark _)) (jw_and (jt_cmp (od_eq hr.units) (JE.v (je_op od_mod (JE.v (je_t1 cr_int m_int bt_int (JE.p (je_ixV (pv 0) (JE.v (je_int)) (fun _ _ => rfl))) rfl)) (JE.v (je_int)))) (JE.v (je_int)) (nomark _)) (jw_and1 (jt_cmp od_gt (JE.v (je_var (pv 2))) (JE.v (je_int)) (nomark _)))))) (js_one (js_set (i := 9) sc__law_ask_names.nd rfl (.inl rfl) (je_ixV (pv 3) (JE.v (je_op od_mod (JE.v (je_t1 cr_int m_int bt_int (JE.p (je_op od_add (JE.v (je_op od_add (JE.v (je_var (pv 8))) (JE.v (je_int)))) (JE.v (je_op od_mod (JE.v (je_t1 cr_int m_int bt_int (JE.p (je_ixV (pv 0) (JE.v (je_int)) (fun _ _ => rfl))) rfl)) (JE.v (je_op od_sub (JE.v (je_var (pv 2))) (JE.v (je_int)))))))) rfl)) (JE.v (je_var (pv 2))))) (fun _ _ => rfl)))) (js_one (js_if (jt_not (jt_tru (JE.p (je_call F__law_is (hr.mono (by decide)) m__law_is k__law_is b__law_is tk (ja_cons (JE.v (je_call F_is_name (hr.mono (by decide)) m_is_name k_is_name b_is_name tk (ja_cons (JE.v (je_var (pv 9))) (ja_nil)) rfl)) (ja_cons (JE.v (je_bl)) (ja_nil))) rfl)))) (js_one (js_ret (je_bl))) (js_nil))))
    (js_one (js_ret (je_call F__law_held_names (hr.mono (by decide)) m__law_held_names k__law_held_names b__law_held_names tk (ja_cons (JE.v (je_op od_add (JE.v (je_op od_add (JE.v (je_slV (pv 3) (jo_none) (jo_some (JE.v (je_var (pv 8)))))) (JE.v (je_tup (ja_cons (JE.v (je_var (pv 9))) (ja_nil)))))) (JE.v (je_slV (pv 3) (jo_some (JE.v (je_op od_add (JE.v (je_var (pv 8))) (JE.v (je_int))))) (jo_none))))) (ja_cons (JE.v (je_var (pv 4))) (ja_cons (JE.v (je_var (pv 5))) (ja_cons (JE.v (je_bl)) (ja_nil))))) rfl)))))))))))))))))
set_option maxHeartbeats 4000000 in
theorem ok__law_ask_rising {f : Addr} {fd : FuncData} (F : Fun K "_law_ask_rising" "_law_ask_rising" s__law_ask_rising f fd) (G__law_is : Known P w K mg base "_law_is" ["actual", "due"] 1 d__law_is) (G_is_whole_in : Known P w K mg base "is_whole_in" ["value", "low", "high"] 2 d_is_whole_in) (G_is_whole : Known P w K mg base "is_whole" ["value"] 1 d_is_whole) (G_is_rising : Known P w K mg base "is_rising" ["value"] 2 d_is_rising) (m_str : mg "str" = none) (m_int : mg "int" = none) (m_tuple : mg "tuple" = none) (m_range : mg "range" = none) (m_len : mg "len" = none) : FnOk P w K mg base (L2.CX P w) 3 f fd ["draws", "tail"] (spG K mg 2 d__law_ask_rising) := by
  obtain ⟨a__law_is, fd__law_is, F__law_is, m__law_is, k__law_is, b__law_is⟩ := G__law_is
  obtain ⟨a_is_whole_in, fd_is_whole_in, F_is_whole_in, m_is_whole_in, k_is_whole_in, b_is_whole_in⟩ := G_is_whole_in
  obtain ⟨a_is_whole, fd_is_whole, F_is_whole, m_is_whole, k_is_whole, b_is_whole⟩ := G_is_whole
  obtain ⟨a_is_rising, fd_is_rising, F_is_rising, m_is_rising, k_is_rising, b_is_rising⟩ := G_is_rising
  refine known F sc__law_ask_rising (fun cdv A outer s H E C hr tk po => ?_)
  exact (js_cons (js_set (i := 2) sc__law_ask_rising.nd rfl (.inl rfl) (je_op od_mod (JE.v (je_t1 cr_int m_int bt_int (JE.p (je_ixV (pv 0) (JE.v (je_int)) (fun _ _ => rfl))) rfl)) (JE.v (je_int))))
    (js_cons (js_set (i := 3) sc__law_ask_rising.nd rfl (.inl rfl) (je_op od_mul (JE.v (je_op od_sub (JE.v (je_t1 cr_int m_int bt_int (JE.p (je_ixV (pv 0) (JE.v (je_int)) (fun _ _ => rfl))) rfl)) (JE.v (je_int)))) (JE.v (je_ix ix_d (JE.v (je_lst (ja_cons (JE.v (je_int)) (ja_cons (JE.v (je_op od_pow (JE.v (je_int)) (JE.v (je_int)))) (ja_nil))))) (JE.v (je_op od_mod (JE.v (je_t1 cr_int m_int bt_int (JE.p (je_ixV (pv 0) (JE.v (je_int)) (fun _ _ => rfl))) rfl)) (JE.v (je_int)))) (fun _ _ => rfl)))))
    (js_cons (js_set (i := 4) sc__law_ask_rising.nd rfl (.inl rfl) (je_lst (ja_nil)))
    (js_cons (js_for po rfl (ji_rg1 m_range (JE.v (je_var (pv 2))) rfl) (jg_name (i := 5) sc__law_ask_rising.nd rfl (.inl rfl)) (js_cons (js_set (i := 10) sc__law_ask_rising.nd rfl (.inl rfl) (je_t1 cr_int m_int bt_int (JE.p (je_ixV (pv 1) (JE.v (je_op od_mod (JE.v (je_t1 cr_int m_int bt_int (jp_var (pv 5)) rfl)) (JE.v (je_b1 cr_len m_len bt_len (jp_var (pv 1)) rfl)))) (fun _ _ => rfl))) rfl))
    (js_cons (js_set (i := 3) sc__law_ask_rising.nd rfl (.inl rfl) (je_op od_add (JE.v (je_op od_add (JE.v (je_var (pv 3))) (JE.v (je_int)))) (JE.v (je_op od_mul (JE.v (je_op od_fdiv (JE.v (je_var (pv 10))) (JE.v (je_int)))) (JE.v (je_ix ix_d (JE.v (je_lst (ja_cons (JE.v (je_int)) (ja_cons (JE.v (je_int)) (ja_cons (JE.v (je_int)) (ja_cons (JE.v (je_op od_pow (JE.v (je_int)) (JE.v (je_int)))) (ja_nil))))))) (JE.v (je_op od_mod (JE.v (je_var (pv 10))) (JE.v (je_int)))) (fun _ _ => rfl)))))))
    (js_one (js_app (pv 4) (je_var (pv 3)) (fun h => ps_expr (pe_bm PySem.F.plainAttrs_list PySem.F.slot_list_append PySem.F.type_list_append mt_append (pv 4) (pa_cons h pa_nil))))))))
    (js_cons (js_set (i := 6) sc__law_ask_rising.nd rfl (.inl rfl) (je_t1 cr_tuple m_tuple bt_tuple (jp_var (pv 4)) rfl))
    (js_cons (js_if (JW.t (jw_or (jt_not (jt_tru (JE.p (je_call F__law_is (hr.mono (by decide)) m__law_is k__law_is b__law_is tk (ja_cons (JE.v (je_call F_is_rising (hr.mono (by decide)) m_is_rising k_is_rising b_is_rising tk (ja_cons (JE.v (je_var (pv 6))) (ja_nil)) rfl)) (ja_cons (JE.v (je_bl)) (ja_nil))) rfl)))) (jw_or1 (jt_not (jt_tru (JE.p (je_call F__law_is (hr.mono (by decide)) m__law_is k__law_is b__law_is tk (ja_cons (JE.v (je_call F_is_rising (hr.mono (by decide)) m_is_rising k_is_rising b_is_rising tk (ja_cons (JE.v (je_var (pv 4))) (ja_nil)) rfl)) (ja_cons (JE.v (je_bl)) (ja_nil))) rfl))))))) (js_one (js_ret (je_bl))) (js_nil))
    (js_cons (js_if (jt_cmp od_lt (JE.v (je_var (pv 2))) (JE.v (je_int)) (nomark _)) (js_one (js_ret (je_bl))) (js_nil))
    (js_cons (js_set (i := 7) sc__law_ask_rising.nd rfl (.inl rfl) (je_op od_add (JE.v (je_int)) (JE.v (je_op od_mod (JE.v (je_t1 cr_int m_int bt_int (JE.p (je_ixV (pv 0) (JE.v (je_int)) (fun _ _ => rfl))) rfl)) (JE.v (je_op od_sub (JE.v (je_var (pv 2))) (JE.v (je_int))))))))
    (js_cons (js_for po rfl (ji_any (JE.v (je_lst (ja_cons (JE.v (je_ixV (pv 6) (JE.v (je_op od_sub (JE.v (je_var (pv 7))) (JE.v (je_int)))) (fun _ _ => rfl))) (ja_cons (JE.v (je_op od_sub (JE.v (je_ixV (pv 6) (JE.v (je_op od_sub (JE.v (je_var (pv 7))) (JE.v (je_int)))) (fun _ _ => rfl))) (JE.v (je_int)))) (ja_cons (JE.v (je_bl)) (ja_cons (JE.v (je_non)) (ja_cons (JE.v (je_t1 cr_str m_str bt_str (JE.p (je_ixV (pv 6) (JE.v (je_var (pv 7))) (fun _ _ => rfl))) rfl)) (ja_cons (JE.v (je_tup (ja_cons (JE.v (je_ixV (pv 6) (JE.v (je_var (pv 7))) (fun _ _ => rfl))) (ja_nil)))) (ja_cons (JE.v (je_lst (ja_cons (JE.v (je_ixV (pv 6) (JE.v (je_var (pv 7))) (fun _ _ => rfl))) (ja_nil)))) (ja_nil))))))))))) (jg_name (i := 8) sc__law_ask_rising.nd rfl (.inl rfl)) (js_one (js_if (jt_not (jt_tru (JE.p (je_call F__law_is (hr.mono (by decide)) m__law_is k__law_is b__law_is tk (ja_cons (JE.v (je_call F_is_rising (hr.mono (by decide)) m_is_rising k_is_rising b_is_rising tk (ja_cons (JE.v (je_op od_add (JE.v (je_op od_add (JE.v (je_slV (pv 6) (jo_none) (jo_some (JE.v (je_var (pv 7)))))) (JE.v (je_tup (ja_cons (JE.v (je_var (pv 8))) (ja_nil)))))) (JE.v (je_slV (pv 6) (jo_some (JE.v (je_op od_add (JE.v (je_var (pv 7))) (JE.v (je_int))))) (jo_none))))) (ja_nil)) rfl)) (ja_cons (JE.v (je_bl)) (ja_nil))) rfl)))) (js_one (js_ret (je_bl))) (js_nil))))
    (js_cons (js_for po rfl (ji_any (JE.v (je_lst (ja_cons (JE.v (je_ixV (pv 6) (JE.v (je_int)) (fun _ _ => rfl))) (ja_cons (JE.v (je_ixV (pv 6) (JE.v (je_un ud_neg (JE.v (je_int)))) (fun _ _ => rfl))) (ja_cons (JE.v (je_un ud_neg (JE.v (je_ixV (pv 6) (JE.v (je_un ud_neg (JE.v (je_int)))) (fun _ _ => rfl))))) (ja_cons (JE.v (je_int)) (ja_nil)))))))) (jg_name (i := 8) sc__law_ask_rising.nd rfl (.inl rfl)) (js_cons (js_set (i := 11) sc__law_ask_rising.nd rfl (.inl rfl) (je_chain od_le od_le (JE.v (je_ixV (pv 6) (JE.v (je_int)) (fun _ _ => rfl))) (JE.v (je_var (pv 8))) (JE.v (je_ixV (pv 6) (JE.v (je_un ud_neg (JE.v (je_int)))) (fun _ _ => rfl)))))
    (js_one (js_if (JW.t (jw_or (jt_not (jt_tru (JE.p (je_call F__law_is (hr.mono (by decide)) m__law_is k__law_is b__law_is tk (ja_cons (JE.v (je_call F_is_whole (hr.mono (by decide)) m_is_whole k_is_whole b_is_whole tk (ja_cons (JE.v (je_var (pv 8))) (ja_nil)) rfl)) (ja_cons (JE.v (je_bl)) (ja_nil))) rfl)))) (jw_or1 (jt_not (jt_tru (JE.p (je_call F__law_is (hr.mono (by decide)) m__law_is k__law_is b__law_is tk (ja_cons (JE.v (je_call F_is_whole_in (hr.mono (by decide)) m_is_whole_in k_is_whole_in b_is_whole_in tk (ja_cons (JE.v (je_var (pv 8))) (ja_cons (JE.v (je_ixV (pv 6) (JE.v (je_int)) (fun _ _ => rfl))) (ja_cons (JE.v (je_ixV (pv 6) (JE.v (je_un ud_neg (JE.v (je_int)))) (fun _ _ => rfl))) (ja_nil)))) rfl)) (ja_cons (JE.v (je_var (pv 11))) (ja_nil))) rfl))))))) (js_one (js_ret (je_bl))) (js_nil)))))
    (js_cons (js_set (i := 9) sc__law_ask_rising.nd rfl (.inl rfl) (je_lst (ja_cons (JE.v (je_tup (ja_cons (JE.v (je_op od_sub (JE.v (je_ixV (pv 6) (JE.v (je_int)) (fun _ _ => rfl))) (JE.v (je_int)))) (ja_cons (JE.v (je_bl)) (ja_nil))))) (ja_cons (JE.v (je_tup (ja_cons (JE.v (je_op od_add (JE.v (je_ixV (pv 6) (JE.v (je_un ud_neg (JE.v (je_int)))) (fun _ _ => rfl))) (JE.v (je_int)))) (ja_cons (JE.v (je_bl)) (ja_nil))))) (ja_cons (JE.v (je_tup (ja_cons (JE.v (je_bl)) (ja_cons (JE.v (je_bl)) (ja_nil))))) (ja_cons (JE.v (je_tup (ja_cons (JE.v (je_t1 cr_str m_str bt_str (JE.p (je_ixV (pv 6) (JE.v (je_int)) (fun _ _ => rfl))) rfl)) (ja_cons (JE.v (je_bl)) (ja_nil))))) (ja_cons (JE.v (je_tup (ja_cons (JE.v (je_non)) (ja_cons (JE.v (je_bl)) (ja_nil))))) (ja_nil))))))))
    (js_cons (js_for po rfl (ji_any (JE.v (je_var (pv 9)))) (jg_tup rfl (jgs_cons (jg_name (i := 8) sc__law_ask_rising.nd rfl (.inl rfl)) (jgs_cons (jg_name (i := 11) sc__law_ask_rising.nd rfl (.inl rfl)) (jgs_nil)))) (js_one (js_if (jt_not (jt_tru (JE.p (je_call F__law_is (hr.mono (by decide)) m__law_is k__law_is b__law_is tk (ja_cons (JE.v (je_call F_is_whole_in (hr.mono (by decide)) m_is_whole_in k_is_whole_in b_is_whole_in tk (ja_cons (JE.v (je_var (pv 8))) (ja_cons (JE.v (je_ixV (pv 6) (JE.v (je_int)) (fun _ _ => rfl))) (ja_cons (JE.v (je_ixV (pv 6) (JE.v (je_un ud_neg (JE.v (je_int)))) (fun _ _ => rfl))) (ja_nil)))) rfl)) (ja_cons (JE.v (je_var (pv 11))) (ja_nil))) rfl)))) (js_one (js_ret (je_bl))) (js_nil))))
    (js_one (js_ret (je_bl)))))))))))))))
set_option maxHeartbeats 4000000 in
theorem ok__law_leaf {f : Addr} {fd : FuncData} (F : Fun K "_law_leaf" "_law_leaf" s__law_leaf f fd) (m_int : mg "int" = none) : FnOk P w K mg base (L2.CX P w) 1 f fd ["draw"] (spG K mg 1 d__law_leaf) := by
  refine known F sc__law_leaf (fun cdv A outer s H E C hr tk po => ?_)
  exact (js_one (js_ret (je_ix ix_d (JE.v (je_lst (ja_cons (JE.v (je_int)) (ja_cons (JE.v (je_int)) (ja_cons (JE.v (je_un ud_neg (JE.v (je_int)))) (ja_cons (JE.v (je_bl)) (ja_cons (JE.v (je_bl)) (ja_cons (JE.v (je_non)) (ja_cons (JE.v (je_str)) (ja_cons (JE.v (je_str)) (ja_cons (JE.v (je_str)) (ja_cons (JE.v (je_op od_pow (JE.v (je_int)) (JE.v (je_int)))) (ja_cons (JE.v (je_tup (ja_nil))) (ja_cons (JE.v (je_tup (ja_cons (JE.v (je_int)) (ja_cons (JE.v (je_str)) (ja_nil))))) (ja_nil))))))))))))))) (JE.v (je_op od_mod (JE.v (je_t1 cr_int m_int bt_int (jp_var (pv 0)) rfl)) (JE.v (je_int)))) (fun _ _ => rfl))))
set_option maxHeartbeats 4000000 in
theorem ok__law_tree {f : Addr} {fd : FuncData} (F : Fun K "_law_tree" "_law_tree" s__law_tree f fd) (G__law_leaf : Known P w K mg base "_law_leaf" ["draw"] 1 d__law_leaf) (m_range : mg "range" = none) (m_int : mg "int" = none) (m_len : mg "len" = none) : FnOk P w K mg base (L2.CX P w) 2 f fd ["depth", "tail", "spot", "leaf"] (spG K mg 4 d__law_tree) := by
  obtain ⟨a__law_leaf, fd__law_leaf, F__law_leaf, m__law_leaf, k__law_leaf, b__law_leaf⟩ := G__law_leaf
  refine known F sc__law_tree (fun cdv A outer s H E C hr tk po => ?_)
  exact (js_cons (js_set (i := 4) sc__law_tree.nd rfl (.inl rfl) (je_var (pv 3)))
    (js_cons (js_if (jt_cmp (od_ne hr.units) (JE.v (je_var (pv 2))) (JE.v (je_int)) (nomark _)) (js_one (js_set (i := 4) sc__law_tree.nd rfl (.inl rfl) (je_call F__law_leaf (hr.mono (by decide)) m__law_leaf k__law_leaf b__law_leaf tk (ja_cons (JE.v (je_ixV (pv 1) (JE.v (je_int)) (fun _ _ => rfl))) (ja_nil)) rfl))) (js_nil))
    (js_cons (js_for po rfl (ji_rg2 m_range (ja_cons (JE.v (je_int)) (ja_cons (JE.v (je_op od_add (JE.v (je_var (pv 0))) (JE.v (je_int)))) (ja_nil))) rfl) (jg_name (i := 5) sc__law_tree.nd rfl (.inl rfl)) (js_cons (js_set (i := 6) sc__law_tree.nd rfl (.inl rfl) (je_t1 cr_int m_int bt_int (JE.p (je_ixV (pv 1) (JE.v (je_op od_mod (JE.v (je_t1 cr_int m_int bt_int (jp_var (pv 5)) rfl)) (JE.v (je_b1 cr_len m_len bt_len (jp_var (pv 1)) rfl)))) (fun _ _ => rfl))) rfl))
    (js_cons (js_set (i := 7) sc__law_tree.nd rfl (.inl rfl) (je_call F__law_leaf (hr.mono (by decide)) m__law_leaf k__law_leaf b__law_leaf tk (ja_cons (JE.v (je_var (pv 6))) (ja_nil)) rfl))
    (js_cons (js_if (jt_cmp (od_eq hr.units) (JE.v (je_var (pv 5))) (JE.v (je_var (pv 2))) (nomark _)) (js_one (js_set (i := 7) sc__law_tree.nd rfl (.inl rfl) (je_var (pv 3)))) (js_nil))
    (js_one (js_set (i := 4) sc__law_tree.nd rfl (.inl rfl) (je_ix ix_d (JE.v (je_lst (ja_cons (JE.v (je_tup (ja_cons (JE.v (je_var (pv 4))) (ja_cons (JE.v (je_var (pv 7))) (ja_nil))))) (ja_cons (JE.v (je_tup (ja_cons (JE.v (je_var (pv 7))) (ja_cons (JE.v (je_var (pv 4))) (ja_nil))))) (ja_cons (JE.v (je_tup (ja_cons (JE.v (je_var (pv 7))) (ja_cons (JE.v (je_var (pv 4))) (ja_cons (JE.v (je_var (pv 7))) (ja_nil)))))) (ja_nil)))))) (JE.v (je_op od_mod (JE.v (je_op od_fdiv (JE.v (je_var (pv 6))) (JE.v (je_int)))) (JE.v (je_int)))) (fun _ _ => rfl))))))))
    (js_one (js_ret (je_var (pv 4)))))))
set_option maxHeartbeats 4000000 in
theorem ok__law_ask_trees {f : Addr} {fd : FuncData} (F : Fun K "_law_ask_trees" "_law_ask_trees" s__law_ask_trees f fd) (G__law_is : Known P w K mg base "_law_is" ["actual", "due"] 1 d__law_is) (G_is_answer : Known P w K mg base "is_answer" ["value"] 2 d_is_answer) (G_is_plain : Known P w K mg base "is_plain" ["value"] 2 d_is_plain) (G_same : Known P w K mg base "same" ["first", "second"] 2 d_same) (G__law_tree : Known P w K mg base "_law_tree" ["depth", "tail", "spot", "leaf"] 2 d__law_tree) (m_int : mg "int" = none) : FnOk P w K mg base (L2.CX P w) 3 f fd ["draws", "tail"] (spG K mg 2 d__law_ask_trees) := by
  obtain ⟨a__law_is, fd__law_is, F__law_is, m__law_is, k__law_is, b__law_is⟩ := G__law_is
  obtain ⟨a_is_answer, fd_is_answer, F_is_answer, m_is_answer, k_is_answer, b_is_answer⟩ := G_is_answer
  obtain ⟨a_is_plain, fd_is_plain, F_is_plain, m_is_plain, k_is_plain, b_is_plain⟩ := G_is_plain
  obtain ⟨a_same, fd_same, F_same, m_same, k_same, b_same⟩ := G_same
  obtain ⟨a__law_tree, fd__law_tree, F__law_tree, m__law_tree, k__law_tree, b__law_tree⟩ := G__law_tree
  refine known F sc__law_ask_trees (fun cdv A outer s H E C hr tk po => ?_)
  exact (js_cons (js_set (i := 2) sc__law_ask_trees.nd rfl (.inl rfl) (je_op od_add (JE.v (je_int)) (JE.v (je_op od_mod (JE.v (je_t1 cr_int m_int bt_int (JE.p (je_ixV (pv 0) (JE.v (je_int)) (fun _ _ => rfl))) rfl)) (JE.v (je_int))))))
    (js_cons (js_set (i := 3) sc__law_ask_trees.nd rfl (.inl rfl) (je_op od_mod (JE.v (je_t1 cr_int m_int bt_int (JE.p (je_ixV (pv 0) (JE.v (je_int)) (fun _ _ => rfl))) rfl)) (JE.v (je_op od_add (JE.v (je_var (pv 2))) (JE.v (je_int))))))
    (js_cons (js_set (i := 4) sc__law_ask_trees.nd rfl (.inl rfl) (je_lst (ja_cons (JE.v (je_tup (ja_cons (JE.v (je_int)) (ja_cons (JE.v (je_bl)) (ja_nil))))) (ja_cons (JE.v (je_tup (ja_cons (JE.v (je_int)) (ja_cons (JE.v (je_bl)) (ja_nil))))) (ja_cons (JE.v (je_tup (ja_cons (JE.v (je_str)) (ja_cons (JE.v (je_tup (ja_nil))) (ja_nil))))) (ja_cons (JE.v (je_tup (ja_cons (JE.v (je_non)) (ja_cons (JE.v (je_int)) (ja_nil))))) (ja_cons (JE.v (je_tup (ja_cons (JE.v (je_str)) (ja_cons (JE.v (je_str)) (ja_nil))))) (ja_cons (JE.v (je_tup (ja_cons (JE.v (je_tup (ja_cons (JE.v (je_int)) (ja_nil)))) (ja_cons (JE.v (je_tup (ja_cons (JE.v (je_int)) (ja_cons (JE.v (je_int)) (ja_nil))))) (ja_nil))))) (ja_cons (JE.v (je_tup (ja_cons (JE.v (je_bl)) (ja_cons (JE.v (je_non)) (ja_nil))))) (ja_cons (JE.v (je_tup (ja_cons (JE.v (je_str)) (ja_cons (JE.v (je_int)) (ja_nil))))) (ja_cons (JE.v (je_tup (ja_cons (JE.v (je_un ud_neg (JE.v (je_int)))) (ja_cons (JE.v (je_int)) (ja_nil))))) (ja_cons (JE.v (je_tup (ja_cons (JE.v (je_op od_pow (JE.v (je_int)) (JE.v (je_int)))) (ja_cons (JE.v (je_op od_add (JE.v (je_op od_pow (JE.v (je_int)) (JE.v (je_int)))) (JE.v (je_int)))) (ja_nil))))) (ja_cons (JE.v (je_tup (ja_cons (JE.v (je_tup (ja_nil))) (ja_cons (JE.v (je_non)) (ja_nil))))) (ja_nil))))))))))))))
    (js_cons (js_asg (JE.v (je_ixV (pv 4) (JE.v (je_op od_mod (JE.v (je_t1 cr_int m_int bt_int (JE.p (je_ixV (pv 0) (JE.v (je_int)) (fun _ _ => rfl))) rfl)) (JE.v (je_int)))) (fun _ _ => rfl))) (jg_tup rfl (jgs_cons (jg_name (i := 9) sc__law_ask_trees.nd rfl (.inl rfl)) (jgs_cons (jg_name (i := 10) sc__law_ask_trees.nd rfl (.inl rfl)) (jgs_nil)))))
    (js_cons (js_set (i := 5) sc__law_ask_trees.nd rfl (.inl rfl) (je_call F__law_tree (hr.mono (by decide)) m__law_tree k__law_tree b__law_tree tk (ja_cons (JE.v (je_var (pv 2))) (ja_cons (JE.v (je_var (pv 1))) (ja_cons (JE.v (je_var (pv 3))) (ja_cons (JE.v (je_var (pv 9))) (ja_nil))))) rfl))
    (js_cons (js_set (i := 6) sc__law_ask_trees.nd rfl (.inl rfl) (je_call F__law_tree (hr.mono (by decide)) m__law_tree k__law_tree b__law_tree tk (ja_cons (JE.v (je_var (pv 2))) (ja_cons (JE.v (je_var (pv 1))) (ja_cons (JE.v (je_var (pv 3))) (ja_cons (JE.v (je_var (pv 9))) (ja_nil))))) rfl))
    (js_cons (js_set (i := 7) sc__law_ask_trees.nd rfl (.inl rfl) (je_call F__law_tree (hr.mono (by decide)) m__law_tree k__law_tree b__law_tree tk (ja_cons (JE.v (je_var (pv 2))) (ja_cons (JE.v (je_var (pv 1))) (ja_cons (JE.v (je_var (pv 3))) (ja_cons (JE.v (je_var (pv 10))) (ja_nil))))) rfl))
    (js_cons (js_if (JW.t (jw_or (jt_not (jt_tru (JE.p (je_call F__law_is (hr.mono (by decide)) m__law_is k__law_is b__law_is tk (ja_cons (JE.v (je_call F_same (hr.mono (by decide)) m_same k_same b_same tk (ja_cons (JE.v (je_var (pv 5))) (ja_cons (JE.v (je_var (pv 6))) (ja_nil))) rfl)) (ja_cons (JE.v (je_bl)) (ja_nil))) rfl)))) (jw_or1 (jt_not (jt_tru (JE.p (je_call F__law_is (hr.mono (by decide)) m__law_is k__law_is b__law_is tk (ja_cons (JE.v (je_call F_same (hr.mono (by decide)) m_same k_same b_same tk (ja_cons (JE.v (je_var (pv 6))) (ja_cons (JE.v (je_var (pv 5))) (ja_nil))) rfl)) (ja_cons (JE.v (je_bl)) (ja_nil))) rfl))))))) (js_one (js_ret (je_bl))) (js_nil))
    (js_cons (js_if (JW.t (jw_or (jt_not (jt_tru (JE.p (je_call F__law_is (hr.mono (by decide)) m__law_is k__law_is b__law_is tk (ja_cons (JE.v (je_call F_same (hr.mono (by decide)) m_same k_same b_same tk (ja_cons (JE.v (je_var (pv 5))) (ja_cons (JE.v (je_var (pv 7))) (ja_nil))) rfl)) (ja_cons (JE.v (je_bl)) (ja_nil))) rfl)))) (jw_or1 (jt_not (jt_tru (JE.p (je_call F__law_is (hr.mono (by decide)) m__law_is k__law_is b__law_is tk (ja_cons (JE.v (je_call F_same (hr.mono (by decide)) m_same k_same b_same tk (ja_cons (JE.v (je_var (pv 7))) (ja_cons (JE.v (je_var (pv 5))) (ja_nil))) rfl)) (ja_cons (JE.v (je_bl)) (ja_nil))) rfl))))))) (js_one (js_ret (je_bl))) (js_nil))
    (js_cons (js_for po rfl (ji_any (JE.v (je_lst (ja_cons (JE.v (je_lst (ja_nil))) (ja_cons (JE.v (je_lst (ja_cons (JE.v (je_int)) (ja_nil)))) (ja_cons (JE.v (je_dic0)) (ja_nil))))))) (jg_name (i := 8) sc__law_ask_trees.nd rfl (.inl rfl)) (js_cons (js_set (i := 11) sc__law_ask_trees.nd rfl (.inl rfl) (je_call F__law_tree (hr.mono (by decide)) m__law_tree k__law_tree b__law_tree tk (ja_cons (JE.v (je_var (pv 2))) (ja_cons (JE.v (je_var (pv 1))) (ja_cons (JE.v (je_var (pv 3))) (ja_cons (JE.v (je_var (pv 8))) (ja_nil))))) rfl))
    (js_one (js_if (JW.t (jw_or (jt_not (jt_tru (JE.p (je_call F__law_is (hr.mono (by decide)) m__law_is k__law_is b__law_is tk (ja_cons (JE.v (je_call F_is_plain (hr.mono (by decide)) m_is_plain k_is_plain b_is_plain tk (ja_cons (JE.v (je_var (pv 11))) (ja_nil)) rfl)) (ja_cons (JE.v (je_bl)) (ja_nil))) rfl)))) (jw_or (jt_not (jt_tru (JE.p (je_call F__law_is (hr.mono (by decide)) m__law_is k__law_is b__law_is tk (ja_cons (JE.v (je_call F_same (hr.mono (by decide)) m_same k_same b_same tk (ja_cons (JE.v (je_var (pv 11))) (ja_cons (JE.v (je_var (pv 11))) (ja_nil))) rfl)) (ja_cons (JE.v (je_bl)) (ja_nil))) rfl)))) (jw_or1 (jt_not (jt_tru (JE.p (je_call F__law_is (hr.mono (by decide)) m__law_is k__law_is b__law_is tk (ja_cons (JE.v (je_call F_same (hr.mono (by decide)) m_same k_same b_same tk (ja_cons (JE.v (je_var (pv 5))) (ja_cons (JE.v (je_var (pv 11))) (ja_nil))) rfl)) (ja_cons (JE.v (je_bl)) (ja_nil))) rfl)))))))) (js_one (js_ret (je_bl))) (js_nil)))))
    (js_cons (js_for po rfl (ji_any (JE.v (je_lst (ja_cons (JE.v (je_tup (ja_cons (JE.v (je_var (pv 5))) (ja_cons (JE.v (je_bl)) (ja_nil))))) (ja_cons (JE.v (je_tup (ja_cons (JE.v (je_var (pv 7))) (ja_cons (JE.v (je_bl)) (ja_nil))))) (ja_cons (JE.v (je_tup (ja_cons (JE.v (je_lst (ja_cons (JE.v (je_var (pv 5))) (ja_nil)))) (ja_cons (JE.v (je_bl)) (ja_nil))))) (ja_nil))))))) (jg_tup rfl (jgs_cons (jg_name (i := 12) sc__law_ask_trees.nd rfl (.inl rfl)) (jgs_cons (jg_name (i := 13) sc__law_ask_trees.nd rfl (.inl rfl)) (jgs_nil)))) (js_one (js_if (jt_not (jt_tru (JE.p (je_call F__law_is (hr.mono (by decide)) m__law_is k__law_is b__law_is tk (ja_cons (JE.v (je_call F_is_plain (hr.mono (by decide)) m_is_plain k_is_plain b_is_plain tk (ja_cons (JE.v (je_var (pv 12))) (ja_nil)) rfl)) (ja_cons (JE.v (je_var (pv 13))) (ja_nil))) rfl)))) (js_one (js_ret (je_bl))) (js_nil))))
    (js_cons (js_for po rfl (ji_any (JE.v (je_lst (ja_cons (JE.v (je_tup (ja_cons (JE.v (je_tup (ja_cons (JE.v (je_str)) (ja_cons (JE.v (je_var (pv 5))) (ja_nil))))) (ja_cons (JE.v (je_bl)) (ja_nil))))) (ja_cons (JE.v (je_tup (ja_cons (JE.v (je_tup (ja_cons (JE.v (je_str)) (ja_cons (JE.v (je_var (pv 7))) (ja_nil))))) (ja_cons (JE.v (je_bl)) (ja_nil))))) (ja_cons (JE.v (je_tup (ja_cons (JE.v (je_tup (ja_cons (JE.v (je_str)) (ja_cons (JE.v (je_var (pv 5))) (ja_nil))))) (ja_cons (JE.v (je_bl)) (ja_nil))))) (ja_cons (JE.v (je_tup (ja_cons (JE.v (je_tup (ja_cons (JE.v (je_str)) (ja_cons (JE.v (je_var (pv 5))) (ja_cons (JE.v (je_var (pv 5))) (ja_nil)))))) (ja_cons (JE.v (je_bl)) (ja_nil))))) (ja_cons (JE.v (je_tup (ja_cons (JE.v (je_lst (ja_cons (JE.v (je_str)) (ja_cons (JE.v (je_var (pv 5))) (ja_nil))))) (ja_cons (JE.v (je_bl)) (ja_nil))))) (ja_nil))))))))) (jg_tup rfl (jgs_cons (jg_name (i := 12) sc__law_ask_trees.nd rfl (.inl rfl)) (jgs_cons (jg_name (i := 13) sc__law_ask_trees.nd rfl (.inl rfl)) (jgs_nil)))) (js_one (js_if (jt_not (jt_tru (JE.p (je_call F__law_is (hr.mono (by decide)) m__law_is k__law_is b__law_is tk (ja_cons (JE.v (je_call F_is_answer (hr.mono (by decide)) m_is_answer k_is_answer b_is_answer tk (ja_cons (JE.v (je_var (pv 12))) (ja_nil)) rfl)) (ja_cons (JE.v (je_var (pv 13))) (ja_nil))) rfl)))) (js_one (js_ret (je_bl))) (js_nil))))
    (js_one (js_ret (je_call F__law_is (hr.mono (by decide)) m__law_is k__law_is b__law_is tk (ja_cons (JE.v (je_call F_is_answer (hr.mono (by decide)) m_is_answer k_is_answer b_is_answer tk (ja_cons (JE.v (je_tup (ja_cons (JE.v (je_var (pv 5))) (ja_cons (JE.v (je_str)) (ja_nil))))) (ja_nil)) rfl)) (ja_cons (JE.v (je_bl)) (ja_nil))) rfl)))))))))))))))
set_option maxHeartbeats 4000000 in
theorem ok_law {f : Addr} {fd : FuncData} (F : Fun K "law" "law" s_law f fd) (G__law_ask_trees : Known P w K mg base "_law_ask_trees" ["draws", "tail"] 3 d__law_ask_trees) (G__law_draws : Known P w K mg base "_law_draws" ["script", "k", "count"] 2 d__law_draws) (G__law_ask_names : Known P w K mg base "_law_ask_names" ["draws", "tail"] 4 d__law_ask_names) (G__law_ask_rising : Known P w K mg base "_law_ask_rising" ["draws", "tail"] 3 d__law_ask_rising) : FnOk P w K mg base (L2.CX P w) 5 f fd ["script"] (spG K mg 1 d_law) := by
  obtain ⟨a__law_ask_trees, fd__law_ask_trees, F__law_ask_trees, m__law_ask_trees, k__law_ask_trees, b__law_ask_trees⟩ := G__law_ask_trees
  obtain ⟨a__law_draws, fd__law_draws, F__law_draws, m__law_draws, k__law_draws, b__law_draws⟩ := G__law_draws
  obtain ⟨a__law_ask_names, fd__law_ask_names, F__law_ask_names, m__law_ask_names, k__law_ask_names, b__law_ask_names⟩ := G__law_ask_names
  obtain ⟨a__law_ask_rising, fd__law_ask_rising, F__law_ask_rising, m__law_ask_rising, k__law_ask_rising, b__law_ask_rising⟩ := G__law_ask_rising
  refine known F sc_law (fun cdv A outer s H E C hr tk po => ?_)
  exact (js_cons (js_set (i := 1) sc_law.nd rfl (.inl rfl) (je_call F__law_draws (hr.mono (by decide)) m__law_draws k__law_draws b__law_draws tk (ja_cons (JE.v (je_var (pv 0))) (ja_cons (JE.v (je_int)) (ja_cons (JE.v (je_int)) (ja_nil)))) rfl))
    (js_cons (js_if (jt_not (jt_tru (JE.p (je_call F__law_ask_names (hr.mono (by decide)) m__law_ask_names k__law_ask_names b__law_ask_names tk (ja_cons (JE.v (je_slV (pv 1) (jo_some (JE.v (je_int))) (jo_some (JE.v (je_int))))) (ja_cons (JE.v (je_call F__law_draws (hr.mono (by decide)) m__law_draws k__law_draws b__law_draws tk (ja_cons (JE.v (je_var (pv 0))) (ja_cons (JE.v (je_int)) (ja_cons (JE.v (je_int)) (ja_nil)))) rfl)) (ja_nil))) rfl)))) (js_one (js_ret (je_bl))) (js_nil))
    (js_cons (js_if (jt_not (jt_tru (JE.p (je_call F__law_ask_rising (hr.mono (by decide)) m__law_ask_rising k__law_ask_rising b__law_ask_rising tk (ja_cons (JE.v (je_slV (pv 1) (jo_some (JE.v (je_int))) (jo_some (JE.v (je_int))))) (ja_cons (JE.v (je_call F__law_draws (hr.mono (by decide)) m__law_draws k__law_draws b__law_draws tk (ja_cons (JE.v (je_var (pv 0))) (ja_cons (JE.v (je_int)) (ja_cons (JE.v (je_int)) (ja_nil)))) rfl)) (ja_nil))) rfl)))) (js_one (js_ret (je_bl))) (js_nil))
    (js_one (js_ret (je_and (je_call F__law_ask_trees (hr.mono (by decide)) m__law_ask_trees k__law_ask_trees b__law_ask_trees tk (ja_cons (JE.v (je_slV (pv 1) (jo_some (JE.v (je_int))) (jo_some (JE.v (je_int))))) (ja_cons (JE.v (je_call F__law_draws (hr.mono (by decide)) m__law_draws k__law_draws b__law_draws tk (ja_cons (JE.v (je_var (pv 0))) (ja_cons (JE.v (je_int)) (ja_cons (JE.v (je_int)) (ja_nil)))) rfl)) (ja_nil))) rfl) (je_one (je_call F__law_ask_names (hr.mono (by decide)) m__law_ask_names k__law_ask_names b__law_ask_names tk (ja_cons (JE.v (je_slV (pv 1) (jo_some (JE.v (je_int))) (jo_some (JE.v (je_int))))) (ja_cons (JE.v (je_call F__law_draws (hr.mono (by decide)) m__law_draws k__law_draws b__law_draws tk (ja_cons (JE.v (je_var (pv 0))) (ja_cons (JE.v (je_int)) (ja_cons (JE.v (je_int)) (ja_nil)))) rfl)) (ja_nil))) rfl))))))))
end
set_option maxHeartbeats 4000000 in
theorem all_mk (hp : ∀ ns : List Int, ns.length ≤ 63 → ∃ ρ, d_law [.val (script ns)] = .ok (.val (.bool true)) ρ) {l : PySem.W.OpenLaw} {w : World} {K : PySem.W.Frag} {h : Heap} {mg : Str → Option Value} {fa : Addr} (X : K.In h) (G : h.Ns mainGlobals mg) (hfa : mg "law" = some (.ref fa))
    {f0 : Addr} {od0 an0 : Option Addr} {sl0 : Array (Option Value)} {oc0 kV0 dc0 pm0 cd0 ct0 : Value}
    {f1 : Addr} {od1 an1 : Option Addr} {sl1 : Array (Option Value)} {oc1 kV1 dc1 pm1 cd1 ct1 : Value}
    {f2 : Addr} {od2 an2 : Option Addr} {sl2 : Array (Option Value)} {oc2 kV2 dc2 pm2 cd2 ct2 : Value}
    {f3 : Addr} {od3 an3 : Option Addr} {sl3 : Array (Option Value)} {oc3 kV3 dc3 pm3 cd3 ct3 : Value}
    {f4 : Addr} {od4 an4 : Option Addr} {sl4 : Array (Option Value)} {oc4 kV4 dc4 pm4 cd4 ct4 : Value}
    {f5 : Addr} {od5 an5 : Option Addr} {sl5 : Array (Option Value)} {oc5 kV5 dc5 pm5 cd5 ct5 : Value}
    {f6 : Addr} {od6 an6 : Option Addr} {sl6 : Array (Option Value)} {oc6 kV6 dc6 pm6 cd6 ct6 : Value}
    {f7 : Addr} {od7 an7 : Option Addr} {sl7 : Array (Option Value)} {oc7 kV7 dc7 pm7 cd7 ct7 : Value}
    {f8 : Addr} {od8 an8 : Option Addr} {sl8 : Array (Option Value)} {oc8 kV8 dc8 pm8 cd8 ct8 : Value}
    {f9 : Addr} {od9 an9 : Option Addr} {sl9 : Array (Option Value)} {oc9 kV9 dc9 pm9 cd9 ct9 : Value}
    {f10 : Addr} {od10 an10 : Option Addr} {sl10 : Array (Option Value)} {oc10 kV10 dc10 pm10 cd10 ct10 : Value}
    {f11 : Addr} {od11 an11 : Option Addr} {sl11 : Array (Option Value)} {oc11 kV11 dc11 pm11 cd11 ct11 : Value}
    {f12 : Addr} {od12 an12 : Option Addr} {sl12 : Array (Option Value)} {oc12 kV12 dc12 pm12 cd12 ct12 : Value}
    {f13 : Addr} {od13 an13 : Option Addr} {sl13 : Array (Option Value)} {oc13 kV13 dc13 pm13 cd13 ct13 : Value}
    {f14 : Addr} {od14 an14 : Option Addr} {sl14 : Array (Option Value)} {oc14 kV14 dc14 pm14 cd14 ct14 : Value}
    {f15 : Addr} {od15 an15 : Option Addr} {sl15 : Array (Option Value)} {oc15 kV15 dc15 pm15 cd15 ct15 : Value}
    {f16 : Addr} {od16 an16 : Option Addr} {sl16 : Array (Option Value)} {oc16 kV16 dc16 pm16 cd16 ct16 : Value}
    {f17 : Addr} {od17 an17 : Option Addr} {sl17 : Array (Option Value)} {oc17 kV17 dc17 pm17 cd17 ct17 : Value}
    {f18 : Addr} {od18 an18 : Option Addr} {sl18 : Array (Option Value)} {oc18 kV18 dc18 pm18 cd18 ct18 : Value}
    {f19 : Addr} {od19 an19 : Option Addr} {sl19 : Array (Option Value)} {oc19 kV19 dc19 pm19 cd19 ct19 : Value}
    {f20 : Addr} {od20 an20 : Option Addr} {sl20 : Array (Option Value)} {oc20 kV20 dc20 pm20 cd20 ct20 : Value}
    {f21 : Addr} {od21 an21 : Option Addr} {sl21 : Array (Option Value)} {oc21 kV21 dc21 pm21 cd21 ct21 : Value}
    {f22 : Addr} {od22 an22 : Option Addr} {sl22 : Array (Option Value)} {oc22 kV22 dc22 pm22 cd22 ct22 : Value}
    {t_LETTERS : Tok}
    {t_DIGITS : Tok}
    (a0 : PySem.W.nsIn K mainGlobals "is_whole" = some (some (.ref f0)))
    (l0 : K.lookup f0 = some ⟨oc0, od0, .func (PySem.W.fnOf "is_whole" "is_whole" (defArgs s_is_whole) (defBody s_is_whole) (defScope s_is_whole) .none kV0 dc0 pm0 an0 cd0 ct0), sl0⟩)
    (c0 : PySem.W.codeIn K cd0 "is_whole" = true)
    (k0 : PySem.W.keepIn K (.ref f0) = true)
    (a1 : PySem.W.nsIn K mainGlobals "is_whole_in" = some (some (.ref f1)))
    (l1 : K.lookup f1 = some ⟨oc1, od1, .func (PySem.W.fnOf "is_whole_in" "is_whole_in" (defArgs s_is_whole_in) (defBody s_is_whole_in) (defScope s_is_whole_in) .none kV1 dc1 pm1 an1 cd1 ct1), sl1⟩)
    (c1 : PySem.W.codeIn K cd1 "is_whole_in" = true)
    (k1 : PySem.W.keepIn K (.ref f1) = true)
    (a2 : PySem.W.nsIn K mainGlobals "is_name" = some (some (.ref f2)))
    (l2 : K.lookup f2 = some ⟨oc2, od2, .func (PySem.W.fnOf "is_name" "is_name" (defArgs s_is_name) (defBody s_is_name) (defScope s_is_name) .none kV2 dc2 pm2 an2 cd2 ct2), sl2⟩)
    (c2 : PySem.W.codeIn K cd2 "is_name" = true)
    (k2 : PySem.W.keepIn K (.ref f2) = true)
    (a3 : PySem.W.nsIn K mainGlobals "is_tuple_of" = some (some (.ref f3)))
    (l3 : K.lookup f3 = some ⟨oc3, od3, .func (PySem.W.fnOf "is_tuple_of" "is_tuple_of" (defArgs s_is_tuple_of) (defBody s_is_tuple_of) (defScope s_is_tuple_of) .none kV3 dc3 pm3 an3 cd3 ct3), sl3⟩)
    (c3 : PySem.W.codeIn K cd3 "is_tuple_of" = true)
    (k3 : PySem.W.keepIn K (.ref f3) = true)
    (a4 : PySem.W.nsIn K mainGlobals "is_names" = some (some (.ref f4)))
    (l4 : K.lookup f4 = some ⟨oc4, od4, .func (PySem.W.fnOf "is_names" "is_names" (defArgs s_is_names) (defBody s_is_names) (defScope s_is_names) .none kV4 dc4 pm4 an4 cd4 ct4), sl4⟩)
    (c4 : PySem.W.codeIn K cd4 "is_names" = true)
    (k4 : PySem.W.keepIn K (.ref f4) = true)
    (a5 : PySem.W.nsIn K mainGlobals "is_rising" = some (some (.ref f5)))
    (l5 : K.lookup f5 = some ⟨oc5, od5, .func (PySem.W.fnOf "is_rising" "is_rising" (defArgs s_is_rising) (defBody s_is_rising) (defScope s_is_rising) .none kV5 dc5 pm5 an5 cd5 ct5), sl5⟩)
    (c5 : PySem.W.codeIn K cd5 "is_rising" = true)
    (k5 : PySem.W.keepIn K (.ref f5) = true)
    (a6 : PySem.W.nsIn K mainGlobals "is_single" = some (some (.ref f6)))
    (l6 : K.lookup f6 = some ⟨oc6, od6, .func (PySem.W.fnOf "is_single" "is_single" (defArgs s_is_single) (defBody s_is_single) (defScope s_is_single) .none kV6 dc6 pm6 an6 cd6 ct6), sl6⟩)
    (c6 : PySem.W.codeIn K cd6 "is_single" = true)
    (k6 : PySem.W.keepIn K (.ref f6) = true)
    (a7 : PySem.W.nsIn K mainGlobals "is_plain" = some (some (.ref f7)))
    (l7 : K.lookup f7 = some ⟨oc7, od7, .func (PySem.W.fnOf "is_plain" "is_plain" (defArgs s_is_plain) (defBody s_is_plain) (defScope s_is_plain) .none kV7 dc7 pm7 an7 cd7 ct7), sl7⟩)
    (c7 : PySem.W.codeIn K cd7 "is_plain" = true)
    (k7 : PySem.W.keepIn K (.ref f7) = true)
    (a8 : PySem.W.nsIn K mainGlobals "same_single" = some (some (.ref f8)))
    (l8 : K.lookup f8 = some ⟨oc8, od8, .func (PySem.W.fnOf "same_single" "same_single" (defArgs s_same_single) (defBody s_same_single) (defScope s_same_single) .none kV8 dc8 pm8 an8 cd8 ct8), sl8⟩)
    (c8 : PySem.W.codeIn K cd8 "same_single" = true)
    (k8 : PySem.W.keepIn K (.ref f8) = true)
    (a9 : PySem.W.nsIn K mainGlobals "same" = some (some (.ref f9)))
    (l9 : K.lookup f9 = some ⟨oc9, od9, .func (PySem.W.fnOf "same" "same" (defArgs s_same) (defBody s_same) (defScope s_same) .none kV9 dc9 pm9 an9 cd9 ct9), sl9⟩)
    (c9 : PySem.W.codeIn K cd9 "same" = true)
    (k9 : PySem.W.keepIn K (.ref f9) = true)
    (a10 : PySem.W.nsIn K mainGlobals "is_answer" = some (some (.ref f10)))
    (l10 : K.lookup f10 = some ⟨oc10, od10, .func (PySem.W.fnOf "is_answer" "is_answer" (defArgs s_is_answer) (defBody s_is_answer) (defScope s_is_answer) .none kV10 dc10 pm10 an10 cd10 ct10), sl10⟩)
    (c10 : PySem.W.codeIn K cd10 "is_answer" = true)
    (k10 : PySem.W.keepIn K (.ref f10) = true)
    (a11 : PySem.W.nsIn K mainGlobals "_law_cell" = some (some (.ref f11)))
    (l11 : K.lookup f11 = some ⟨oc11, od11, .func (PySem.W.fnOf "_law_cell" "_law_cell" (defArgs s__law_cell) (defBody s__law_cell) (defScope s__law_cell) .none kV11 dc11 pm11 an11 cd11 ct11), sl11⟩)
    (c11 : PySem.W.codeIn K cd11 "_law_cell" = true)
    (k11 : PySem.W.keepIn K (.ref f11) = true)
    (a12 : PySem.W.nsIn K mainGlobals "_law_draws" = some (some (.ref f12)))
    (l12 : K.lookup f12 = some ⟨oc12, od12, .func (PySem.W.fnOf "_law_draws" "_law_draws" (defArgs s__law_draws) (defBody s__law_draws) (defScope s__law_draws) .none kV12 dc12 pm12 an12 cd12 ct12), sl12⟩)
    (c12 : PySem.W.codeIn K cd12 "_law_draws" = true)
    (k12 : PySem.W.keepIn K (.ref f12) = true)
    (a13 : PySem.W.nsIn K mainGlobals "_law_is" = some (some (.ref f13)))
    (l13 : K.lookup f13 = some ⟨oc13, od13, .func (PySem.W.fnOf "_law_is" "_law_is" (defArgs s__law_is) (defBody s__law_is) (defScope s__law_is) .none kV13 dc13 pm13 an13 cd13 ct13), sl13⟩)
    (c13 : PySem.W.codeIn K cd13 "_law_is" = true)
    (k13 : PySem.W.keepIn K (.ref f13) = true)
    (a14 : PySem.W.nsIn K mainGlobals "_law_names" = some (some (.ref f14)))
    (l14 : K.lookup f14 = some ⟨oc14, od14, .func (PySem.W.fnOf "_law_names" "_law_names" (defArgs s__law_names) (defBody s__law_names) (defScope s__law_names) .none kV14 dc14 pm14 an14 cd14 ct14), sl14⟩)
    (c14 : PySem.W.codeIn K cd14 "_law_names" = true)
    (k14 : PySem.W.keepIn K (.ref f14) = true)
    (a15 : PySem.W.nsIn K mainGlobals "_law_odd_name" = some (some (.ref f15)))
    (l15 : K.lookup f15 = some ⟨oc15, od15, .func (PySem.W.fnOf "_law_odd_name" "_law_odd_name" (defArgs s__law_odd_name) (defBody s__law_odd_name) (defScope s__law_odd_name) .none kV15 dc15 pm15 an15 cd15 ct15), sl15⟩)
    (c15 : PySem.W.codeIn K cd15 "_law_odd_name" = true)
    (k15 : PySem.W.keepIn K (.ref f15) = true)
    (a16 : PySem.W.nsIn K mainGlobals "_law_held_names" = some (some (.ref f16)))
    (l16 : K.lookup f16 = some ⟨oc16, od16, .func (PySem.W.fnOf "_law_held_names" "_law_held_names" (defArgs s__law_held_names) (defBody s__law_held_names) (defScope s__law_held_names) .none kV16 dc16 pm16 an16 cd16 ct16), sl16⟩)
    (c16 : PySem.W.codeIn K cd16 "_law_held_names" = true)
    (k16 : PySem.W.keepIn K (.ref f16) = true)
    (a17 : PySem.W.nsIn K mainGlobals "_law_ask_names" = some (some (.ref f17)))
    (l17 : K.lookup f17 = some ⟨oc17, od17, .func (PySem.W.fnOf "_law_ask_names" "_law_ask_names" (defArgs s__law_ask_names) (defBody s__law_ask_names) (defScope s__law_ask_names) .none kV17 dc17 pm17 an17 cd17 ct17), sl17⟩)
    (c17 : PySem.W.codeIn K cd17 "_law_ask_names" = true)
    (k17 : PySem.W.keepIn K (.ref f17) = true)
    (a18 : PySem.W.nsIn K mainGlobals "_law_ask_rising" = some (some (.ref f18)))
    (l18 : K.lookup f18 = some ⟨oc18, od18, .func (PySem.W.fnOf "_law_ask_rising" "_law_ask_rising" (defArgs s__law_ask_rising) (defBody s__law_ask_rising) (defScope s__law_ask_rising) .none kV18 dc18 pm18 an18 cd18 ct18), sl18⟩)
    (c18 : PySem.W.codeIn K cd18 "_law_ask_rising" = true)
    (k18 : PySem.W.keepIn K (.ref f18) = true)
    (a19 : PySem.W.nsIn K mainGlobals "_law_leaf" = some (some (.ref f19)))
    (l19 : K.lookup f19 = some ⟨oc19, od19, .func (PySem.W.fnOf "_law_leaf" "_law_leaf" (defArgs s__law_leaf) (defBody s__law_leaf) (defScope s__law_leaf) .none kV19 dc19 pm19 an19 cd19 ct19), sl19⟩)
    (c19 : PySem.W.codeIn K cd19 "_law_leaf" = true)
    (k19 : PySem.W.keepIn K (.ref f19) = true)
    (a20 : PySem.W.nsIn K mainGlobals "_law_tree" = some (some (.ref f20)))
    (l20 : K.lookup f20 = some ⟨oc20, od20, .func (PySem.W.fnOf "_law_tree" "_law_tree" (defArgs s__law_tree) (defBody s__law_tree) (defScope s__law_tree) .none kV20 dc20 pm20 an20 cd20 ct20), sl20⟩)
    (c20 : PySem.W.codeIn K cd20 "_law_tree" = true)
    (k20 : PySem.W.keepIn K (.ref f20) = true)
    (a21 : PySem.W.nsIn K mainGlobals "_law_ask_trees" = some (some (.ref f21)))
    (l21 : K.lookup f21 = some ⟨oc21, od21, .func (PySem.W.fnOf "_law_ask_trees" "_law_ask_trees" (defArgs s__law_ask_trees) (defBody s__law_ask_trees) (defScope s__law_ask_trees) .none kV21 dc21 pm21 an21 cd21 ct21), sl21⟩)
    (c21 : PySem.W.codeIn K cd21 "_law_ask_trees" = true)
    (k21 : PySem.W.keepIn K (.ref f21) = true)
    (a22 : PySem.W.nsIn K mainGlobals "law" = some (some (.ref f22)))
    (l22 : K.lookup f22 = some ⟨oc22, od22, .func (PySem.W.fnOf "law" "law" (defArgs s_law) (defBody s_law) (defScope s_law) .none kV22 dc22 pm22 an22 cd22 ct22), sl22⟩)
    (c22 : PySem.W.codeIn K cd22 "law" = true)
    (k22 : PySem.W.keepIn K (.ref f22) = true)
    (z_isinstance : PySem.W.nsIn K mainGlobals "isinstance" = some none)
    (z_int : PySem.W.nsIn K mainGlobals "int" = some none)
    (z_bool : PySem.W.nsIn K mainGlobals "bool" = some none)
    (z_len : PySem.W.nsIn K mainGlobals "len" = some none)
    (z_str : PySem.W.nsIn K mainGlobals "str" = some none)
    (z_tuple : PySem.W.nsIn K mainGlobals "tuple" = some none)
    (z_range : PySem.W.nsIn K mainGlobals "range" = some none)
    (z_list : PySem.W.nsIn K mainGlobals "list" = some none)
    (z_abs : PySem.W.nsIn K mainGlobals "abs" = some none)
    (g_LETTERS : PySem.W.nsIn K mainGlobals "LETTERS" = some (some (.str "abcdefghijklmnopqrstuvwxyz" t_LETTERS)))
    (g_DIGITS : PySem.W.nsIn K mainGlobals "DIGITS" = some (some (.str "0123456789" t_DIGITS))) :
    ∃ fd : FuncData, (∀ (s : Shared) (v : Value), BindsTo s fd ⟨[v], []⟩ [("script", v)]) ∧ ∀ base : Heap, K.In base → base.Ns mainGlobals mg → FnOk l.prog w K mg base (L2.CX l.prog w) 5 fa fd ["script"] (spLaw K) := by
  have e := hfa.symm.trans (PySem.W.mg_of X G a22)
  cases e
  have F0 := fun_mk (st := s_is_whole) l0 c0 k0
  have b0 := F0.binds (ps := ["value"]) fun _ _ _ _ _ _ us hl => match us, hl with | [_], _ => rfl
  have F1 := fun_mk (st := s_is_whole_in) l1 c1 k1
  have b1 := F1.binds (ps := ["value", "low", "high"]) fun _ _ _ _ _ _ us hl => match us, hl with | [_, _, _], _ => rfl
  have F2 := fun_mk (st := s_is_name) l2 c2 k2
  have b2 := F2.binds (ps := ["value"]) fun _ _ _ _ _ _ us hl => match us, hl with | [_], _ => rfl
  have F3 := fun_mk (st := s_is_tuple_of) l3 c3 k3
  have b3 := F3.binds (ps := ["value", "low", "high"]) fun _ _ _ _ _ _ us hl => match us, hl with | [_, _, _], _ => rfl
  have F4 := fun_mk (st := s_is_names) l4 c4 k4
  have b4 := F4.binds (ps := ["value", "low", "high"]) fun _ _ _ _ _ _ us hl => match us, hl with | [_, _, _], _ => rfl
  have F5 := fun_mk (st := s_is_rising) l5 c5 k5
  have b5 := F5.binds (ps := ["value"]) fun _ _ _ _ _ _ us hl => match us, hl with | [_], _ => rfl
  have F6 := fun_mk (st := s_is_single) l6 c6 k6
  have b6 := F6.binds (ps := ["value"]) fun _ _ _ _ _ _ us hl => match us, hl with | [_], _ => rfl
  have F7 := fun_mk (st := s_is_plain) l7 c7 k7
  have b7 := F7.binds (ps := ["value"]) fun _ _ _ _ _ _ us hl => match us, hl with | [_], _ => rfl
  have F8 := fun_mk (st := s_same_single) l8 c8 k8
  have b8 := F8.binds (ps := ["first", "second"]) fun _ _ _ _ _ _ us hl => match us, hl with | [_, _], _ => rfl
  have F9 := fun_mk (st := s_same) l9 c9 k9
  have b9 := F9.binds (ps := ["first", "second"]) fun _ _ _ _ _ _ us hl => match us, hl with | [_, _], _ => rfl
  have F10 := fun_mk (st := s_is_answer) l10 c10 k10
  have b10 := F10.binds (ps := ["value"]) fun _ _ _ _ _ _ us hl => match us, hl with | [_], _ => rfl
  have F11 := fun_mk (st := s__law_cell) l11 c11 k11
  have b11 := F11.binds (ps := ["script", "k"]) fun _ _ _ _ _ _ us hl => match us, hl with | [_, _], _ => rfl
  have F12 := fun_mk (st := s__law_draws) l12 c12 k12
  have b12 := F12.binds (ps := ["script", "k", "count"]) fun _ _ _ _ _ _ us hl => match us, hl with | [_, _, _], _ => rfl
  have F13 := fun_mk (st := s__law_is) l13 c13 k13
  have b13 := F13.binds (ps := ["actual", "due"]) fun _ _ _ _ _ _ us hl => match us, hl with | [_, _], _ => rfl
  have F14 := fun_mk (st := s__law_names) l14 c14 k14
  have b14 := F14.binds (ps := ["draws", "count"]) fun _ _ _ _ _ _ us hl => match us, hl with | [_, _], _ => rfl
  have F15 := fun_mk (st := s__law_odd_name) l15 c15 k15
  have b15 := F15.binds (ps := ["names", "draw"]) fun _ _ _ _ _ _ us hl => match us, hl with | [_, _], _ => rfl
  have F16 := fun_mk (st := s__law_held_names) l16 c16 k16
  have b16 := F16.binds (ps := ["names", "low", "high", "good"]) fun _ _ _ _ _ _ us hl => match us, hl with | [_, _, _, _], _ => rfl
  have F17 := fun_mk (st := s__law_ask_names) l17 c17 k17
  have b17 := F17.binds (ps := ["draws", "tail"]) fun _ _ _ _ _ _ us hl => match us, hl with | [_, _], _ => rfl
  have F18 := fun_mk (st := s__law_ask_rising) l18 c18 k18
  have b18 := F18.binds (ps := ["draws", "tail"]) fun _ _ _ _ _ _ us hl => match us, hl with | [_, _], _ => rfl
  have F19 := fun_mk (st := s__law_leaf) l19 c19 k19
  have b19 := F19.binds (ps := ["draw"]) fun _ _ _ _ _ _ us hl => match us, hl with | [_], _ => rfl
  have F20 := fun_mk (st := s__law_tree) l20 c20 k20
  have b20 := F20.binds (ps := ["depth", "tail", "spot", "leaf"]) fun _ _ _ _ _ _ us hl => match us, hl with | [_, _, _, _], _ => rfl
  have F21 := fun_mk (st := s__law_ask_trees) l21 c21 k21
  have b21 := F21.binds (ps := ["draws", "tail"]) fun _ _ _ _ _ _ us hl => match us, hl with | [_, _], _ => rfl
  have F22 := fun_mk (st := s_law) l22 c22 k22
  have b22 := F22.binds (ps := ["script"]) fun _ _ _ _ _ _ us hl => match us, hl with | [_], _ => rfl
  refine ⟨PySem.W.fnOf "law" "law" (defArgs s_law) (defBody s_law) (defScope s_law) .none kV22 dc22 pm22 an22 cd22 ct22, fun s v => .of_eq rfl, fun base _ _ => ?_⟩
  have G_is_whole : Known l.prog w K mg base "is_whole" ["value"] 1 d_is_whole := ⟨_, _, ok_is_whole (P := l.prog) (w := w) (base := base) F0 (PySem.W.mg_none_of X G z_isinstance) (PySem.W.mg_none_of X G z_int) (PySem.W.mg_none_of X G z_bool), PySem.W.mg_of X G a0, k0, b0⟩
  have G_is_whole_in : Known l.prog w K mg base "is_whole_in" ["value", "low", "high"] 2 d_is_whole_in := ⟨_, _, ok_is_whole_in (P := l.prog) (w := w) (base := base) F1 G_is_whole, PySem.W.mg_of X G a1, k1, b1⟩
  have G_is_name : Known l.prog w K mg base "is_name" ["value"] 1 d_is_name := ⟨_, _, ok_is_name (P := l.prog) (w := w) (base := base) F2 (PySem.W.mg_none_of X G z_len) (PySem.W.mg_none_of X G z_isinstance) (PySem.W.mg_none_of X G z_str) (PySem.W.mg_of X G g_LETTERS) (PySem.W.mg_of X G g_DIGITS), PySem.W.mg_of X G a2, k2, b2⟩
  have G_is_tuple_of : Known l.prog w K mg base "is_tuple_of" ["value", "low", "high"] 1 d_is_tuple_of := ⟨_, _, ok_is_tuple_of (P := l.prog) (w := w) (base := base) F3 (PySem.W.mg_none_of X G z_isinstance) (PySem.W.mg_none_of X G z_tuple) (PySem.W.mg_none_of X G z_len), PySem.W.mg_of X G a3, k3, b3⟩
  have G_is_names : Known l.prog w K mg base "is_names" ["value", "low", "high"] 2 d_is_names := ⟨_, _, ok_is_names (P := l.prog) (w := w) (base := base) F4 G_is_name G_is_tuple_of, PySem.W.mg_of X G a4, k4, b4⟩
  have G_is_rising : Known l.prog w K mg base "is_rising" ["value"] 2 d_is_rising := ⟨_, _, ok_is_rising (P := l.prog) (w := w) (base := base) F5 G_is_whole (PySem.W.mg_none_of X G z_len) (PySem.W.mg_none_of X G z_range) (PySem.W.mg_none_of X G z_isinstance) (PySem.W.mg_none_of X G z_tuple), PySem.W.mg_of X G a5, k5, b5⟩
  have G_is_single : Known l.prog w K mg base "is_single" ["value"] 1 d_is_single := ⟨_, _, ok_is_single (P := l.prog) (w := w) (base := base) F6 (PySem.W.mg_none_of X G z_isinstance) (PySem.W.mg_none_of X G z_int) (PySem.W.mg_none_of X G z_str), PySem.W.mg_of X G a6, k6, b6⟩
  have G_is_plain : Known l.prog w K mg base "is_plain" ["value"] 2 d_is_plain := ⟨_, _, ok_is_plain (P := l.prog) (w := w) (base := base) F7 G_is_single (PySem.W.mg_none_of X G z_isinstance) (PySem.W.mg_none_of X G z_tuple) (PySem.W.mg_none_of X G z_list), PySem.W.mg_of X G a7, k7, b7⟩
  have G_same_single : Known l.prog w K mg base "same_single" ["first", "second"] 1 d_same_single := ⟨_, _, ok_same_single (P := l.prog) (w := w) (base := base) F8 (PySem.W.mg_none_of X G z_isinstance) (PySem.W.mg_none_of X G z_str) (PySem.W.mg_none_of X G z_int) (PySem.W.mg_none_of X G z_bool), PySem.W.mg_of X G a8, k8, b8⟩
  have G_same : Known l.prog w K mg base "same" ["first", "second"] 2 d_same := ⟨_, _, ok_same (P := l.prog) (w := w) (base := base) F9 G_same_single (PySem.W.mg_none_of X G z_isinstance) (PySem.W.mg_none_of X G z_tuple) (PySem.W.mg_none_of X G z_len) (PySem.W.mg_none_of X G z_range), PySem.W.mg_of X G a9, k9, b9⟩
  have G_is_answer : Known l.prog w K mg base "is_answer" ["value"] 2 d_is_answer := ⟨_, _, ok_is_answer (P := l.prog) (w := w) (base := base) F10 G_is_tuple_of (PySem.W.mg_none_of X G z_isinstance) (PySem.W.mg_none_of X G z_str), PySem.W.mg_of X G a10, k10, b10⟩
  have G__law_cell : Known l.prog w K mg base "_law_cell" ["script", "k"] 1 d__law_cell := ⟨_, _, ok__law_cell (P := l.prog) (w := w) (base := base) F11 (PySem.W.mg_none_of X G z_len) (PySem.W.mg_none_of X G z_int), PySem.W.mg_of X G a11, k11, b11⟩
  have G__law_draws : Known l.prog w K mg base "_law_draws" ["script", "k", "count"] 2 d__law_draws := ⟨_, _, ok__law_draws (P := l.prog) (w := w) (base := base) F12 G__law_cell (PySem.W.mg_none_of X G z_range) (PySem.W.mg_none_of X G z_int) (PySem.W.mg_none_of X G z_abs), PySem.W.mg_of X G a12, k12, b12⟩
  have G__law_is : Known l.prog w K mg base "_law_is" ["actual", "due"] 1 d__law_is := ⟨_, _, ok__law_is (P := l.prog) (w := w) (base := base) F13 (PySem.W.mg_none_of X G z_isinstance) (PySem.W.mg_none_of X G z_bool), PySem.W.mg_of X G a13, k13, b13⟩
  have G__law_names : Known l.prog w K mg base "_law_names" ["draws", "count"] 1 d__law_names := ⟨_, _, ok__law_names (P := l.prog) (w := w) (base := base) F14 (PySem.W.mg_none_of X G z_tuple) (PySem.W.mg_none_of X G z_int) (PySem.W.mg_none_of X G z_range) (PySem.W.mg_none_of X G z_len), PySem.W.mg_of X G a14, k14, b14⟩
  have G__law_odd_name : Known l.prog w K mg base "_law_odd_name" ["names", "draw"] 1 d__law_odd_name := ⟨_, _, ok__law_odd_name (P := l.prog) (w := w) (base := base) F15 (PySem.W.mg_none_of X G z_int) (PySem.W.mg_none_of X G z_len), PySem.W.mg_of X G a15, k15, b15⟩
  have G__law_held_names : Known l.prog w K mg base "_law_held_names" ["names", "low", "high", "good"] 3 d__law_held_names := ⟨_, _, ok__law_held_names (P := l.prog) (w := w) (base := base) F16 G__law_is G_is_names G_is_tuple_of (PySem.W.mg_none_of X G z_list) (PySem.W.mg_none_of X G z_len), PySem.W.mg_of X G a16, k16, b16⟩
  have G__law_ask_names : Known l.prog w K mg base "_law_ask_names" ["draws", "tail"] 4 d__law_ask_names := ⟨_, _, ok__law_ask_names (P := l.prog) (w := w) (base := base) F17 G__law_held_names G__law_is G_is_name G__law_odd_name G_same G_is_names G__law_names (PySem.W.mg_none_of X G z_int) (PySem.W.mg_none_of X G z_str), PySem.W.mg_of X G a17, k17, b17⟩
  have G__law_ask_rising : Known l.prog w K mg base "_law_ask_rising" ["draws", "tail"] 3 d__law_ask_rising := ⟨_, _, ok__law_ask_rising (P := l.prog) (w := w) (base := base) F18 G__law_is G_is_whole_in G_is_whole G_is_rising (PySem.W.mg_none_of X G z_str) (PySem.W.mg_none_of X G z_int) (PySem.W.mg_none_of X G z_tuple) (PySem.W.mg_none_of X G z_range) (PySem.W.mg_none_of X G z_len), PySem.W.mg_of X G a18, k18, b18⟩
  have G__law_leaf : Known l.prog w K mg base "_law_leaf" ["draw"] 1 d__law_leaf := ⟨_, _, ok__law_leaf (P := l.prog) (w := w) (base := base) F19 (PySem.W.mg_none_of X G z_int), PySem.W.mg_of X G a19, k19, b19⟩
  have G__law_tree : Known l.prog w K mg base "_law_tree" ["depth", "tail", "spot", "leaf"] 2 d__law_tree := ⟨_, _, ok__law_tree (P := l.prog) (w := w) (base := base) F20 G__law_leaf (PySem.W.mg_none_of X G z_range) (PySem.W.mg_none_of X G z_int) (PySem.W.mg_none_of X G z_len), PySem.W.mg_of X G a20, k20, b20⟩
  have G__law_ask_trees : Known l.prog w K mg base "_law_ask_trees" ["draws", "tail"] 3 d__law_ask_trees := ⟨_, _, ok__law_ask_trees (P := l.prog) (w := w) (base := base) F21 G__law_is G_is_answer G_is_plain G_same G__law_tree (PySem.W.mg_none_of X G z_int), PySem.W.mg_of X G a21, k21, b21⟩
  exact law_fn hp (ok_law (P := l.prog) (w := w) (base := base) F22 G__law_ask_trees G__law_draws G__law_ask_names G__law_ask_rising)
end Law
open PySem PySem.W PyProof.Rows
set_option maxHeartbeats 0 in
theorem PySem.Challenge.cw_typefoundry_k38_rows_of_names_at_size_holds : PySem.Challenge.rw_typefoundry_k38_rows_of_names_at_size.Holds := by
  w_on; o_law; k_head; (case hw => w_witness2)
  k_fill
  refine Dn.walk (l := PySem.Challenge.rw_typefoundry_k38_rows_of_names_at_size) 5 rfl ⟨rfl, by decide, by decide⟩ rfl (fun w h Y => PySem.W.kIn_of Y) ?F
  case F =>
    intro w mg fa h KX G hmg
    refine' Law.all_mk Law.law_true KX G hmg ?a0 ?l0 ?c0 ?k0 ?a1 ?l1 ?c1 ?k1 ?a2 ?l2 ?c2 ?k2 ?a3 ?l3 ?c3 ?k3 ?a4 ?l4 ?c4 ?k4 ?a5 ?l5 ?c5 ?k5 ?a6 ?l6 ?c6 ?k6 ?a7 ?l7 ?c7 ?k7 ?a8 ?l8 ?c8 ?k8 ?a9 ?l9 ?c9 ?k9 ?a10 ?l10 ?c10 ?k10 ?a11 ?l11 ?c11 ?k11 ?a12 ?l12 ?c12 ?k12 ?a13 ?l13 ?c13 ?k13 ?a14 ?l14 ?c14 ?k14 ?a15 ?l15 ?c15 ?k15 ?a16 ?l16 ?c16 ?k16 ?a17 ?l17 ?c17 ?k17 ?a18 ?l18 ?c18 ?k18 ?a19 ?l19 ?c19 ?k19 ?a20 ?l20 ?c20 ?k20 ?a21 ?l21 ?c21 ?k21 ?a22 ?l22 ?c22 ?k22 ?z_isinstance ?z_int ?z_bool ?z_len ?z_str ?z_tuple ?z_range ?z_list ?z_abs ?g_LETTERS ?g_DIGITS
    (case a0 => k_is)
    (case l0 => k_is)
    (case c0 => k_is)
    (case k0 => k_is)
    (case a1 => k_is)
    (case l1 => k_is)
    (case c1 => k_is)
    (case k1 => k_is)
    (case a2 => k_is)
    (case l2 => k_is)
    (case c2 => k_is)
    (case k2 => k_is)
    (case a3 => k_is)
    (case l3 => k_is)
    (case c3 => k_is)
    (case k3 => k_is)
    (case a4 => k_is)
    (case l4 => k_is)
    (case c4 => k_is)
    (case k4 => k_is)
    (case a5 => k_is)
    (case l5 => k_is)
    (case c5 => k_is)
    (case k5 => k_is)
    (case a6 => k_is)
    (case l6 => k_is)
    (case c6 => k_is)
    (case k6 => k_is)
    (case a7 => k_is)
    (case l7 => k_is)
    (case c7 => k_is)
    (case k7 => k_is)
    (case a8 => k_is)
    (case l8 => k_is)
    (case c8 => k_is)
    (case k8 => k_is)
    (case a9 => k_is)
    (case l9 => k_is)
    (case c9 => k_is)
    (case k9 => k_is)
    (case a10 => k_is)
    (case l10 => k_is)
    (case c10 => k_is)
    (case k10 => k_is)
    (case a11 => k_is)
    (case l11 => k_is)
    (case c11 => k_is)
    (case k11 => k_is)
    (case a12 => k_is)
    (case l12 => k_is)
    (case c12 => k_is)
    (case k12 => k_is)
    (case a13 => k_is)
    (case l13 => k_is)
    (case c13 => k_is)
    (case k13 => k_is)
    (case a14 => k_is)
    (case l14 => k_is)
    (case c14 => k_is)
    (case k14 => k_is)
    (case a15 => k_is)
    (case l15 => k_is)
    (case c15 => k_is)
    (case k15 => k_is)
    (case a16 => k_is)
    (case l16 => k_is)
    (case c16 => k_is)
    (case k16 => k_is)
    (case a17 => k_is)
    (case l17 => k_is)
    (case c17 => k_is)
    (case k17 => k_is)
    (case a18 => k_is)
    (case l18 => k_is)
    (case c18 => k_is)
    (case k18 => k_is)
    (case a19 => k_is)
    (case l19 => k_is)
    (case c19 => k_is)
    (case k19 => k_is)
    (case a20 => k_is)
    (case l20 => k_is)
    (case c20 => k_is)
    (case k20 => k_is)
    (case a21 => k_is)
    (case l21 => k_is)
    (case c21 => k_is)
    (case k21 => k_is)
    (case a22 => k_is)
    (case l22 => k_is)
    (case c22 => k_is)
    (case k22 => k_is)
    (case z_isinstance => k_is)
    (case z_int => k_is)
    (case z_bool => k_is)
    (case z_len => k_is)
    (case z_str => k_is)
    (case z_tuple => k_is)
    (case z_range => k_is)
    (case z_list => k_is)
    (case z_abs => k_is)
    (case g_LETTERS => k_is)
    (case g_DIGITS => k_is)
