import PyProof.Rows.All
import PySem.Challenge.RW_evenhands_k14_told_rounds
import HandS.Set
import HandS.SetKeys
import HandS.SetBool
import HandS.More
import HandS.ForMost
import HandS.ForExc
import HandS.Lambda
import HandS.ExcIs
import HandS.ExcValue
import HandS.Strs
import KE.KDictDisplayH
import KE.DataCmp
import KE.DataEq
import KE.SortData
import HandS.TupAny
import HandS.TupMul
import HandS.CallSlots
import HandS.IsInst
import HandS.Conv
import HandS.SetFor
import HandS.Small
import HandS.WordsExc
import HandS.MakeKwOnly
import HandS.DictComp
import HandS.OwnEq
import KE.KFmtOwn
import PyProof.InstEq
import KE.KNestM
import HandS.EndTab
import PyProof.ExcBaseAll.ValueError
set_option Elab.async false
set_option linter.all false
set_option maxRecDepth 100000
-- PS2
namespace Pl
open PySem PySem.Spec PyProof.Rows L2

theorem paired_perm {α β : Type} {R : α → β → Prop} : ∀ {l l' : List α} {ks : List β}, l'.Perm l → PySem.Paired R l ks → ∃ ks', PySem.Paired R l' ks' ∧ ks'.Perm ks := by
  intro l l' ks p
  induction p generalizing ks with
  | nil => intro h; exact ⟨ks, h, .refl _⟩
  | cons x _ ih =>
    intro h
    cases h with | cons r t =>
    obtain ⟨k2, h1, h2⟩ := ih t
    exact ⟨_ :: k2, .cons r h1, h2.cons _⟩
  | swap x y l =>
    intro h
    cases h with | cons r t =>
    cases t with | cons r2 t =>
    exact ⟨_ :: _ :: _, .cons r2 (.cons r t), .swap _ _ _⟩
  | trans _ _ ih1 ih2 =>
    intro h
    obtain ⟨k2, h1, h2⟩ := ih2 h
    obtain ⟨k1, h3, h4⟩ := ih1 h1
    exact ⟨k1, h3, h4.trans h2⟩
section
variable {P : Program} {w : World} {K : Type} [DecidableEq K]
def InQ (knd : PySem.KeyKind P w K) (e : Int × Value) (k : K) : Prop := knd.is k e.2 = true ∧ e.1 = knd.hash k ∧ e.2.scannable = true
def SetQ (knd : PySem.KeyKind P w K) (h : Heap) (a : Addr) (S : K → Bool) (n : Nat) : Prop := ∃ o es ep t ks, h.get? a = some o ∧ o.ExactSet ∧ o.data = .set es ep t ∧ PySem.Paired (InQ knd) es.toList ks ∧ ks.Nodup ∧ (∀ k, S k = true ↔ k ∈ ks) ∧
  es.size < scanBound ∧ t.fits es.size = true ∧ es.size = n ∧ Ris t.place.toList ∧ (w.params.followText "set-order" = true ∨ t.led = true)
variable {knd : PySem.KeyKind P w K} {h h' : Heap} {a : Addr} {S : K → Bool} {n : Nat}
theorem SetQ.at (R : SetQ knd h a S n) (k : ∀ o, h.get? a = some o → h'.get? a = some o) : SetQ knd h' a S n := by
  obtain ⟨o, es, ep, t, ks, ho, r⟩ := R
  exact ⟨o, es, ep, t, ks, k o ho, r⟩
theorem inQ_elems : ∀ {l : List (Int × Value)} {ks : List K}, PySem.Paired (InQ knd) l ks → ElemsOf knd l
  | _, _, .nil => fun e he => by cases he
  | _, _, .cons r t => fun e he => by
    rcases List.mem_cons.mp he with rfl | he
    · exact ⟨⟨_, r.1, r.2.1⟩, r.2.2⟩
    · exact inQ_elems t e he
theorem inQ_mem {k : K} : ∀ {l : List (Int × Value)} {ks : List K}, PySem.Paired (InQ knd) l ks → (k ∈ ks ↔ ∃ e ∈ l, knd.is k e.2 = true)
  | _, _, .nil => by simp
  | _, _, .cons r t => by
    rw [List.mem_cons, inQ_mem t]
    constructor
    · rintro (rfl | ⟨e, he, q⟩)
      · exact ⟨_, List.mem_cons_self, r.1⟩
      · exact ⟨e, List.mem_cons_of_mem _ he, q⟩
    · rintro ⟨e, he, q⟩
      rcases List.mem_cons.mp he with rfl | he
      · exact .inl (knd.inj _ _ _ q r.1)
      · exact .inr ⟨e, he, q⟩
theorem SetQ.setOf (R : SetQ knd h a S n) : h.SetOf knd a S n := by
  obtain ⟨o, es, ep, t, ks, ho, hx, hd, g, nd, hm, hb, hf, hn, _⟩ := R
  exact ⟨o, es, ep, t, ho, hx, hd, inQ_elems g, fun k => (hm k).trans (inQ_mem g), hb, hf, hn⟩
theorem SetQ.congr {S' : K → Bool} (R : SetQ knd h a S n) (e : ∀ k, S' k = S k) : SetQ knd h a S' n := by
  rw [show S' = S from funext e]; exact R
variable {A : Around} {E : Value → Shared → Prop} {s : Shared}
theorem setQ_tail {g : Bool → Sem Unit} (hg : ∀ (b : Bool) (s1 : Shared) (Q2 : Unit → Shared → Prop), Q2 () s1 → wpAny (model P w) A (g b) Q2 E s1) {o : Obj} {es es1 : Array (Int × Value)} {ep : Nat} {t t2 : SetTable} (ho : s.heap.get? a = some o) (hex : o.ExactSet) (hd : o.data = .set es ep t)
    {S2 : K → Bool} {ks : List K} (g1 : PySem.Paired (InQ knd) es1.toList ks) (nd1 : ks.Nodup) (m1 : ∀ k, S2 k = true ↔ k ∈ ks) (hb1 : es1.size < scanBound) (hf2 : t2.fits es1.size = true) (hr : Ris t2.place.toList) (hl : w.params.followText "set-order" = true ∨ t2.led = true) {wd : Bool} {R : Option Bool → Shared → Prop}
    (hR : ∀ h2, Heap.SameBut a s.heap h2 → SetQ knd h2 a S2 es1.size → R (some true) { s with heap := h2 }) :
    wpAny (model P w) A (do storeSet a es1 t2; if (!wd && t2.tooFull) = true then do { g (relayAll t2 es1 (SetTable.grown es1.size)).2.2; storeSet a (relayAll t2 es1 (SetTable.grown es1.size)).1 (relayAll t2 es1 (SetTable.grown es1.size)).2.1; pure (some true) } else pure (some true)) R E s := by
  have st1 := store_at (es' := es1) (t' := t2) ho hd
  have same1 := Heap.SameBut.update s.heap a (Obj.putSet es1 t2)
  refine wpAny_bind (wpAny_storeSet_of ho hd ?_ (fits_of_scanBound hb1))
  split
  · have pm := relayAll_perm t2 es1 (SetTable.grown es1.size)
    have f3 := relayAll_fits t2 es1 (SetTable.grown es1.size)
    have r3 := relayAll_ris t2 es1 (SetTable.grown es1.size)
    have l3 := relayAll_led t2 es1 (SetTable.grown es1.size)
    generalize relayAll t2 es1 (SetTable.grown es1.size) = Z at pm f3 r3 l3 ⊢
    obtain ⟨es2, t3, gave⟩ := Z
    dsimp only at pm f3 r3 l3 ⊢
    have sz : es2.size = es1.size := by rw [← Array.length_toList, pm.length_eq, Array.length_toList]
    obtain ⟨ks2, g2, p2⟩ := paired_perm pm g1
    refine wpAny_bind (hg _ _ _ (wpAny_bind (wpAny_storeSet_of st1 rfl ?_ (fits_of_scanBound (by rw [sz]; exact hb1)))))
    have st2 := store_at (es' := es2) (t' := t3) st1 rfl
    exact wpAny_pure (hR _ (same1.trans (Heap.SameBut.update _ a _)) ⟨_, es2, _, t3, ks2, st2, hex, rfl, g2, p2.nodup_iff.mpr nd1, fun k => (m1 k).trans p2.mem_iff.symm, by rw [sz]; exact hb1, f3, sz, r3, hl.imp id fun q => by rw [l3]; exact q⟩)
  · exact wpAny_pure (hR _ same1 ⟨_, es1, _, t2, ks, st1, hex, rfl, g1, nd1, m1, hb1, hf2, rfl, hr, hl⟩)
theorem setQ_hashed {k : K} {x : Value} {Q : Bool → Shared → Prop} (hkey : knd.is k x = true) (hsc : x.scannable = true) (R : SetQ knd s.heap a S n) (room : n + 1 < scanBound)
    (hQ : ∀ h2, Heap.SameBut a s.heap h2 → SetQ knd h2 a (fun j => S j || decide (j = k)) (if S k = true then n else n + 1) → Q (!S k) { s with heap := h2 }) : wpAny (model P w) A (setAddHashed a x (knd.hash k)) Q E s := by
  obtain ⟨o, es, ep, t, ks, ho, hex, hd, g, nd, hm, hb, hf, hn, hr, hl⟩ := R
  have hel : ElemsOf knd es.toList := inQ_elems g
  unfold setAddHashed setAddHashedIn
  refine wpAny_holding (wpAny_bind (wpAny_setState_of ho hd hf ?_))
  dsimp only
  rw [byScan_of hsc hb hel]
  simp only [↓reduceIte]
  unfold setAddByScan
  refine wpAny_bind (wpAny_bind (wpAny_rule (wpAny_bind (wpAny_setScan_of hkey ho hd hf hel ?_))))
  cases hfi : List.findIdx? (fun e => knd.is k e.2) es.toList with
  | some j =>
    dsimp only
    obtain ⟨hj, pj, _⟩ := List.findIdx?_eq_some_iff_getElem.mp hfi
    have hSk : S k = true := (hm k).2 ((inQ_mem g).2 ⟨es.toList[j], List.getElem_mem hj, pj⟩)
    have q := hQ s.heap (Heap.SameBut.refl a s.heap) ⟨o, es, ep, t, ks, ho, hex, hd, g, nd, fun i => by
      rw [Bool.or_eq_true, decide_eq_true_eq, ← hm i]
      exact ⟨fun z => z.elim id (fun e => e ▸ hSk), .inl⟩, hb, hf, by rw [if_pos hSk]; exact hn, hr, hl⟩
    rw [hSk] at q
    exact wpAny_pure (wpAny_pure q)
  | none =>
    dsimp only
    have hnk : k ∉ ks := fun z => by
      obtain ⟨e, he, q⟩ := (inQ_mem g).1 z
      have c := List.findIdx?_eq_none_iff.mp hfi e he
      rw [q] at c
      cases c
    have hSk : S k = false := by
      cases q : S k with
      | false => rfl
      | true => exact absurd ((hm k).1 q) hnk
    have gave_way : ∀ (b : Bool) {s1 : Shared} {Q2 : Unit → Shared → Prop}, Q2 () s1 → wpAny (model P w) A (match b with | true => rule "set.scan.the-table-gave-way" | false => pure ()) Q2 E s1 :=
      fun b s1 Q2 q => by cases b <;> first | exact wpAny_pure q | exact wpAny_rule q
    have pm := layNew_perm t es (knd.hash k) x
    have f1 := layNew_fits t es (knd.hash k) x
    have r1 := layNew_ris t es (knd.hash k) x hr
    have l1 := layNew_led t es (knd.hash k) x
    generalize layNew t es (knd.hash k) x = Z at pm f1 r1 l1 ⊢
    obtain ⟨es1, t1, wd, gave⟩ := Z
    dsimp only at pm f1 r1 l1 ⊢
    rw [Array.toList_push] at pm
    have pc : es1.toList.Perm ((knd.hash k, x) :: es.toList) := pm.trans (List.perm_append_singleton _ _)
    obtain ⟨ks1, g1, pk⟩ := paired_perm (R := InQ knd) (ks := k :: ks) pc (.cons ⟨hkey, rfl, hsc⟩ g)
    have nd1 : ks1.Nodup := pk.nodup_iff.mpr (List.nodup_cons.mpr ⟨hnk, nd⟩)
    have m1 : ∀ i, (S i || decide (i = k)) = true ↔ i ∈ ks1 := fun i => by
      rw [Bool.or_eq_true, decide_eq_true_eq, hm i, pk.mem_iff, List.mem_cons]
      exact Or.comm
    have sz : es1.size = n + 1 := by rw [← Array.length_toList, pc.length_eq, List.length_cons, Array.length_toList, hn]
    have b1 : es1.size < scanBound := by rw [sz]; exact room
    have led1 : w.params.followText "set-order" = true ∨ t1.led = true := hl.imp id fun z => by rw [l1]; exact z
    have fin : ∀ h2, Heap.SameBut a s.heap h2 → SetQ knd h2 a (fun j => S j || decide (j = k)) es1.size → Q true { s with heap := h2 } := fun h2 sb r => by
      have q := hQ h2 sb
      rw [hSk] at q
      rw [sz] at r
      exact q r
    refine wpAny_bind (gave_way _ ?_)
    split
    · refine wpAny_bind ?_
      rw [hashByValue_scannable 8 hsc]
      refine wpAny_pure (setQ_tail ?_ ho hex hd g1 nd1 m1 b1 ?_ ?_ ?_ ?_)
      · intro b s1 Q2 q; cases b <;> first | exact wpAny_pure q | exact wpAny_rule q
      · first | (split <;> first | exact f1 | exact SetTable.fits_plain_off f1) | exact f1
      · first | (split <;> exact r1) | exact r1
      · first | (split <;> exact led1) | exact led1
      · intro h2 sb r; dsimp only; exact wpAny_pure (fin h2 sb r)
    · refine wpAny_bind (wpAny_pure ?_)
      simp only [↓reduceIte]
      refine setQ_tail ?_ ho hex hd g1 nd1 m1 b1 f1 r1 led1 ?_
      · intro b s1 Q2 q; cases b <;> first | exact wpAny_pure q | exact wpAny_rule q
      · intro h2 sb r; dsimp only; exact wpAny_pure (fin h2 sb r)
theorem setQ_add {k : K} {x : Value} {Q : Value → Shared → Prop} (hkey : knd.is k x = true) (hsc : x.scannable = true) (R : SetQ knd s.heap a S n) (room : n + 1 < scanBound)
    (hQ : ∀ h2, Heap.SameBut a s.heap h2 → SetQ knd h2 a (fun j => S j || decide (j = k)) (if S k = true then n else n + 1) → Q .none { s with heap := h2, toks := s.toks + 1 }) : wpAny (model P w) A (call (.builtin "set.add") [.ref a, x]) Q E s := by
  refine wpAny_call_entry F.slot_set_add R.setOf.typeIs F.entry_set_add ?_ (F.args_set_add_2 _ _)
  unfold Builtin.«set.add» Builtin.Frozenset.oneOther
  simp only [List.isEmpty_nil, bind_assoc]
  unfold Builtin.Frozenset.addrOf setAdd
  refine wpAny_bind (wpAny_pure ?_)
  try dsimp only
  refine wpAny_bind (wpAny_pure ?_)
  try dsimp only
  refine wpAny_bind (wpAny_holding (wpAny_bind (knd.pyHash hkey (setQ_hashed (s := { s with toks := s.toks + 1 }) hkey hsc R room fun h2 sb r => ?_))))
  show wpAny _ _ (ret Value.none) _ _ _
  exact wpAny_pure ⟨_, rfl, hQ h2 sb r⟩
theorem setQ_fresh (knd : PySem.KeyKind P w K) (h : Heap) : SetQ knd (h.push { cls := .type "set", dict := none, data := .set #[] 0 (.fresh 0 0 (!w.params.followText "set-order")) }) h.objs.size (fun _ => false) 0 :=
  ⟨_, #[], 0, _, [], Heap.get?_push_size _ rfl, ⟨rfl, rfl, rfl⟩, rfl, .nil, List.nodup_nil, fun k => by simp, by decide, by rfl, rfl, ris_range 0, by cases w.params.followText "set-order" <;> first | exact .inl rfl | exact .inr rfl⟩
end
/-- the set of ints and texts at a -/
def SetQO (P : Program) (w : World) (a : Addr) (S : Key → Bool) (n : Nat) : HO := .ext fun h => SetQ (mixKind P w) h a S n
theorem setQO_new {w : World} {P : Program} {H : Hp} {h : Heap} {a : Addr} {S : Key → Bool} {n : Nat} (R : SetQ (mixKind P w) h a S n) : ObjOk P w H h a (SetQO P w a S n) := by
  have R' := R
  obtain ⟨o, _, _, _, _, ho, _⟩ := R'
  exact ⟨R, ⟨o, ho⟩, fun h1 h2 p k => SetQ.at p k⟩
section
variable {X : Cx}
theorem setQO_get {pins : List (Addr × Obj)} {σ : L2.St} {H : Hp} {s : Shared} {a : Addr} {S : Key → Bool} {n : Nat} (I : L2.Inv X pins σ H s) (ha : H a = some (SetQO X.prog X.w a S n)) : SetQ (mixKind X.prog X.w) s.heap a S n := (I.hok a _ ha).1
theorem addQ_ok {pins : List (Addr × Obj)} {σ : L2.St} {H : Hp} {s : Shared} {E : Value → Shared → Prop} {D : Addr} {S : Key → Bool} {n : Nat} {k : Key} {u : Value} {Q : Value → Shared → Prop} (I : L2.Inv X pins σ H s) (hD : H D = some (SetQO X.prog X.w D S n)) (room : n + 1 < scanBound) (r : RelV (kV k) u)
    (h : ∀ s2, L2.Inv X pins σ (upd H D (SetQO X.prog X.w D (fun j => S j || decide (j = k)) (if S k = true then n else n + 1))) s2 → Q .none s2) : wpAny (model X.prog X.w) X.A (call (.builtin "set.add") [.ref D, u]) Q E s := by
  refine setQ_add (kV_is r) (key_scan r) (setQO_get I hD) room fun h2 sb new => ?_
  have he : ∃ u, h2.get? D = some u := by
    have R' := new
    obtain ⟨o, _, _, _, _, ho, _⟩ := R'
    exact ⟨o, ho⟩
  exact h _ (I.write (e := D) (t' := s.toks + 1) (by rw [hD]; trivial) (.inl rfl) (fun b u hb hu => (sb.2 b hb).trans hu) he (setQO_new new))
end
end Pl

-- PS3
set_option maxHeartbeats 2000000
namespace Pl
open PySem PySem.Spec PyProof.Rows L2 PpSet
variable {X : Cx}
/-- the reading: D the new set -/
def tScQ (P : Program) (w : World) (wi : TI) (g : TG) (tt : TT) (te : TE) (vs : List Nat) : TE := fun σ H Q => wi σ H fun J H1 => ∀ D, H1 D = none → ∃ W : Nat → Nat → Hp → Prop, (∃ m, W 0 m (upd H1 D (SetQO P w D (fun _ => false) 0))) ∧ ∀ i m H, W i m H →
  (J.stop i H ∧ Q (.ref D) H) ∨ (J.go i H ∧ ∃ Nx : Hp → Prop, (∀ H', Nx H' → ∃ m', m' < m ∧ W (i + 1) m' H') ∧ ∀ x H', J.yld i H x H' → g x (wipe σ vs) H' fun σ2 H2 => wipe σ2 vs = wipe σ vs ∧ tt σ2 H2 fun b H3 =>
    if b = true then te σ2 H3 fun y H4 => ∃ (c : Key) (S : Key → Bool) (n : Nat), y = kV c ∧ H4 D = some (SetQO P w D S n) ∧ n + 1 < scanBound ∧ Nx (upd H4 D (SetQO P w D (fun j => S j || decide (j = c)) (if S c = true then n else n + 1))) else Nx H3)
theorem pe_scQ {elt tg iter : Expr} {ifs : List Expr} {scope : Scope} {own : List (PySem.Str × Nat)} {pos : Pos} {wi : TI} {g : TG} {tt : TT} {te : TE} (hc : X.calm = true) (hN : X.N.Nodup) (hi : PI X tg iter wi) (ok : BlkOk X.N X.env.scope scope own)
    (hg : ∀ (s : Shared) (H : Hp) (C : Addr) (cl : List (PySem.Str × Addr)) (fp : List Addr), PG (X.blk s H scope (compEnvC scope cl C X.env) fp) tg g) (ht : ∀ (s : Shared) (H : Hp) (C : Addr) (cl : List (PySem.Str × Addr)) (fp : List Addr), PTs (X.blk s H scope (compEnvC scope cl C X.env) fp) ifs tt)
    (he : ∀ (s : Shared) (H : Hp) (C : Addr) (cl : List (PySem.Str × Addr)) (fp : List Addr), PE (X.blk s H scope (compEnvC scope cl C X.env) fp) elt te) (hs : ∀ x, foldedSetIterable iter X.env x = pure x := by intro _; rfl) :
    PE X (.SetComp elt [⟨tg, iter, ifs, 0⟩] scope pos) (tScQ X.prog X.w wi g tt te (own.map (·.2))) := by
  refine ⟨fun pins s σ H Q I h => ?_⟩
  rw [eval_SetComp]
  have caught : ∀ y ∈ scope.names, y.2 = .free → ∃ c, X.env.cells.lookup y.1 = some c := fun y hy e => (ok.free y hy e).elim (fun k => I.ok.has _ (.inl k)) fun k => I.ok.has _ (.inr k)
  refine wpAny_comprehension_free rfl hs (closure_ok caught) ok.kind (fun y hy e => by rw [ok.uniq y hy, e]) (thn (hi.run pins s σ H _ I h) fun xv s1 hx => thn hx fun itv s2 ⟨it, fp, tn, J, H2, e, I2, T, st2, f2, q⟩ => ?_)
  subst e
  refine newSet_ok (newEnv_comp ?_)
  generalize hD : s2.heap.objs.size = D
  obtain ⟨W, ⟨m0, w0⟩, turn⟩ := q D (I2.hok.fresh (Nat.le_of_eq hD))
  generalize hs3 : ({ s2 with heap := s2.heap.push { cls := .type "set", dict := none, data := .set #[] 0 (.fresh 0 0 (!X.w.params.followText "set-order")) } } : Shared) = s3
  have h3 : s3.heap = s2.heap.push { cls := .type "set", dict := none, data := .set #[] 0 (.fresh 0 0 (!X.w.params.followText "set-order")) } := by rw [← hs3]
  have I3 : L2.Inv X pins σ (upd H2 D (SetQO X.prog X.w D (fun _ => false) 0)) s3 := by
    subst hs3 hD
    exact I2.laid (t' := s2.toks) (fun b o e => Heap.get?_push_of_some _ e) (Nat.le_refl _) (setQO_new (setQ_fresh _ _))
  have low : ∀ b ∈ fp, b < s2.heap.objs.size := fun b hb => Heap.lt_size (T.obj _ _ st2 b hb).choose_spec.1
  have f3 : ∀ b ∈ fp, FpOk X pins (upd H2 D (SetQO X.prog X.w D (fun _ => false) 0)) b ∧ b < s3.heap.objs.size := fun b hb => ⟨⟨by rw [upd_ne (by rw [← hD]; exact Nat.ne_of_lt (low b hb))]; exact (f2 b hb).1, (f2 b hb).2⟩, by rw [h3, Heap.size_push]; exact Nat.lt_succ_of_lt (low b hb)⟩
  have st3 : tn 0 s3.heap := T.keep _ _ _ st2 fun b _ o e => by rw [h3]; exact Heap.get?_push_of_some _ e
  have I4 := block_start I3 ok hN f3
  have pg := hg s3 (upd H2 D (SetQO X.prog X.w D (fun _ => false) 0)) s3.heap.objs.size (cellsFrom (s3.heap.objs.size + 1) scope.names (cloFrom X.env.cells scope.names [])) fp
  have pt := ht s3 (upd H2 D (SetQO X.prog X.w D (fun _ => false) 0)) s3.heap.objs.size (cellsFrom (s3.heap.objs.size + 1) scope.names (cloFrom X.env.cells scope.names [])) fp
  have pe := he s3 (upd H2 D (SetQO X.prog X.w D (fun _ => false) 0)) s3.heap.objs.size (cellsFrom (s3.heap.objs.size + 1) scope.names (cloFrom X.env.cells scope.names [])) fp
  have out : ∀ D C s' m H', L2.Inv X pins σ H' s' → Q (.ref D) H' → s'.heap.Ns C m → FpOk X pins H' C → compPost (model X.prog X.w) X.A X.xe none (EP X pins σ Q) (.ref D) C (.ok .next) s' := fun D C s' m H' I' q hn ⟨c0, c1, c2, c3, c4, c5⟩ =>
    ⟨m, hn, fun h'' sb => ⟨.ref D, H', I'.turned (t' := s'.toks) (fun b o hb e => (sb.2 b hb).trans e) c0 c1 c3 c4 c5, rfl, q⟩⟩
  have bare : ∀ b ∈ fp, (upd H2 D (SetQO X.prog X.w D (fun _ => false) 0)) b = none := fun b hb => (f3 b hb).1.1
  show codeAny _ _ (.compStart (.SetComp elt [⟨tg, iter, ifs, 0⟩] scope pos) 0 (.ref it) (.ref D) (compEnvC scope (cellsFrom (s3.heap.objs.size + 1) scope.names (cloFrom X.env.cells scope.names [])) s3.heap.objs.size X.env)) (compPost (model X.prog X.w) X.A X.xe none (EP X pins σ Q) (.ref D) s3.heap.objs.size) { s3 with heap := pushCells (s3.heap.push { cls := .type "dict", data := .dict #[] }) scope.names }
  generalize hce : compEnvC scope (cellsFrom (s3.heap.objs.size + 1) scope.names (cloFrom X.env.cells scope.names [])) s3.heap.objs.size X.env = ce at I4 pg pt pe ⊢
  have cL : ce.locals = s3.heap.objs.size := by subst hce; rfl
  generalize hH3 : upd H2 D (SetQO X.prog X.w D (fun _ => false) 0) = H3 at I3 I4 pg pt pe w0 bare f3
  generalize hs4 : ({ s3 with heap := pushCells (s3.heap.push { cls := .type "dict", data := .dict #[] }) scope.names } : Shared) = s4 at I4 ⊢
  have st4 : tn 0 s4.heap := T.keep _ _ _ st3 fun b _ o e => by rw [← hs4]; exact pushCells_keeps _ _ _ _ (Heap.get?_push_of_some _ e)
  have stat : ∀ {σ' : L2.St} {H' : Hp} {s' : Shared}, L2.Inv (X.blk s3 H3 scope ce fp) [] σ' H' s' → (∀ b ∈ fp, H' b = none) → ∀ b ∈ fp, FpOk (X.blk s3 H3 scope ce fp) [] H' b := fun {σ' H' s'} I' hn b hb =>
    ⟨hn b hb, (I'.ok.exf b hb).1, I'.ok.exfs b hb, .inl hb, fun x c e => (I'.ok.exf b hb).2 x c e, fun p hp => absurd (show p ∈ ([] : List (Addr × Obj)) ++ [] from hp) (by simp)⟩
  have loop : codeAny (model X.prog X.w) X.A (.compLoop (.SetComp elt [⟨tg, iter, ifs, 0⟩] scope pos) 0 (.ref it) (.ref D) ce) (compPost (model X.prog X.w) X.A X.xe none (EP X pins σ Q) (.ref D) s3.heap.objs.size) s4 := by
    refine compLoopS_any (fun n s' => ∃ i H', L2.Inv (X.blk s3 H3 scope ce fp) [] (wipe σ (own.map (·.2))) H' s' ∧ tn i s'.heap ∧ (∀ b ∈ fp, H' b = none) ∧ W i n H') ?_ m0 ⟨0, H3, I4, st4, bare, w0⟩
    rintro n s5 ⟨i, H5, I5, st5, n5, w5⟩
    rcases turn i n H5 w5 with ⟨stop, qq⟩ | ⟨go, Nx, hNx, step⟩
    · refine thnF (T.done (X.blk s3 H3 scope ce fp) rfl rfl rfl hc i [] s5 _ H5 (fun _ _ => False) I5 (stat I5 n5) st5 stop) fun r s6 ⟨hr, I6⟩ => ?_
      subst hr
      have I7 : L2.Inv X pins σ H5 s6 := I3.call' (ch := fp) I6.os I6.base I6.hok I6.bare fun b hb => ⟨(f3 b hb).1.2.2.2.1, (f3 b hb).1.2.1, (f3 b hb).1.2.2.2.2.1, (f3 b hb).1.2.2.2.2.2⟩
      obtain ⟨m, hn, _⟩ := I6.loc
      exact out D s3.heap.objs.size s6 m H5 I7 qq (cL ▸ (show s6.heap.Ns ce.locals m from hn)) (I3.fpOk (Nat.le_refl _) (cL ▸ (show H5 ce.locals = none from I6.free)))
    · refine thnF (T.item (X.blk s3 H3 scope ce fp) rfl rfl rfl hc i [] s5 _ H5 (fun _ _ => False) I5 (stat I5 n5) st5 go) fun r s6 ⟨u, hr, h6⟩ => ?_
      subst hr
      refine thnF h6 fun _ s7 ⟨x, H7, I7, r7, y7, st7, n7⟩ => ?_
      have I7' := I7.pinned (stat I7 n7) (T.obj _ _ st7)
      refine thnF (pg.run _ s7 _ H7 x u _ I7' r7 (step x H7 y7)) fun _ s8 ⟨σ8, H8, I8, hw8, q8⟩ => thnF (pt.run _ s8 σ8 H8 _ I8 q8) fun b s9 ⟨H9, I9, q9⟩ => ?_
      have fin : ∀ {s' : Shared} {H' : Hp}, L2.Inv (X.blk s3 H3 scope ce fp) ([] ++ pinsAt fp s7.heap) σ8 H' s' → Nx H' → ∃ m, m < n ∧ ∃ i H', L2.Inv (X.blk s3 H3 scope ce fp) [] (wipe σ (own.map (·.2))) H' s' ∧ tn i s'.heap ∧ (∀ b ∈ fp, H' b = none) ∧ W i m H' := fun {s' H'} I' nx => by
        obtain ⟨m', hm, w'⟩ := hNx H' nx
        have pin' : ∀ b ∈ fp, ∀ o, s7.heap.get? b = some o → s'.heap.get? b = some o ∧ H' b = none := fun b hb o e => let z := I'.pin (b, o) (List.mem_append_right _ (List.mem_append_right _ (mem_pinsAt hb e))); ⟨z.1, z.2.1⟩
        exact ⟨m', hm, i + 1, H', (I'.unpinned (pins := [])).weak (by rw [← hw8, wipe_length]) (fun j v e => (wipe_some (hw8 ▸ e)).1), T.keep _ _ _ st7 fun b hb o e => (pin' b hb o e).1, fun b hb => (pin' b hb _ (T.obj _ _ st7 b hb).choose_spec.1).2, w'⟩
      cases b with
      | false =>
        simp only [Bool.false_eq_true, if_false] at q9 ⊢
        exact fin I9 q9
      | true =>
        simp only [if_true] at q9 ⊢
        refine thnF (pe.run _ s9 σ8 H9 _ I9 q9) fun z s10 ⟨yv, H10, I10, r10, c, S0, n0, ey, hD10, hz10, nx⟩ => ?_
        subst ey
        exact addQ_ok (X := X.blk s3 H3 scope ce fp) I10 hD10 hz10 r10 fun s11 I11 => fin I11 nx
  exact codeAny_compStart_set loop (T.self X.A 0 _ _ _ st4 loop)
end Pl

-- PS4
namespace Pl
open PySem PySem.Spec PyProof.Rows L2
variable {X : Cx}
theorem strs_of_keys {P : Program} {w : World} : ∀ {l : List (Int × Value)} {ks : List Key} {ss : List Str}, PySem.Paired (InQ (mixKind P w)) l ks → ks = ss.map Sum.inr → StrsAre (l.map (·.2)) ss
  | _, _, ss, .nil, h => by
    cases ss with
    | nil => exact .nil
    | cons s ss => cases h
  | e :: l, k :: ks, ss, .cons r t, h => by
    cases ss with
    | nil => cases h
    | cons s ss =>
      rw [List.map_cons, List.cons.injEq] at h
      obtain ⟨h1, h2⟩ := h
      subst h1
      rcases keyIs_shape (show keyIs (Sum.inr s) e.2 = true from r.1) with ⟨i, tk, e1, e2⟩ | ⟨x, tk, e1, e2⟩
      · cases e1
      · cases e1
        rw [List.map_cons, e2]
        exact .cons s tk (strs_of_keys t h2)
theorem strsAre_perm {vs us : List Value} {ss : List Str} (p : us.Perm vs) (h : StrsAre vs ss) : ∃ ts : List Str, StrsAre us ts ∧ ts.Perm ss := by
  induction p generalizing ss with
  | nil => exact ⟨ss, h, .refl _⟩
  | cons x _ ih =>
    cases h with | cons s tk t =>
    obtain ⟨ts, h1, h2⟩ := ih t
    exact ⟨_, .cons s tk h1, h2.cons s⟩
  | swap x y l =>
    cases h with | cons s tk t =>
    cases t with | cons s2 tk2 t =>
    exact ⟨_, .cons s2 tk2 (.cons s tk t), .swap _ _ _⟩
  | trans _ _ ih1 ih2 =>
    obtain ⟨ts, h1, h2⟩ := ih2 h
    obtain ⟨us, h3, h4⟩ := ih1 h1
    exact ⟨us, h3, h4.trans h2⟩
/-- sorted(s), the members texts, fewer than 64 -/
theorem call_sortQ (hcalm : X.calm = true) : CallR X (.builtin "sorted") (fun xs H Q => ∃ (a : Addr) (S : Key → Bool) (n : Nat) (ss : List Str), xs = [.ref a] ∧ H a = some (SetQO X.prog X.w a S n) ∧ n < 64 ∧ ss.Nodup ∧ ss.length = n ∧ (∀ k, S k = true ↔ k ∈ ss.map Sum.inr) ∧
    ∀ ys p, ys.Perm ss → sortedS ys = true → H p = none → Q (.ref p) (upd H p (.lst (ys.map V.str)))) := by
  intro pins s σ H xs us Q I r ⟨a, S, n, ss, ex, hd, h64, nd, hl, hS, q⟩
  subst ex
  obtain ⟨u, eu, rx⟩ := vals1 r
  subst eu
  cases rx
  obtain ⟨o, es, ep, t, ks, ho, hex, hdt, g, ndk, hm, hb, hf, hn, hr, hled⟩ := setQO_get I hd
  have pk : ks.Perm (ss.map Sum.inr) := (List.perm_ext_iff_of_nodup ndk (List.Pairwise.map _ (fun a b h e => h (Sum.inr.inj e)) nd)).mpr fun k => (hm k).symm.trans (hS k)
  refine Calls.call_function_entry PyProof.Rows.kind_sorted PyProof.Rows.plain_sorted PyProof.Rows.entry_sorted (PyProof.Rows.args_sorted1 _) ?_
  unfold Builtin.«sorted»
  refine wpAny_bind (m := checkCount "sorted" 1 1 _) (wpAny_pure (wpAny_bind (collect_set (A := X.A.in1) (I.ok.hd hcalm) ⟨o, ho, hex.1, hdt⟩ hf hb hr hled fun s1 vs k1 hz g1 o1 pm => ?_)))
  have hvl : vs.length = n := by rw [pm.length_eq, List.length_map, Array.length_toList]; exact hn
  have texts : ∃ ts : List Str, ks = ts.map Sum.inr ∧ ts.Perm ss := by
    have all : ∀ {ks : List Key}, (∀ k ∈ ks, k ∈ ss.map Sum.inr) → ∃ ts : List Str, ks = ts.map Sum.inr := fun {ks} => by
      induction ks with
      | nil => exact fun _ => ⟨[], rfl⟩
      | cons k ks ih =>
        intro h
        obtain ⟨x, _, e⟩ := List.mem_map.mp (h k List.mem_cons_self)
        obtain ⟨ts, e2⟩ := ih fun j hj => h j (List.mem_cons_of_mem _ hj)
        exact ⟨x :: ts, by rw [← e, e2]; rfl⟩
    obtain ⟨ts, e⟩ := all fun k hk => pk.mem_iff.mp hk
    refine ⟨ts, e, ?_⟩
    rw [e] at pk ndk
    refine (List.perm_ext_iff_of_nodup ?_ nd).mpr fun x => ?_
    · rw [List.nodup_iff_pairwise_ne, List.pairwise_map] at ndk
      exact List.nodup_iff_pairwise_ne.mpr (ndk.imp fun {a b} h (q : a = b) => h (congrArg Sum.inr q))
    · have := pk.mem_iff (a := Sum.inr x)
      rw [List.mem_map, List.mem_map] at this
      constructor
      · intro hx
        obtain ⟨y, hy, e⟩ := this.mp ⟨x, hx, rfl⟩
        exact Sum.inr.inj e ▸ hy
      · intro hx
        obtain ⟨y, hy, e⟩ := this.mpr ⟨x, hx, rfl⟩
        exact Sum.inr.inj e ▸ hy
  obtain ⟨ts, ek, pt⟩ := texts
  obtain ⟨tv, hT, pv⟩ := strsAre_perm pm (strs_of_keys g ek)
  have I1 : L2.Inv X pins σ H s1 := by
    have J : L2.Inv X pins σ H { s with heap := s1.heap, gens := s1.gens, drawn := s1.drawn, toks := s1.toks } := I.call' (ch := []) rfl (Un.kept k1) (I.hok.kept k1) (by rw [g1]; exact I.bare) (fun _ z => nomatch z)
    have e : s1 = { s with heap := s1.heap, gens := s1.gens, drawn := s1.drawn, toks := s1.toks } := by
      cases s1; cases s; cases o1; rfl
    rw [e]; exact J
  refine wpAny_bind (wpAny_newList ?_ (by rw [hvl, sizeLine_eq]; omega))
  have hoL : (s1.heap.push (seqObj "list" vs.toArray 0)).get? s1.heap.objs.size = some (seqObj "list" vs.toArray 0) := Heap.get?_push_size _ rfl
  refine wpAny_bind (wpAny_holding (wpAny_call_entry PyProof.Rows.slot_list_sort ⟨_, hoL, rfl⟩ PyProof.Rows.entry_list_sort
    (list_sort_treeK strKind_oneLt (s := { s1 with heap := s1.heap.push (seqObj "list" vs.toArray 0) }) hoL hT.keysOf (fun v₁ v₂ rest e => keyKind_strs (by rw [← e]; exact hT)) (by rw [hvl]; exact h64) fun st' hp hs => ⟨_, rfl, ?_⟩)
    (PyProof.Rows.args_list_sort _)))
  obtain ⟨ys, y1, y2, y3⟩ := sorted_out_str hT hp hs
  obtain ⟨e', he'⟩ := PyProof.Rows.sortedHeap_at (vs := vs) (out := (arrOf st').map (·.2)) hoL
  have py : ys.Perm ss := y2.trans (pv.trans pt)
  have hlen : (ys.map V.str).length ≤ sizeLine := by rw [List.length_map, py.length_eq, hl, sizeLine_eq]; omega
  refine wpAny_pure ⟨_, rfl, .ref s1.heap.objs.size, upd H s1.heap.objs.size (.lst (ys.map V.str)), I1.laid (t' := s1.toks) (fun b u e => ?_) (Nat.le_refl _)
    (show ObjOk X.prog X.w _ _ _ (.lst (ys.map V.str)) from ⟨hlen, ((arrOf st').map (·.2)).toList, e', vals_of_strs y1, by rw [Array.toArray_toList]; exact he'⟩), rfl, q ys _ py y3 (I1.hok.fresh (Nat.le_refl _))⟩
  have hb : b < s1.heap.objs.size := Heap.lt_size e
  rw [PyProof.Rows.sortedHeap_old (Nat.ne_of_lt hb) (by rw [size_push']; exact Nat.lt_succ_of_lt hb)]
  exact Heap.get?_push_of_some _ e
end Pl

-- PS5
set_option maxHeartbeats 2000000
namespace Pl
open PySem PySem.Spec PyProof.Rows L2 PpSet
section
variable {prog : Program} {w : World} {A : Around} {R : Result → Shared → Prop} {s : Shared} {elt t1 i1 t2 i2 : Expr} {scope : Scope} {pos : Pos}
abbrev sc2 (elt t1 i1 t2 i2 : Expr) (scope : Scope) (pos : Pos) : Expr := .SetComp elt [⟨t1, i1, [], 0⟩, ⟨t2, i2, [], 0⟩] scope pos
theorem turn_in (it acc : Value) (env : Env) : compTurn (sc2 elt t1 i1 t2 i2 scope pos) 1 it acc env = (do
      standAt i2.pos
      match ← pyNext it with
      | none => pure (.done .next)
      | some u =>
        letOwnedTupleGo t2 it u
        assign t2 env u
        (do let v ← eval elt env; standAt elt.pos; let _ ← call (.builtin "set.add") [acc, v])
        again (.compLoop (sc2 elt t1 i1 t2 i2 scope pos) 1 it acc env)) := by rfl
theorem turn_out (it acc : Value) (env : Env) : compTurn (sc2 elt t1 i1 t2 i2 scope pos) 0 it acc env = (do
      standAt i1.pos
      match ← pyNext it with
      | none => pure (.done .next)
      | some u =>
        letOwnedTupleGo t1 it u
        assign t1 env u
        let x ← eval i2 env
        standAt i2.pos
        let x ← foldedSetIterable i2 env x
        let _ ← runOwn (.compStart (sc2 elt t1 i1 t2 i2 scope pos) 1 (← holding [x] (pyIter x)) acc env) env
        again (.compLoop (sc2 elt t1 i1 t2 i2 scope pos) 0 it acc env)) := by rfl
theorem loop_in {it acc : Value} {env : Env} (I : Nat → Shared → Prop)
    (turn : ∀ n s, I n s → wpAny (model prog w) A (pyNext it) (fun r s1 => match r with
      | none => R (.ok .next) s1
      | some u => wpAny (model prog w) A (letOwnedTupleGo t2 it u) (fun _ s2 => wpAny (model prog w) A (assign t2 env u) (fun _ s3 => wpAny (model prog w) A (eval elt env) (fun x s4 =>
          wpAny (model prog w) A (call (.builtin "set.add") [acc, x]) (fun _ s5 => ∃ m, m < n ∧ I m s5) (notedBy (model prog w) A env fun e s' => R (.error e) s') s4)
          (notedBy (model prog w) A env fun e s' => R (.error e) s') s3) (notedBy (model prog w) A env fun e s' => R (.error e) s') s2) (notedBy (model prog w) A env fun e s' => R (.error e) s') s1) (notedBy (model prog w) A env fun e s' => R (.error e) s') s)
    (n : Nat) (h : I n s) : codeAny (model prog w) A (.compLoop (sc2 elt t1 i1 t2 i2 scope pos) 1 it acc env) R s := by
  refine codeAny_loop rfl I (fun n s hI => ?_) n h
  show wpAny _ A ((compTurn (sc2 elt t1 i1 t2 i2 scope pos) 1 it acc env).onRaise (fun x => do noteFrame x env; theTreesLotGoes x)) _ _ s
  refine wpAny_noted ?_
  rw [turn_in]
  refine wpAny_bind (wpAny_standAt (wpAny_bind (wpAny_mono (turn n s hI) (fun r s1 h1 => ?_) fun _ _ q => q)))
  cases r with
  | none => exact wpAny_pure h1
  | some u =>
    refine wpAny_bind (wpAny_mono h1 (fun _ s2 h2 => ?_) fun _ _ q => q)
    refine wpAny_bind (wpAny_mono h2 (fun _ s3 h3 => ?_) fun _ _ q => q)
    exact wpAny_bind (wpAny_bind (wpAny_mono h3 (fun x s4 h4 => wpAny_bind (wpAny_standAt (wpAny_bind (wpAny_mono h4 (fun _ s5 h5 => wpAny_pure (wpAny_pure ⟨rfl, h5⟩)) fun _ _ q => q)))) fun _ _ q => q))
theorem start_in {it acc : Value} {env : Env}
    (h0 : codeAny (model prog w) A (.compLoop (sc2 elt t1 i1 t2 i2 scope pos) 1 it acc env) R s)
    (h : wpAny (model prog w) A (pyIter it) (fun it' s' => codeAny (model prog w) A (.compLoop (sc2 elt t1 i1 t2 i2 scope pos) 1 it' acc env) R s') (notedBy (model prog w) A env fun x s' => R (.error x) s') s) :
    codeAny (model prog w) A (.compStart (sc2 elt t1 i1 t2 i2 scope pos) 1 it acc env) R s := by
  refine codeAny_of_tree ?_
  show wpAny _ _ ((compStart (sc2 elt t1 i1 t2 i2 scope pos) 1 it acc env).onRaise (fun x => do noteFrame x env; standAt theWindowsPlace)) _ _ s
  refine wpAny_notedAt ?_
  unfold compStart
  show wpAny _ _ (ask >>= _) _ _ s
  refine wpAny_bind (wpAny_askSetting (wpAny_ite ?_))
  split
  · first
      | exact wpAny_bind (wpAny_pure (wpAny_pure (And.intro rfl h0)))
      | exact wpAny_pure (And.intro rfl h0)
  · first
      | exact wpAny_bind (wpAny_rule (wpAny_bind (wpAny_standAt (wpAny_bind (wpAny_mono h (fun it' s' h' => wpAny_pure (And.intro rfl h')) fun _ _ x => x)))))
      | (refine wpAny_bind (wpAny_rule ?_); show wpAny _ _ (standAt i2.pos >>= _) _ _ s; exact wpAny_bind (wpAny_standAt (wpAny_bind (wpAny_mono h (fun it' s' h' => wpAny_pure (And.intro rfl h')) fun _ _ x => x))))
theorem loop_out {it acc : Value} {env : Env} (hs : ∀ x, foldedSetIterable i2 env x = pure x) (I : Nat → Shared → Prop)
    (turn : ∀ n s, I n s → wpAny (model prog w) A (pyNext it) (fun r s1 => match r with
      | none => R (.ok .next) s1
      | some u => wpAny (model prog w) A (letOwnedTupleGo t1 it u) (fun _ s2 => wpAny (model prog w) A (assign t1 env u) (fun _ s3 => wpAny (model prog w) A (eval i2 env) (fun x s4 =>
          wpAny (model prog w) A (pyIter x) (fun it2 s5 => ∀ R2 : Result → Shared → Prop, (∀ f s6, (∃ m, m < n ∧ I m s6) → R2 (.ok f) s6) → codeAny (model prog w) A (.compStart (sc2 elt t1 i1 t2 i2 scope pos) 1 it2 acc env) R2 s5) (notedBy (model prog w) A env fun e s' => R (.error e) s') s4)
          (notedBy (model prog w) A env fun e s' => R (.error e) s') s3) (notedBy (model prog w) A env fun e s' => R (.error e) s') s2) (notedBy (model prog w) A env fun e s' => R (.error e) s') s1) (notedBy (model prog w) A env fun e s' => R (.error e) s') s)
    (n : Nat) (h : I n s) : codeAny (model prog w) A (.compLoop (sc2 elt t1 i1 t2 i2 scope pos) 0 it acc env) R s := by
  refine codeAny_loop rfl I (fun n s hI => ?_) n h
  show wpAny _ A ((compTurn (sc2 elt t1 i1 t2 i2 scope pos) 0 it acc env).onRaise (fun x => do noteFrame x env; theTreesLotGoes x)) _ _ s
  refine wpAny_noted ?_
  rw [turn_out]
  refine wpAny_bind (wpAny_standAt (wpAny_bind (wpAny_mono (turn n s hI) (fun r s1 h1 => ?_) fun _ _ q => q)))
  cases r with
  | none => exact wpAny_pure h1
  | some u =>
    refine wpAny_bind (wpAny_mono h1 (fun _ s2 h2 => ?_) fun _ _ q => q)
    refine wpAny_bind (wpAny_mono h2 (fun _ s3 h3 => ?_) fun _ _ q => q)
    refine wpAny_bind (wpAny_mono h3 (fun x s4 h4 => ?_) fun _ _ q => q)
    refine wpAny_bind (wpAny_standAt (wpAny_bind (wpAny_of_eq (hs x) ?_)))
    refine wpAny_bind (wpAny_holding (wpAny_mono h4 (fun it2 s5 h5 => ?_) fun _ _ q => q))
    refine wpAny_bind (wpAny_runOwn (h5 _ fun f s6 h6 => ?_))
    exact wpAny_pure ⟨rfl, h6⟩
end
end Pl

-- PS6
set_option maxHeartbeats 2000000
namespace Pl
open PySem PySem.Spec PyProof.Rows L2 PpSet
variable {X : Cx}
/-- the reading: D the new set, W at the outer turns, V at the inner ones -/
def tScQ2 (P : Program) (w : World) (wi : TI) (g : TG) (wi2 : TI) (g2 : TG) (te : TE) (vs : List Nat) : TE := fun σ H Q => wi σ H fun J H1 => ∀ D, H1 D = none → ∃ W : Nat → Nat → Hp → Prop, (∃ m, W 0 m (upd H1 D (SetQO P w D (fun _ => false) 0))) ∧ ∀ i m H, W i m H →
  (J.stop i H ∧ Q (.ref D) H) ∨ (J.go i H ∧ ∃ Nx : Hp → Prop, (∀ H', Nx H' → ∃ m', m' < m ∧ W (i + 1) m' H') ∧ ∀ x H', J.yld i H x H' → g x (wipe σ vs) H' fun σ2 H2 => wi2 σ2 H2 fun J2 H3 =>
    ∃ V : Nat → Nat → L2.St → Hp → Prop, (∃ k, V 0 k σ2 H3) ∧ ∀ j k σ3 H4, V j k σ3 H4 → (J2.stop j H4 ∧ wipe σ3 vs = wipe σ vs ∧ Nx H4) ∨ (J2.go j H4 ∧ ∃ N2 : L2.St → Hp → Prop, (∀ σ' H', N2 σ' H' → ∃ k', k' < k ∧ V (j + 1) k' σ' H') ∧
      ∀ y H5, J2.yld j H4 y H5 → g2 y σ3 H5 fun σ4 H6 => te σ4 H6 fun z H7 => ∃ (c : Key) (S : Key → Bool) (n : Nat), z = kV c ∧ H7 D = some (SetQO P w D S n) ∧ n + 1 < scanBound ∧ N2 σ4 (upd H7 D (SetQO P w D (fun j => S j || decide (j = c)) (if S c = true then n else n + 1)))))
theorem pe_scQ2 {elt tg iter t2 i2 : Expr} {scope : Scope} {own : List (PySem.Str × Nat)} {pos : Pos} {wi : TI} {g : TG} {wi2 : TI} {g2 : TG} {te : TE} (hc : X.calm = true) (hN : X.N.Nodup) (hi : PI X tg iter wi) (ok : BlkOk X.N X.env.scope scope own)
    (hg : ∀ (s : Shared) (H : Hp) (C : Addr) (cl : List (PySem.Str × Addr)) (fp : List Addr), PG (X.blk s H scope (compEnvC scope cl C X.env) fp) tg g) (hi2 : ∀ (s : Shared) (H : Hp) (C : Addr) (cl : List (PySem.Str × Addr)) (fp : List Addr), PI (X.blk s H scope (compEnvC scope cl C X.env) fp) t2 i2 wi2)
    (hg2 : ∀ (s : Shared) (H : Hp) (C : Addr) (cl : List (PySem.Str × Addr)) (fp : List Addr), PG (X.blk s H scope (compEnvC scope cl C X.env) fp) t2 g2)
    (he : ∀ (s : Shared) (H : Hp) (C : Addr) (cl : List (PySem.Str × Addr)) (fp : List Addr), PE (X.blk s H scope (compEnvC scope cl C X.env) fp) elt te) (hs : ∀ x, foldedSetIterable iter X.env x = pure x := by intro _; rfl) (hs2 : ∀ env x, foldedSetIterable i2 env x = pure x := by intro _ _; rfl) :
    PE X (sc2 elt tg iter t2 i2 scope pos) (tScQ2 X.prog X.w wi g wi2 g2 te (own.map (·.2))) := by
  refine ⟨fun pins s σ H Q I h => ?_⟩
  unfold sc2
  rw [eval_SetComp]
  have caught : ∀ y ∈ scope.names, y.2 = .free → ∃ c, X.env.cells.lookup y.1 = some c := fun y hy e => (ok.free y hy e).elim (fun k => I.ok.has _ (.inl k)) fun k => I.ok.has _ (.inr k)
  refine wpAny_comprehension_free rfl hs (closure_ok caught) ok.kind (fun y hy e => by rw [ok.uniq y hy, e]) (thn (hi.run pins s σ H _ I h) fun xv s1 hx => thn hx fun itv s2 ⟨it, fp, tn, J, H2, e, I2, T, st2, f2, q⟩ => ?_)
  subst e
  refine newSet_ok (newEnv_comp ?_)
  generalize hD : s2.heap.objs.size = D
  obtain ⟨W, ⟨m0, w0⟩, turn⟩ := q D (I2.hok.fresh (Nat.le_of_eq hD))
  generalize hs3 : ({ s2 with heap := s2.heap.push { cls := .type "set", dict := none, data := .set #[] 0 (.fresh 0 0 (!X.w.params.followText "set-order")) } } : Shared) = s3
  have h3 : s3.heap = s2.heap.push { cls := .type "set", dict := none, data := .set #[] 0 (.fresh 0 0 (!X.w.params.followText "set-order")) } := by rw [← hs3]
  have I3 : L2.Inv X pins σ (upd H2 D (SetQO X.prog X.w D (fun _ => false) 0)) s3 := by
    subst hs3 hD
    exact I2.laid (t' := s2.toks) (fun b o e => Heap.get?_push_of_some _ e) (Nat.le_refl _) (setQO_new (setQ_fresh _ _))
  have low : ∀ b ∈ fp, b < s2.heap.objs.size := fun b hb => Heap.lt_size (T.obj _ _ st2 b hb).choose_spec.1
  have f3 : ∀ b ∈ fp, FpOk X pins (upd H2 D (SetQO X.prog X.w D (fun _ => false) 0)) b ∧ b < s3.heap.objs.size := fun b hb => ⟨⟨by rw [upd_ne (by rw [← hD]; exact Nat.ne_of_lt (low b hb))]; exact (f2 b hb).1, (f2 b hb).2⟩, by rw [h3, Heap.size_push]; exact Nat.lt_succ_of_lt (low b hb)⟩
  have st3 : tn 0 s3.heap := T.keep _ _ _ st2 fun b _ o e => by rw [h3]; exact Heap.get?_push_of_some _ e
  have I4 := block_start I3 ok hN f3
  have pg := hg s3 (upd H2 D (SetQO X.prog X.w D (fun _ => false) 0)) s3.heap.objs.size (cellsFrom (s3.heap.objs.size + 1) scope.names (cloFrom X.env.cells scope.names [])) fp
  have pi2 := hi2 s3 (upd H2 D (SetQO X.prog X.w D (fun _ => false) 0)) s3.heap.objs.size (cellsFrom (s3.heap.objs.size + 1) scope.names (cloFrom X.env.cells scope.names [])) fp
  have pg2 := hg2 s3 (upd H2 D (SetQO X.prog X.w D (fun _ => false) 0)) s3.heap.objs.size (cellsFrom (s3.heap.objs.size + 1) scope.names (cloFrom X.env.cells scope.names [])) fp
  have pe := he s3 (upd H2 D (SetQO X.prog X.w D (fun _ => false) 0)) s3.heap.objs.size (cellsFrom (s3.heap.objs.size + 1) scope.names (cloFrom X.env.cells scope.names [])) fp
  have out : ∀ D C s' m H', L2.Inv X pins σ H' s' → Q (.ref D) H' → s'.heap.Ns C m → FpOk X pins H' C → compPost (model X.prog X.w) X.A X.xe none (EP X pins σ Q) (.ref D) C (.ok .next) s' := fun D C s' m H' I' q hn ⟨c0, c1, c2, c3, c4, c5⟩ =>
    ⟨m, hn, fun h'' sb => ⟨.ref D, H', I'.turned (t' := s'.toks) (fun b o hb e => (sb.2 b hb).trans e) c0 c1 c3 c4 c5, rfl, q⟩⟩
  have bare : ∀ b ∈ fp, (upd H2 D (SetQO X.prog X.w D (fun _ => false) 0)) b = none := fun b hb => (f3 b hb).1.1
  show codeAny _ _ (.compStart (sc2 elt tg iter t2 i2 scope pos) 0 (.ref it) (.ref D) (compEnvC scope (cellsFrom (s3.heap.objs.size + 1) scope.names (cloFrom X.env.cells scope.names [])) s3.heap.objs.size X.env)) (compPost (model X.prog X.w) X.A X.xe none (EP X pins σ Q) (.ref D) s3.heap.objs.size) { s3 with heap := pushCells (s3.heap.push { cls := .type "dict", data := .dict #[] }) scope.names }
  generalize hce : compEnvC scope (cellsFrom (s3.heap.objs.size + 1) scope.names (cloFrom X.env.cells scope.names [])) s3.heap.objs.size X.env = ce at I4 pg pi2 pg2 pe ⊢
  have cL : ce.locals = s3.heap.objs.size := by subst hce; rfl
  generalize hH3 : upd H2 D (SetQO X.prog X.w D (fun _ => false) 0) = H3 at I3 I4 pg pi2 pg2 pe w0 bare f3
  generalize hs4 : ({ s3 with heap := pushCells (s3.heap.push { cls := .type "dict", data := .dict #[] }) scope.names } : Shared) = s4 at I4 ⊢
  have st4 : tn 0 s4.heap := T.keep _ _ _ st3 fun b _ o e => by rw [← hs4]; exact pushCells_keeps _ _ _ _ (Heap.get?_push_of_some _ e)
  have stat : ∀ {σ' : L2.St} {H' : Hp} {s' : Shared}, L2.Inv (X.blk s3 H3 scope ce fp) [] σ' H' s' → (∀ b ∈ fp, H' b = none) → ∀ b ∈ fp, FpOk (X.blk s3 H3 scope ce fp) [] H' b := fun {σ' H' s'} I' hn b hb =>
    ⟨hn b hb, (I'.ok.exf b hb).1, I'.ok.exfs b hb, .inl hb, fun x c e => (I'.ok.exf b hb).2 x c e, fun p hp => absurd (show p ∈ ([] : List (Addr × Obj)) ++ [] from hp) (by simp)⟩
  have loop : codeAny (model X.prog X.w) X.A (.compLoop (sc2 elt tg iter t2 i2 scope pos) 0 (.ref it) (.ref D) ce) (compPost (model X.prog X.w) X.A X.xe none (EP X pins σ Q) (.ref D) s3.heap.objs.size) s4 := by
    refine loop_out (hs2 ce) (fun n s' => ∃ i H', L2.Inv (X.blk s3 H3 scope ce fp) [] (wipe σ (own.map (·.2))) H' s' ∧ tn i s'.heap ∧ (∀ b ∈ fp, H' b = none) ∧ W i n H') ?_ m0 ⟨0, H3, I4, st4, bare, w0⟩
    rintro n s5 ⟨i, H5, I5, st5, n5, w5⟩
    rcases turn i n H5 w5 with ⟨stop, qq⟩ | ⟨go, Nx, hNx, step⟩
    · refine thnF (T.done (X.blk s3 H3 scope ce fp) rfl rfl rfl hc i [] s5 _ H5 (fun _ _ => False) I5 (stat I5 n5) st5 stop) fun r s6 ⟨hr, I6⟩ => ?_
      subst hr
      have I7 : L2.Inv X pins σ H5 s6 := I3.call' (ch := fp) I6.os I6.base I6.hok I6.bare fun b hb => ⟨(f3 b hb).1.2.2.2.1, (f3 b hb).1.2.1, (f3 b hb).1.2.2.2.2.1, (f3 b hb).1.2.2.2.2.2⟩
      obtain ⟨m, hn, _⟩ := I6.loc
      exact out D s3.heap.objs.size s6 m H5 I7 qq (cL ▸ (show s6.heap.Ns ce.locals m from hn)) (I3.fpOk (Nat.le_refl _) (cL ▸ (show H5 ce.locals = none from I6.free)))
    · refine thnF (T.item (X.blk s3 H3 scope ce fp) rfl rfl rfl hc i [] s5 _ H5 (fun _ _ => False) I5 (stat I5 n5) st5 go) fun r s6 ⟨u, hr, h6⟩ => ?_
      subst hr
      refine thnF h6 fun _ s7 ⟨x, H7, I7, r7, y7, st7, n7⟩ => ?_
      have I7' := I7.pinned (stat I7 n7) (T.obj _ _ st7)
      refine thnF (pg.run _ s7 _ H7 x u _ I7' r7 (step x H7 y7)) fun _ s8 ⟨σ8, H8, I8, q8⟩ => thnF (pi2.run _ s8 σ8 H8 _ I8 q8) fun v9 s9 h9 => thnF h9 fun iv s10 ⟨it2, fp2, tn2, J2, H10, e2, I10, T2, st10, f10, V, ⟨k0, v0⟩, turn2⟩ R2 hR2 => ?_
      subst e2
      have fin : ∀ {s' : Shared} {σ' : L2.St} {H' : Hp}, L2.Inv (X.blk s3 H3 scope ce fp) ([] ++ pinsAt fp s7.heap) σ' H' s' → wipe σ' (own.map (·.2)) = wipe σ (own.map (·.2)) → Nx H' → ∃ m, m < n ∧ ∃ i H', L2.Inv (X.blk s3 H3 scope ce fp) [] (wipe σ (own.map (·.2))) H' s' ∧ tn i s'.heap ∧ (∀ b ∈ fp, H' b = none) ∧ W i m H' := fun {s' σ' H'} I' hw' nx => by
        obtain ⟨m', hm, w'⟩ := hNx H' nx
        have pin' : ∀ b ∈ fp, ∀ o, s7.heap.get? b = some o → s'.heap.get? b = some o ∧ H' b = none := fun b hb o e => let z := I'.pin (b, o) (List.mem_append_right _ (List.mem_append_right _ (mem_pinsAt hb e))); ⟨z.1, z.2.1⟩
        exact ⟨m', hm, i + 1, H', (I'.unpinned (pins := [])).weak (by rw [← hw', wipe_length]) (fun j v e => (wipe_some (hw' ▸ e)).1), T.keep _ _ _ st7 fun b hb o e => (pin' b hb o e).1, fun b hb => (pin' b hb _ (T.obj _ _ st7 b hb).choose_spec.1).2, w'⟩
      have stat2 : ∀ {H' : Hp}, (∀ b ∈ fp2, H' b = none) → ∀ b ∈ fp2, FpOk (X.blk s3 H3 scope ce fp) ([] ++ pinsAt fp s7.heap) H' b := fun hn b hb => ⟨hn b hb, (f10 b hb).2⟩
      have inner : codeAny (model X.prog X.w) X.A (.compLoop (sc2 elt tg iter t2 i2 scope pos) 1 (.ref it2) (.ref D) ce) R2 s10 := by
        refine loop_in (fun k s' => ∃ j σ' H', L2.Inv (X.blk s3 H3 scope ce fp) ([] ++ pinsAt fp s7.heap) σ' H' s' ∧ tn2 j s'.heap ∧ (∀ b ∈ fp2, H' b = none) ∧ V j k σ' H') ?_ k0 ⟨0, σ8, H10, I10, st10, fun b hb => (f10 b hb).1, v0⟩
        rintro k s11 ⟨j, σ11, H11, I11, st11, n11, v11⟩
        rcases turn2 j k σ11 H11 v11 with ⟨stop, hw', nx⟩ | ⟨go, N2, hN2, step2⟩
        · refine thnF (T2.done (X.blk s3 H3 scope ce fp) rfl rfl rfl hc j _ s11 _ H11 (fun _ _ => False) I11 (stat2 n11) st11 stop) fun r s12 ⟨hr, I12⟩ => ?_
          subst hr
          exact hR2 _ _ (fin I12 hw' nx)
        · refine thnF (T2.item (X.blk s3 H3 scope ce fp) rfl rfl rfl hc j _ s11 _ H11 (fun _ _ => False) I11 (stat2 n11) st11 go) fun r s12 ⟨u2, hr, h12⟩ => ?_
          subst hr
          refine thnF h12 fun _ s13 ⟨y, H13, I13, r13, y13, st13, n13⟩ => ?_
          have I13' := I13.pinned (stat2 n13) (T2.obj _ _ st13)
          refine thnF (pg2.run _ s13 _ H13 y u2 _ I13' r13 (step2 y H13 y13)) fun _ s14 ⟨σ14, H14, I14, q14⟩ => thnF (pe.run _ s14 σ14 H14 _ I14 q14) fun z s15 ⟨yv, H15, I15, r15, c, S0, n0, ey, hD15, hz15, nx⟩ => ?_
          subst ey
          refine addQ_ok (X := X.blk s3 H3 scope ce fp) I15 hD15 hz15 r15 fun s16 I16 => ?_
          obtain ⟨k', hk, w'⟩ := hN2 _ _ nx
          have pin' : ∀ b ∈ fp2, ∀ o, s13.heap.get? b = some o → s16.heap.get? b = some o ∧ upd H15 D (SetQO X.prog X.w D (fun j => S0 j || decide (j = c)) (if S0 c = true then n0 else n0 + 1)) b = none := fun b hb o e => let z := I16.pin (b, o) (List.mem_append_right _ (List.mem_append_right _ (mem_pinsAt hb e))); ⟨z.1, z.2.1⟩
          exact ⟨k', hk, j + 1, σ14, _, I16.unpinned, T2.keep _ _ _ st13 fun b hb o e => (pin' b hb o e).1, fun b hb => (pin' b hb _ (T2.obj _ _ st13 b hb).choose_spec.1).2, w'⟩
      exact start_in inner (T2.self X.A 0 _ _ _ st10 inner)
  exact codeAny_compStart_set loop (T.self X.A 0 _ _ _ st4 loop)
end Pl

-- PL1
namespace Pl
open PySem PySem.Spec L2

/-- data that never changes -/
inductive PD where
  | non | bl (b : Bool) | int (i : Int) | str (s : Str)
  | lst (xs : List PD) | scr (xs : List PD) | tup (xs : List PD) | dic (kvs : List (Key × PD)) | set (ks : List Key) | iset (ks : List Int)
  | ins (c : Nat) (fs : List (Str × PD)) | exn (c : Nat) (fs : List (Str × PD))
  | ty (n : String) | cls (c : Nat)
  deriving Inhabited
/-- a value: data, the k-th cell, a lambda that is handed in (its object, its code, its name, the maker's slots, what it holds of them) -/
inductive E where
  | p (d : PD) | r (k : Nat) | fn (f c' : Addr) (q : Str) (σ : L2.St) (ix : List Nat) (caps : List (Sum PD Nat))
  deriving Inhabited
/-- what a cell holds -/
inductive Cell where
  | lst (xs : List E) | dic (kvs : List (Key × E)) | dcN (kvs : List (NestedKey × E)) | ins (c : Nat) (fs : List (Str × E)) | lck (kvs : List (Key × E))
  deriving Inhabited
mutual
/-- the key that it is -/
def nkOf : PD → Option NestedKey
  | .non => some .none
  | .bl b => some (.num (if b = true then 1 else 0))
  | .int i => some (.num i)
  | .str s => some (.text s)
  | .tup ds => match nksOf ds with
    | some ks => some (.tup ks)
    | none => none
  | _ => none
def nksOf : List PD → Option (List NestedKey)
  | [] => some []
  | d :: ds => match nkOf d, nksOf ds with
    | some k, some ks => some (k :: ks)
    | _, _ => none
end
/-- a dict whose keys are tuples of any depth -/
def NestD (P : Program) (w : World) (a : Addr) (L : List (NestedKey × Addr × V)) : HO := .ext fun h => ∃ xs : List (NestedKey × Addr × Value), Paired (fun l x => l.1 = x.1 ∧ l.2.1 = x.2.1 ∧ RelV l.2.2 x.2.2) L xs ∧ (a == sysModules) = false ∧ (xs.map (·.1)).Nodup ∧
  ∃ o es ep, h.get? a = some o ∧ o.ExactDict ∧ o.data = .dict es ep ∧ es.toList = xs.map (entryOfKey (nestedKind P w))
abbrev Store := List (Option Cell)
abbrev Env := List (Option E)

/-- what is fixed: the program, the world, the written part, the classes' addresses -/
structure Bz where
  prog : Program
  w : World
  K : PySem.W.Frag
  ca : Nat → Addr
  T : List (Addr × Str)
/-- a caught exception of the class cls, its dict d -/
def ExK (cls : Value) (d : Option Addr) (a : Addr) : HO := .ext fun h => ∃ (oe : Obj) (vs : Array Value), h.get? a = some oe ∧ Zc cls d oe ∧ oe.data = .fields vs

mutual
inductive RV (z : Bz) (F : Hp) : V → PD → Prop
  | non : RV z F .non .non
  | bl (b : Bool) : RV z F (.bl b) (.bl b)
  | int (i : Int) : RV z F (.int i) (.int i)
  | str (s : Str) : RV z F (.str s) (.str s)
  | lst {a : Addr} {xs : List V} {ds : List PD} : F a = some (.lst xs) → xs.length ≤ sizeLine → RVs z F xs ds → RV z F (.ref a) (.lst ds)
  | scr {a : Addr} {xs : List V} {ds : List PD} : SqL z.K F a xs → xs.length ≤ sizeLine → RVs z F xs ds → RV z F (.ref a) (.scr ds)
  | tup {a : Addr} {xs : List V} {ds : List PD} : SqT z.K F a xs → xs.length ≤ sizeLine → RVs z F xs ds → RV z F (.ref a) (.tup ds)
  | dic {a : Addr} {o : Obj} {kvs : List (Key × V)} {ds : List (Key × PD)} : F a = some (.frz o (.dK kvs)) → kvs.length ≤ sizeLine → RVk z F kvs ds → RV z F (.ref a) (.dic ds)
  | set {a : Addr} {S : Key → Bool} {ks : List Key} : F a = some (SetQO z.prog z.w a S ks.length) → (∀ k, S k = true ↔ k ∈ ks) → ks.Nodup → RV z F (.ref a) (.set ks)
  | iset {a : Addr} {S : Int → Bool} {n : Nat} {ks : List Int} : F a = some (SetO z.w a S n) → (∀ k, S k = true ↔ k ∈ ks) → n ≤ ks.length → RV z F (.ref a) (.iset ks)
  | ins {a dx : Addr} {c : Nat} {fs : List (Str × V)} {ds : List (Str × PD)} : F a = some (.ins (z.ca c) dx fs) → RVf z F fs ds → RV z F (.ref a) (.ins c ds)
  | exn0 {a : Addr} {c : Nat} : F a = some (ExK (.ref (z.ca c)) none a) → RV z F (.ref a) (.exn c [])
  | exn {a dx : Addr} {c : Nat} {fs : List (Str × V)} {ds : List (Str × PD)} : F a = some (ExK (.ref (z.ca c)) (some dx) a) → F dx = some (.xd fs) → ds ≠ [] → RVf z F fs ds → RV z F (.ref a) (.exn c ds)
  | ty (n : String) : RV z F (.ty n) (.ty n)
  | cls (c : Nat) : RV z F (.ref (z.ca c)) (.cls c)
inductive RVs (z : Bz) (F : Hp) : List V → List PD → Prop
  | nil : RVs z F [] []
  | cons {v : V} {vs : List V} {d : PD} {ds : List PD} : RV z F v d → RVs z F vs ds → RVs z F (v :: vs) (d :: ds)
inductive RVk (z : Bz) (F : Hp) : List (Key × V) → List (Key × PD) → Prop
  | nil : RVk z F [] []
  | cons {k : Key} {v : V} {vs : List (Key × V)} {d : PD} {ds : List (Key × PD)} : RV z F v d → RVk z F vs ds → RVk z F ((k, v) :: vs) ((k, d) :: ds)
inductive RVf (z : Bz) (F : Hp) : List (Str × V) → List (Str × PD) → Prop
  | nil : RVf z F [] []
  | cons {k : Str} {v : V} {vs : List (Str × V)} {d : PD} {ds : List (Str × PD)} : RV z F v d → RVf z F vs ds → RVf z F ((k, v) :: vs) ((k, d) :: ds)
end

/-- what can be read in F can be read in F' -/
def Ext (F F' : Hp) : Prop := ∀ a o, F a = some o → F' a = some o
theorem Ext.of {F F' : Hp} (s : Same F F') : Ext F F' := s
theorem Ext.rd {F F' : Hp} (s : Ext F F') {a : Addr} {u : HO} (h : Rd F a u) : Rd F' a u := h.imp (s _ _) fun ⟨o, q⟩ => ⟨o, s _ _ q⟩
theorem Ext.sqL {K : PySem.W.Frag} {F F' : Hp} (s : Ext F F') {a : Addr} {xs : List V} (h : SqL K F a xs) : SqL K F' a xs := h.imp s.rd id
theorem Ext.sqT {K : PySem.W.Frag} {F F' : Hp} (s : Ext F F') {a : Addr} {xs : List V} (h : SqT K F a xs) : SqT K F' a xs := h.imp s.rd id
mutual
theorem RV.ext {z : Bz} {F F' : Hp} (s : Ext F F') : ∀ {v : V} {d : PD}, RV z F v d → RV z F' v d
  | _, _, .non => .non
  | _, _, .bl b => .bl b
  | _, _, .int b => .int b
  | _, _, .str b => .str b
  | _, _, .lst h l r => .lst (s _ _ h) l (RVs.ext s r)
  | _, _, .scr h l r => .scr (s.sqL h) l (RVs.ext s r)
  | _, _, .tup h l r => .tup (s.sqT h) l (RVs.ext s r)
  | _, _, .dic h l r => .dic (s _ _ h) l (RVk.ext s r)
  | _, _, .set h l r => .set (s _ _ h) l r
  | _, _, .iset h l r => .iset (s _ _ h) l r
  | _, _, .ins h r => .ins (s _ _ h) (RVf.ext s r)
  | _, _, .exn0 h => .exn0 (s _ _ h)
  | _, _, .exn h h2 n r => .exn (s _ _ h) (s _ _ h2) n (RVf.ext s r)
  | _, _, .ty n => .ty n
  | _, _, .cls n => .cls n
theorem RVs.ext {z : Bz} {F F' : Hp} (s : Ext F F') : ∀ {v : List V} {d : List PD}, RVs z F v d → RVs z F' v d
  | _, _, .nil => .nil
  | _, _, .cons h r => .cons (RV.ext s h) (RVs.ext s r)
theorem RVk.ext {z : Bz} {F F' : Hp} (s : Ext F F') : ∀ {v : List (Key × V)} {d : List (Key × PD)}, RVk z F v d → RVk z F' v d
  | _, _, .nil => .nil
  | _, _, .cons h r => .cons (RV.ext s h) (RVk.ext s r)
theorem RVf.ext {z : Bz} {F F' : Hp} (s : Ext F F') : ∀ {v : List (Str × V)} {d : List (Str × PD)}, RVf z F v d → RVf z F' v d
  | _, _, .nil => .nil
  | _, _, .cons h r => .cons (RV.ext s h) (RVf.ext s r)
end

/-- the frozen part, the cells' addresses -/
structure Wd where
  F : Hp
  α : List Addr
inductive Caps (z : Bz) (W : Wd) (σ : L2.St) : List Nat → List (Sum PD Nat) → Prop
  | nil : Caps z W σ [] []
  | p {i : Nat} {ix : List Nat} {v : V} {d : PD} {cs : List (Sum PD Nat)} : σ[i]? = some (some v) → RV z W.F v d → Caps z W σ ix cs → Caps z W σ (i :: ix) (.inl d :: cs)
  | r {i : Nat} {ix : List Nat} {a : Addr} {k : Nat} {cs : List (Sum PD Nat)} : σ[i]? = some (some (.ref a)) → W.α[k]? = some a → Caps z W σ ix cs → Caps z W σ (i :: ix) (.inr k :: cs)
inductive RE (z : Bz) (W : Wd) : V → E → Prop
  | p {v : V} {d : PD} : RV z W.F v d → RE z W v (.p d)
  | r {a : Addr} {k : Nat} : W.α[k]? = some a → RE z W (.ref a) (.r k)
  | fn {f c' : Addr} {q : Str} {σ : L2.St} {ix : List Nat} {caps : List (Sum PD Nat)} : W.F c' = some (LamX.CodeO c' q) → Caps z W σ ix caps → RE z W (.ref f) (.fn f c' q σ ix caps)
abbrev REs (z : Bz) (W : Wd) : List V → List E → Prop := Paired (RE z W)
abbrev REk (z : Bz) (W : Wd) : List (Key × V) → List (Key × E) → Prop := Paired fun p q => p.1 = q.1 ∧ RE z W p.2 q.2
abbrev REf (z : Bz) (W : Wd) : List (Str × V) → List (Str × E) → Prop := Paired fun p q => p.1 = q.1 ∧ RE z W p.2 q.2
def KeyF (z : Bz) (F : Hp) (k : NestedKey) (b : Addr) : Prop := ∃ d, RV z F (.ref b) d ∧ nkOf d = some k ∧ k.depth ≤ 8
def NestR (z : Bz) (W : Wd) (l : NestedKey × Addr × V) (e : NestedKey × E) : Prop := l.1 = e.1 ∧ KeyF z W.F l.1 l.2.1 ∧ RE z W l.2.2 e.2
def CellAt (z : Bz) (W : Wd) (H : Hp) (a : Addr) : Cell → Prop
  | .lst xs => ∃ vs, H a = some (.lst vs) ∧ vs.length ≤ sizeLine ∧ REs z W vs xs
  | .dic kvs => ∃ vs, H a = some (.dK vs) ∧ vs.length ≤ sizeLine ∧ REk z W vs kvs
  | .dcN kvs => ∃ L, H a = some (NestD z.prog z.w a L) ∧ L.length ≤ sizeLine ∧ Paired (NestR z W) L kvs
  | .ins c fs => ∃ dx vs, H a = some (.ins (z.ca c) dx vs) ∧ H dx = some (.own a) ∧ vs.length ≤ 100 ∧ REf z W vs fs
  | .lck kvs => ∃ od vs, H a = some (.frz od (.dK vs)) ∧ vs.length ≤ sizeLine ∧ REk z W vs kvs
/-- what is no cell -/
def OddO (o : HO) : Prop := (∃ ps, o = .tbl ps) ∨ ∃ c q, o = LamX.CodeO c q
structure StoreOk (z : Bz) (W : Wd) (M : Store) (H : Hp) : Prop where
  same : Same W.F H
  len : M.length = W.α.length
  nd : W.α.Nodup
  live : ∀ a, a ∈ W.α → H a ≠ none
  cell : ∀ (k : Nat) (c : Cell), M[k]? = some (some c) → ∃ a, W.α[k]? = some a ∧ W.F a = none ∧ CellAt z W H a c
  tabs : LamX.Tabs z.T H
  ntb : ∀ (a : Addr) (ps : Array Value), W.F a ≠ some (.tbl ps)
  nta : ∀ a, a ∈ W.α → ∀ o : HO, OddO o → H a ≠ some o
structure WExt (W W' : Wd) : Prop where
  ext : Ext W.F W'.F
  pre : ∃ more, W'.α = W.α ++ more
theorem WExt.refl (W : Wd) : WExt W W := ⟨.of (.refl _), [], by simp⟩
theorem Ext.trans {F G L : Hp} (a : Same F G) (b : Same G L) : Same F L := a.trans b
theorem WExt.at {W W' : Wd} (x : WExt W W') {a : Addr} {k : Nat} (h : W.α[k]? = some a) : W'.α[k]? = some a := by
  obtain ⟨more, e⟩ := x.pre
  rw [e]
  have := (List.getElem?_eq_some_iff.mp h).1
  rw [List.getElem?_append_left this]
  exact h
theorem WExt.caps {z : Bz} {W W' : Wd} (x : WExt W W') {σ : L2.St} {ix : List Nat} {cs : List (Sum PD Nat)} (h : Caps z W σ ix cs) : Caps z W' σ ix cs := by
  induction h with
  | nil => exact .nil
  | p h1 h2 _ ih => exact .p h1 (h2.ext x.ext) ih
  | r h1 h2 _ ih => exact .r h1 (x.at h2) ih
theorem WExt.re {z : Bz} {W W' : Wd} (x : WExt W W') {v : V} {e : E} (h : RE z W v e) : RE z W' v e := by
  cases h with
  | p h => exact .p (h.ext x.ext)
  | fn h1 h2 => exact .fn (x.ext _ _ h1) (x.caps h2)
  | r h =>
    obtain ⟨more, e⟩ := x.pre
    refine .r ?_
    rw [e]
    have := (List.getElem?_eq_some_iff.mp h).1
    rw [List.getElem?_append_left this]
    exact h
theorem WExt.res {z : Bz} {W W' : Wd} (x : WExt W W') {vs : List V} {es : List E} (h : REs z W vs es) : REs z W' vs es := Paired.mapP h fun _ _ q => x.re q
theorem WExt.rek {z : Bz} {W W' : Wd} (x : WExt W W') {vs : List (Key × V)} {es : List (Key × E)} (h : REk z W vs es) : REk z W' vs es := Paired.mapP h fun _ _ q => ⟨q.1, x.re q.2⟩
theorem WExt.ren {z : Bz} {W W' : Wd} (x : WExt W W') {vs : List (NestedKey × Addr × V)} {es : List (NestedKey × E)} (h : Paired (NestR z W) vs es) : Paired (NestR z W') vs es := Paired.mapP h fun _ _ ⟨a, ⟨d, b, c⟩, q⟩ => ⟨a, ⟨d, b.ext x.ext, c⟩, x.re q⟩
theorem WExt.ref {z : Bz} {W W' : Wd} (x : WExt W W') {vs : List (Str × V)} {es : List (Str × E)} (h : REf z W vs es) : REf z W' vs es := Paired.mapP h fun _ _ q => ⟨q.1, x.re q.2⟩

/-- nothing stands there, but a table perhaps -/
def Nw (H : Hp) (a : Addr) : Prop := ∀ o, H a = some o → ∃ ps, o = .tbl ps
theorem Nw.of {H : Hp} {a : Addr} (h : H a = none) : Nw H a := fun o q => by rw [h] at q; cases q
/-- from (W, H) to (W', M', H') -/
structure Step (z : Bz) (W : Wd) (H : Hp) (W' : Wd) (M' : Store) (H' : Hp) : Prop where
  ext : Same W.F W'.F
  pre : ∃ more, W'.α = W.α ++ more ∧ ∀ a ∈ more, Nw H a
  ok : StoreOk z W' M' H'
  fnew : ∀ a o, W'.F a = some o → W.F a = some o ∨ Nw H a ∨ a ∈ W.α ∨ ∃ q, o = LamX.CodeO a q
  keep : ∀ a o, H a = some o → a ∉ W.α → (∀ ps, o ≠ .tbl ps) → H' a = some o
  frz : ∀ a od u, H a = some (.frz od u) → H' a = some (.frz od u)
theorem Step.w {z : Bz} {W W' : Wd} {M' : Store} {H H' : Hp} (s : Step z W H W' M' H') : WExt W W' := ⟨.of s.ext, let ⟨m, e, _⟩ := s.pre; ⟨m, e⟩⟩
theorem Step.refl {z : Bz} {W : Wd} {M : Store} {H : Hp} (ok : StoreOk z W M H) : Step z W H W M H := ⟨.refl _, ⟨[], by simp, by simp⟩, ok, fun _ _ h => .inl h, fun _ _ h _ _ => h, fun _ _ _ h => h⟩
theorem Step.trans {z : Bz} {W W1 W2 : Wd} {M1 M2 : Store} {H H1 H2 : Hp} (s : Step z W H W1 M1 H1) (t : Step z W1 H1 W2 M2 H2) : Step z W H W2 M2 H2 := by
  obtain ⟨m1, e1, n1⟩ := s.pre
  obtain ⟨m2, e2, n2⟩ := t.pre
  have out : ∀ a o, H a = some o → a ∉ W.α → (∀ ps, o ≠ .tbl ps) → a ∉ W1.α := fun a o h hn ht q => by
    rw [e1] at q
    rcases List.mem_append.mp q with q | q
    · exact hn q
    · obtain ⟨ps, e⟩ := n1 a q o h
      exact ht ps e
  have kp : ∀ a o, H a = some o → a ∉ W.α → (∀ ps, o ≠ .tbl ps) → H2 a = some o := fun a o h hn ht => t.keep a o (s.keep a o h hn ht) (out a o h hn ht) ht
  have back : ∀ a, Nw H1 a → a ∉ W.α → Nw H a := fun a n hw o q => by
    by_cases ht : ∃ ps, o = .tbl ps
    · exact ht
    · exact n o (s.keep a o q hw fun ps e => ht ⟨ps, e⟩)
  refine ⟨s.ext.trans t.ext, ⟨m1 ++ m2, by rw [e2, e1, List.append_assoc], fun a h => ?_⟩, t.ok, fun a o h => ?_, kp, fun a od u h => t.frz a od u (s.frz a od u h)⟩
  rotate_left
  · rcases t.fnew a o h with h | h | h | h
    · exact s.fnew a o h
    · by_cases hw : a ∈ W.α
      · exact .inr (.inr (.inl hw))
      · exact .inr (.inl (back a h hw))
    · rw [e1] at h
      rcases List.mem_append.mp h with h | h
      · exact .inr (.inr (.inl h))
      · exact .inr (.inl (n1 a h))
    · exact .inr (.inr (.inr h))
  rcases List.mem_append.mp h with h | h
  · exact n1 a h
  · have n := n2 a h
    by_cases hw : a ∈ W.α
    · have hin : a ∈ W1.α := by rw [e1]; exact List.mem_append_left _ hw
      cases q : H1 a with
      | none => exact absurd q (s.ok.live a hin)
      | some u =>
        obtain ⟨ps, e⟩ := n u q
        exact absurd q (s.ok.nta a hin u (.inl ⟨ps, e⟩))
    · exact back a n hw

/-- an own exception: its class, its fields -/
structure Xn where
  c : Nat
  fs : List (Str × PD)
  deriving Inhabited
def RX (z : Bz) (F : Hp) (H : Hp) (cls : Value) (d : Option Addr) (x : Xn) : Prop :=
  cls = .ref (z.ca x.c) ∧ ((x.fs = [] ∧ d = none) ∨ ∃ dd vs, x.fs ≠ [] ∧ d = some dd ∧ F dd = some (.xd vs) ∧ RVf z F vs x.fs)
abbrev Rs (α : Type) := Option (Sum Xn α × Store)
def EnvOk (z : Bz) (W : Wd) (ρ : Env) (σ : St) : Prop := ρ.length = σ.length ∧ ∀ (i : Nat) (e : E), ρ[i]? = some (some e) → ∃ v, σ[i]? = some (some v) ∧ RE z W v e
theorem EnvOk.w {z : Bz} {W W' : Wd} {ρ : Env} {σ : St} (h : EnvOk z W ρ σ) (x : WExt W W') : EnvOk z W' ρ σ := ⟨h.1, fun i e q => let ⟨v, a, b⟩ := h.2 i e q; ⟨v, a, x.re b⟩⟩

/-- what is wanted of a result -/
def Post (z : Bz) (W : Wd) (H : Hp) (r : Sum Xn E × Store) (Q : VK) (Xq : XK) : Prop :=
  match r with
  | (.inr e, M') => ∀ W' H' v, Step z W H W' M' H' → RE z W' v e → Q v H'
  | (.inl x, M') => ∀ W' H' cls d, Step z W H W' M' H' → RX z W'.F H' cls d x → Xq cls d H'
def PostB (z : Bz) (W : Wd) (H : Hp) (r : Sum Xn Bool × Store) (Q : Bool → Hp → Prop) (Xq : XK) : Prop :=
  match r with
  | (.inr b, M') => ∀ W' H', Step z W H W' M' H' → Q b H'
  | (.inl x, M') => ∀ W' H' cls d, Step z W H W' M' H' → RX z W'.F H' cls d x → Xq cls d H'
def PostA (z : Bz) (W : Wd) (H : Hp) (r : Sum Xn (List E) × Store) (Q : List V → Hp → Prop) (Xq : XK) : Prop :=
  match r with
  | (.inr es, M') => ∀ W' H' vs, Step z W H W' M' H' → REs z W' vs es → Q vs H'
  | (.inl x, M') => ∀ W' H' cls d, Step z W H W' M' H' → RX z W'.F H' cls d x → Xq cls d H'
abbrev FE := Env → Store → Rs E
abbrev FT := Env → Store → Rs Bool
abbrev FA := Env → Store → Rs (List E)
/-- the reading of an expression by a function -/
def tE (z : Bz) (Wx : WX) (f : FE) : TE := fun σ H Q => ∃ W M ρ, StoreOk z W M H ∧ EnvOk z W ρ σ ∧ ∃ r, f ρ M = some r ∧ Post z W H r Q fun c d H' => Wx c d σ H'
def tT (z : Bz) (Wx : WX) (f : FT) : TT := fun σ H Q => ∃ W M ρ, StoreOk z W M H ∧ EnvOk z W ρ σ ∧ ∃ r, f ρ M = some r ∧ PostB z W H r Q fun c d H' => Wx c d σ H'
def tA (z : Bz) (Wx : WX) (f : FA) : TA := fun σ H Q => ∃ W M ρ, StoreOk z W M H ∧ EnvOk z W ρ σ ∧ ∃ r, f ρ M = some r ∧ PostA z W H r Q fun c d H' => Wx c d σ H'
theorem pe_of {X : Cx} {e : Expr} {t t' : TE} (h : PE X e t) (w : ∀ σ H Q, t' σ H Q → t σ H Q) : PE X e t' := ⟨fun pins s σ H Q I q => h.run pins s σ H Q I (w σ H Q q)⟩
theorem pt_of {X : Cx} {e : Expr} {t t' : TT} (h : PT X e t) (w : ∀ σ H Q, t' σ H Q → t σ H Q) : PT X e t' := ⟨fun pins s σ H Q I q => h.run pins s σ H Q I (w σ H Q q)⟩
theorem pa_of {X : Cx} {e : List Expr} {t t' : TA} (h : PA X e t) (w : ∀ σ H Q, t' σ H Q → t σ H Q) : PA X e t' := ⟨fun pos pins s σ H Q I q => h.run pos pins s σ H Q I (w σ H Q q)⟩
theorem pe_or {X : Cx} {e : Expr} {t t' : TE} (h : PE X e t) (h' : PE X e t') : PE X e (fun σ H Q => t σ H Q ∨ t' σ H Q) := ⟨fun pins s σ H Q I q => q.elim (h.run pins s σ H Q I) (h'.run pins s σ H Q I)⟩
end Pl

-- PL2
namespace Pl
open PySem PySem.Spec L2

def bnd {α β : Type} (x : Rs α) (k : α → Store → Rs β) : Rs β :=
  match x with
  | none => none
  | some (.inl e, M) => some (.inl e, M)
  | some (.inr a, M) => k a M
theorem bnd_ok {α β : Type} {a : α} {M : Store} {k : α → Store → Rs β} : bnd (some (.inr a, M)) k = k a M := rfl
theorem bnd_some {α β : Type} {x : Rs α} {k : α → Store → Rs β} {r : Sum Xn β × Store} (h : bnd x k = some r) : (∃ e M, x = some (.inl e, M) ∧ r = (.inl e, M)) ∨ ∃ a M, x = some (.inr a, M) ∧ k a M = some r := by
  match x, h with
  | some (.inl e, M), h => exact .inl ⟨e, M, rfl, (Option.some.inj h).symm⟩
  | some (.inr a, M), h => exact .inr ⟨a, M, rfl, h⟩
/-- the wish about an exception -/
def ExcOk {β : Type} (z : Bz) (W : Wd) (H : Hp) (r : Sum Xn β × Store) (Xq : XK) : Prop :=
  ∀ x M', r = (.inl x, M') → ∀ W' H' cls d, Step z W H W' M' H' → RX z W'.F H' cls d x → Xq cls d H'
theorem ExcOk.step {β : Type} {z : Bz} {W W1 : Wd} {M1 : Store} {H H1 : Hp} {r : Sum Xn β × Store} {Xq : XK} (h : ExcOk z W H r Xq) (s : Step z W H W1 M1 H1) : ExcOk z W1 H1 r Xq :=
  fun x M' e W' H' cls d t q => h x M' e W' H' cls d (s.trans t) q
theorem Post.exc {z : Bz} {W : Wd} {H : Hp} {r : Sum Xn E × Store} {Q : VK} {Xq : XK} (h : Post z W H r Q Xq) : ExcOk z W H r Xq := fun x M' e => by subst e; exact h
theorem PostB.exc {z : Bz} {W : Wd} {H : Hp} {r : Sum Xn Bool × Store} {Q : Bool → Hp → Prop} {Xq : XK} (h : PostB z W H r Q Xq) : ExcOk z W H r Xq := fun x M' e => by subst e; exact h
theorem PostA.exc {z : Bz} {W : Wd} {H : Hp} {r : Sum Xn (List E) × Store} {Q : List V → Hp → Prop} {Xq : XK} (h : PostA z W H r Q Xq) : ExcOk z W H r Xq := fun x M' e => by subst e; exact h
section
variable {z : Bz} {Wx : WX} {W : Wd} {M : Store} {ρ : Env} {σ : L2.St} {H : Hp} {β : Type} {r : Sum Xn β × Store}
theorem seqE {fa : FE} {k : E → Store → Rs β} {Q : VK} (ok : StoreOk z W M H) (env : EnvOk z W ρ σ) (hr : bnd (fa ρ M) k = some r) (hx : ExcOk z W H r fun c d H' => Wx c d σ H')
    (hk : ∀ e M1 W1 H1 v, Step z W H W1 M1 H1 → RE z W1 v e → k e M1 = some r → Q v H1) : tE z Wx fa σ H Q := by
  rcases bnd_some hr with ⟨x, M1, e1, e2⟩ | ⟨a, M1, e1, e2⟩
  · exact ⟨W, M, ρ, ok, env, _, e1, fun W' H' c d s q => hx x M1 e2 W' H' c d s q⟩
  · exact ⟨W, M, ρ, ok, env, _, e1, fun W' H' v s q => hk a M1 W' H' v s q e2⟩
theorem seqT {fa : FT} {k : Bool → Store → Rs β} {Q : Bool → Hp → Prop} (ok : StoreOk z W M H) (env : EnvOk z W ρ σ) (hr : bnd (fa ρ M) k = some r) (hx : ExcOk z W H r fun c d H' => Wx c d σ H')
    (hk : ∀ e M1 W1 H1, Step z W H W1 M1 H1 → k e M1 = some r → Q e H1) : tT z Wx fa σ H Q := by
  rcases bnd_some hr with ⟨x, M1, e1, e2⟩ | ⟨a, M1, e1, e2⟩
  · exact ⟨W, M, ρ, ok, env, _, e1, fun W' H' c d s q => hx x M1 e2 W' H' c d s q⟩
  · exact ⟨W, M, ρ, ok, env, _, e1, fun W' H' s => hk a M1 W' H' s e2⟩
theorem seqA {fa : FA} {k : List E → Store → Rs β} {Q : List V → Hp → Prop} (ok : StoreOk z W M H) (env : EnvOk z W ρ σ) (hr : bnd (fa ρ M) k = some r) (hx : ExcOk z W H r fun c d H' => Wx c d σ H')
    (hk : ∀ e M1 W1 H1 v, Step z W H W1 M1 H1 → REs z W1 v e → k e M1 = some r → Q v H1) : tA z Wx fa σ H Q := by
  rcases bnd_some hr with ⟨x, M1, e1, e2⟩ | ⟨a, M1, e1, e2⟩
  · exact ⟨W, M, ρ, ok, env, _, e1, fun W' H' c d s q => hx x M1 e2 W' H' c d s q⟩
  · exact ⟨W, M, ρ, ok, env, _, e1, fun W' H' v s q => hk a M1 W' H' v s q e2⟩
/-- the last part -/
theorem lastE {f : FE} {r : Sum Xn E × Store} {Q : VK} {W1 : Wd} {M1 : Store} {H1 : Hp} (s : Step z W H W1 M1 H1) (env : EnvOk z W ρ σ) (hr : f ρ M1 = some r) (h : Post z W H r Q fun c d H' => Wx c d σ H') : tE z Wx f σ H1 Q :=
  ⟨W1, M1, ρ, s.ok, env.w s.w, r, hr, match r, h with
    | (.inr e, M'), h => fun W' H' v t q => h W' H' v (s.trans t) q
    | (.inl x, M'), h => fun W' H' c d t q => h W' H' c d (s.trans t) q⟩
theorem lastT {f : FT} {r : Sum Xn Bool × Store} {Q : Bool → Hp → Prop} {W1 : Wd} {M1 : Store} {H1 : Hp} (s : Step z W H W1 M1 H1) (env : EnvOk z W ρ σ) (hr : f ρ M1 = some r) (h : PostB z W H r Q fun c d H' => Wx c d σ H') : tT z Wx f σ H1 Q :=
  ⟨W1, M1, ρ, s.ok, env.w s.w, r, hr, match r, h with
    | (.inr e, M'), h => fun W' H' t => h W' H' (s.trans t)
    | (.inl x, M'), h => fun W' H' c d t q => h W' H' c d (s.trans t) q⟩
end

def fVar (i : Nat) : FE := fun ρ M => match ρ[i]? with
  | some (some e) => some (.inr e, M)
  | _ => none
def fC (d : PD) : FE := fun _ M => some (.inr (.p d), M)
section
variable {X : Cx} {z : Bz} {Wx : WX}
theorem te_var {i : Nat} {σ : L2.St} {H : Hp} {Q : VK} (h : tE z Wx (fVar i) σ H Q) : tVar i σ H Q := by
  obtain ⟨W, M, ρ, ok, env, r, hr, po⟩ := h
  unfold fVar at hr
  split at hr
  · rename_i e he
    cases hr
    obtain ⟨v, hv, re⟩ := env.2 i e he
    exact ⟨v, hv, po W H v (.refl ok) re⟩
  · cases hr
theorem te_c {v : V} {d : PD} {σ : L2.St} {H : Hp} {Q : VK} (rv : ∀ F, RV z F v d) (h : tE z Wx (fC d) σ H Q) : tC v σ H Q := by
  obtain ⟨W, M, ρ, ok, env, r, hr, po⟩ := h
  cases hr
  exact po W H v (.refl ok) (.p (rv _))
theorem pd_var {i : Nat} {x : Str} {pos : Pos} (hN : X.N[i]? = some x) (hv : Vis X.env.scope x) (hd : (x == ("__debug__" : Str)) = false := by decide) (hcd : (x == ("__classdict__" : Str)) = false := by decide) : PE X (.Name x pos) (tE z Wx (fVar i)) :=
  pe_of (pe_var hN hv hd hcd) fun _ _ _ => te_var
theorem pd_int {i j pos} : PE X (.Constant (.int i) j pos) (tE z Wx (fC (.int i))) := pe_of pe_int fun _ _ _ => te_c fun _ => .int _
theorem pd_bl {b j pos} : PE X (.Constant (.bool b) j pos) (tE z Wx (fC (.bl b))) := pe_of pe_bl fun _ _ _ => te_c fun _ => .bl _
theorem pd_non {j pos} : PE X (.Constant .none j pos) (tE z Wx (fC .non)) := pe_of pe_non fun _ _ _ => te_c fun _ => .non
theorem pd_str {x j pos} : PE X (.Constant (.str x) j pos) (tE z Wx (fC (.str x))) := pe_of pe_str fun _ _ _ => te_c fun _ => .str _
end

abbrev G1 := E → Store → Option (E × Store)
abbrev G2 := E → E → Store → Option (E × Store)
abbrev GL := List E → Store → Option (E × Store)
def lft {α : Type} (o : Option (α × Store)) : Rs α := match o with
  | some (e, M) => some (.inr e, M)
  | none => none
theorem lft_some {α : Type} {o : Option (α × Store)} {r : Sum Xn α × Store} (h : lft o = some r) : ∃ e M, o = some (e, M) ∧ r = (.inr e, M) := by
  match o, h with
  | some (e, M), h => exact ⟨e, M, rfl, (Option.some.inj h).symm⟩
def r2D (z : Bz) (g : G2) : R2 := fun x y H Q => ∃ W M e1 e2, StoreOk z W M H ∧ RE z W x e1 ∧ RE z W y e2 ∧ ∃ e M', g e1 e2 M = some (e, M') ∧ ∀ W' H' v, Step z W H W' M' H' → RE z W' v e → Q v H'
def r1D (z : Bz) (g : G1) : V → Hp → VK → Prop := fun x H Q => ∃ W M e1, StoreOk z W M H ∧ RE z W x e1 ∧ ∃ e M', g e1 M = some (e, M') ∧ ∀ W' H' v, Step z W H W' M' H' → RE z W' v e → Q v H'
def rLD (z : Bz) (g : GL) : List V → Hp → VK → Prop := fun xs H Q => ∃ W M es, StoreOk z W M H ∧ REs z W xs es ∧ ∃ e M', g es M = some (e, M') ∧ ∀ W' H' v, Step z W H W' M' H' → RE z W' v e → Q v H'
theorem opR_of {X : Cx} {f : Value → Value → Sem Value} {r r' : R2} (h : OpR X f r) (w : ∀ x y H Q, r' x y H Q → r x y H Q) : OpR X f r' := fun pins s σ H x y v u Q I rx ry q => h pins s σ H x y v u Q I rx ry (w x y H Q q)
theorem callR_of {X : Cx} {f : Value} {r r' : List V → Hp → VK → Prop} (h : CallR X f r) (w : ∀ xs H Q, r' xs H Q → r xs H Q) : CallR X f r' := fun pins s σ H xs us Q I rx q => h pins s σ H xs us Q I rx (w xs H Q q)
def fBin (g : G2) (fa fb : FE) : FE := fun ρ M => bnd (fa ρ M) fun x M1 => bnd (fb ρ M1) fun y M2 => lft (g x y M2)
def fUn (g : G1) (fa : FE) : FE := fun ρ M => bnd (fa ρ M) fun x M1 => lft (g x M1)
def fCallB (g : GL) (fa : FA) : FE := fun ρ M => bnd (fa ρ M) fun xs M1 => lft (g xs M1)
section
variable {X : Cx} {z : Bz} {Wx : WX}
theorem te_bin {g : G2} {fa fb : FE} {σ : L2.St} {H : Hp} {Q : VK} (h : tE z Wx (fBin g fa fb) σ H Q) : tOp (r2D z g) (tE z Wx fa) (tE z Wx fb) σ H Q := by
  obtain ⟨W, M, ρ, ok, env, r, hr, po⟩ := h
  refine seqE ok env hr po.exc fun e1 M1 W1 H1 v1 s1 q1 hr1 => ?_
  refine seqE s1.ok (env.w s1.w) hr1 (po.exc.step s1) fun e2 M2 W2 H2 v2 s2 q2 hr2 => ?_
  obtain ⟨e, M', he, rfl⟩ := lft_some hr2
  exact ⟨W2, M2, e1, e2, s2.ok, s2.w.re q1, q2, e, M', he, fun W' H' v s q => po W' H' v ((s1.trans s2).trans s) q⟩
theorem pd_bin {op : Operator} {g : G2} {fa fb : FE} {a b : Expr} {pos : Pos} (ho : OpR X (binaryOp op) (r2D z g)) (ha : PE X a (tE z Wx fa)) (hb : PE X b (tE z Wx fb)) : PE X (.BinOp a op b pos) (tE z Wx (fBin g fa fb)) :=
  pe_of (pe_op ho ha hb) fun _ _ _ => te_bin
theorem pd_cmp {op : CmpOp} {g : G2} {fa fb : FE} {a b : Expr} {pos : Pos} (ho : OpR X (compareOp op) (r2D z g)) (ha : PE X a (tE z Wx fa)) (hb : PE X b (tE z Wx fb)) (hm : behindInMarks op b = false) : PE X (.Compare a [op] [b] pos) (tE z Wx (fBin g fa fb)) :=
  pe_of (pe_cmpR ho ha hb hm) fun _ _ _ => te_bin
theorem te_un {g : G1} {fa : FE} {σ : L2.St} {H : Hp} {Q : VK} (h : tE z Wx (fUn g fa) σ H Q) : tUn (r1D z g) (tE z Wx fa) σ H Q := by
  obtain ⟨W, M, ρ, ok, env, r, hr, po⟩ := h
  refine seqE ok env hr po.exc fun e1 M1 W1 H1 v1 s1 q1 hr1 => ?_
  obtain ⟨e, M', he, rfl⟩ := lft_some hr1
  exact ⟨W1, M1, e1, s1.ok, q1, e, M', he, fun W' H' v s q => po W' H' v (s1.trans s) q⟩
theorem pd_un {op : UnaryOp} {g : G1} {fa : FE} {a : Expr} {pos : Pos} (ho : UnR X (unaryOp op) (r1D z g)) (ha : PE X a (tE z Wx fa)) : PE X (.UnaryOp op a pos) (tE z Wx (fUn g fa)) :=
  pe_of (pe_un ho ha) fun _ _ _ => te_un

def fNil : FA := fun _ M => some (.inr [], M)
def fCons (fa : FE) (fr : FA) : FA := fun ρ M => bnd (fa ρ M) fun x M1 => bnd (fr ρ M1) fun xs M2 => some (.inr (x :: xs), M2)
theorem ta_nil {σ : L2.St} {H : Hp} {Q : List V → Hp → Prop} (h : tA z Wx fNil σ H Q) : tNil σ H Q := by
  obtain ⟨W, M, ρ, ok, env, r, hr, po⟩ := h
  cases hr
  exact po W H [] (.refl ok) .nil
theorem ta_cons {fa : FE} {fr : FA} {σ : L2.St} {H : Hp} {Q : List V → Hp → Prop} (h : tA z Wx (fCons fa fr) σ H Q) : tCons (tE z Wx fa) (tA z Wx fr) σ H Q := by
  obtain ⟨W, M, ρ, ok, env, r, hr, po⟩ := h
  refine seqE ok env hr po.exc fun e1 M1 W1 H1 v1 s1 q1 hr1 => ?_
  refine seqA s1.ok (env.w s1.w) hr1 (po.exc.step s1) fun e2 M2 W2 H2 v2 s2 q2 hr2 => ?_
  cases hr2
  exact po W2 H2 (v1 :: v2) (s1.trans s2) (.cons (s2.w.re q1) q2)
theorem pd_nil : PA X [] (tA z Wx fNil) := pa_of pa_nil fun _ _ _ => ta_nil
theorem pd_cons {fa : FE} {fr : FA} {e : Expr} {es : List Expr} (ha : PE X e (tE z Wx fa)) (hr : PA X es (tA z Wx fr)) (hs : starEach (e :: es) X.env = (false, eval e X.env) :: starEach es X.env := by rfl) : PA X (e :: es) (tA z Wx (fCons fa fr)) :=
  pa_of (pa_cons ha hr hs) fun _ _ _ => ta_cons

theorem te_callB {g : GL} {fa : FA} {σ : L2.St} {H : Hp} {Q : VK} (h : tE z Wx (fCallB g fa) σ H Q) : tCB (rLD z g) (tA z Wx fa) σ H Q := by
  obtain ⟨W, M, ρ, ok, env, r, hr, po⟩ := h
  refine seqA ok env hr po.exc fun e1 M1 W1 H1 v1 s1 q1 hr1 => ?_
  obtain ⟨e, M', he, rfl⟩ := lft_some hr1
  exact ⟨W1, M1, e1, s1.ok, q1, e, M', he, fun W' H' v s q => po W' H' v (s1.trans s) q⟩
theorem pd_callB {x : Str} {id : String} {g : GL} {fa : FA} {e : Expr} {es : List Expr} {p pos : Pos} (hc : CallR X (.builtin id) (rLD z g)) (hg : Gl X x) (hm : X.mg x = none) (hv : bootBuiltins x = some (.builtin id)) (ha : PA X (e :: es) (tA z Wx fa)) (hn : x ≠ "__name__" := by decide) (hdb : (x == ("__debug__" : Str)) = false := by decide)
    (he : starEach (e :: es) X.env = (false, eval e X.env) :: starEach es X.env := by rfl) (hpl : (backTo pos (starEach es X.env)).any (·.1) = false := by rfl) : PE X (.Call (.Name x p) (e :: es) [] pos) (tE z Wx (fCallB g fa)) :=
  pe_of (pe_callB hc hg hm hv ha hn hdb he hpl) fun _ _ _ => te_callB
theorem pd_callTy {x : Str} {T : String} {g : GL} {fa : FA} {e : Expr} {es : List Expr} {p pos : Pos} (hc : CallR X (.type T) (rLD z g)) (hg : Gl X x) (hm : X.mg x = none) (hv : bootBuiltins x = some (.type T)) (ha : PA X (e :: es) (tA z Wx fa)) (hn : x ≠ "__name__" := by decide) (hdb : (x == ("__debug__" : Str)) = false := by decide)
    (he : starEach (e :: es) X.env = (false, eval e X.env) :: starEach es X.env := by rfl) (hpl : (backTo pos (starEach es X.env)).any (·.1) = false := by rfl) : PE X (.Call (.Name x p) (e :: es) [] pos) (tE z Wx (fCallB g fa)) :=
  pe_of (pe_callTy hc hg hm hv ha hn hdb he hpl) fun _ _ _ => te_callB

def asB : E → Option Bool
  | .p (.bl b) => some b
  | _ => none
/-- a bool as a test -/
def fTst (f : FE) : FT := fun ρ M => bnd (f ρ M) fun x M1 => match asB x with
  | some b => some (.inr b, M1)
  | none => none
theorem asB_some {e : E} {b : Bool} (h : asB e = some b) : e = .p (.bl b) := by
  match e, h with
  | .p (.bl c), h => rw [Option.some.inj h]
theorem re_bl {W : Wd} {v : V} {b : Bool} (h : RE z W v (.p (.bl b))) : v = .bl b := by cases h with | p h => cases h; rfl
theorem tt_tst {f : FE} {σ : L2.St} {H : Hp} {Q : Bool → Hp → Prop} (h : tT z Wx (fTst f) σ H Q) : tTest (tE z Wx f) σ H Q := by
  obtain ⟨W, M, ρ, ok, env, r, hr, po⟩ := h
  refine seqE ok env hr po.exc fun e1 M1 W1 H1 v1 s1 q1 hr1 => ?_
  split at hr1
  · rename_i b hb
    cases hr1
    have := asB_some hb
    subst this
    rw [re_bl q1]
    exact ⟨b, rfl, po W1 H1 s1⟩
  · cases hr1
theorem pd_tcmp {op : CmpOp} {g : G2} {fa fb : FE} {a b : Expr} {pos : Pos} (ho : OpR X (compareOp op) (r2D z g)) (ha : PE X a (tE z Wx fa)) (hb : PE X b (tE z Wx fb)) (hm : behindInMarks op b = false) : PT X (.Compare a [op] [b] pos) (tT z Wx (fTst (fBin g fa fb))) := by
  refine pt_of (pt_cmpR ho ha hb hm) fun σ H Q h => ?_
  obtain ⟨W, M, ρ, ok, env, r, hr, po⟩ := tt_tst h
  exact te_bin ⟨W, M, ρ, ok, env, r, hr, po⟩
def fNotT (f : FT) : FT := fun ρ M => bnd (f ρ M) fun b M1 => some (.inr (!b), M1)
theorem pd_tnot {f : FT} {a : Expr} {pos : Pos} (ha : PT X a (tT z Wx f)) : PT X (.UnaryOp .Not a pos) (tT z Wx (fNotT f)) := by
  refine pt_of (pt_not ha) fun σ H Q h => ?_
  obtain ⟨W, M, ρ, ok, env, r, hr, po⟩ := h
  refine seqT ok env hr po.exc fun b M1 W1 H1 s1 hr1 => ?_
  cases hr1
  exact po W1 H1 s1
def fAndT (f g : FT) : FT := fun ρ M => bnd (f ρ M) fun b M1 => if b = true then g ρ M1 else some (.inr false, M1)
def fOrT (f g : FT) : FT := fun ρ M => bnd (f ρ M) fun b M1 => if b = true then some (.inr true, M1) else g ρ M1
end
end Pl

-- PL3
namespace Pl
open PySem PySem.Spec L2

section
variable {z : Bz} {W W' : Wd} {M : Store} {H H' : Hp} {a p : Addr}
theorem same_rd (s : Same H H') {u : HO} (h : Rd H a u) : Rd H' a u := h.imp (s _ _) fun ⟨o, q⟩ => ⟨o, s _ _ q⟩
theorem CellAt.mono {c : Cell} (x : WExt W W') (s : ∀ o, H a = some o → H' a = some o) (so : ∀ dx, H dx = some (.own a) → H' dx = some (.own a)) (h : CellAt z W H a c) : CellAt z W' H' a c := by
  cases c with
  | lst xs => obtain ⟨vs, e, l, r⟩ := h; exact ⟨vs, s _ e, l, x.res r⟩
  | dic xs => obtain ⟨vs, e, l, r⟩ := h; exact ⟨vs, s _ e, l, x.rek r⟩
  | dcN xs => obtain ⟨vs, e, l, r⟩ := h; exact ⟨vs, s _ e, l, x.ren r⟩
  | ins c xs => obtain ⟨dx, vs, e, d, l, r⟩ := h; exact ⟨dx, vs, s _ e, so _ d, l, x.ref r⟩
  | lck xs => obtain ⟨od, vs, e, l, r⟩ := h; exact ⟨od, vs, s _ e, l, x.rek r⟩
theorem StoreOk.none_F (ok : StoreOk z W M H) (h : H p = none) : W.F p = none := ok.same.free h
theorem StoreOk.notin (ok : StoreOk z W M H) (h : H p = none) : p ∉ W.α := fun q => ok.live p q h
theorem same_upd (h : H p = none) {o : HO} : Same H (upd H p o) := fun b u q => by rw [upd_ne (ne_of_none q h)]; exact q
/-- a new object that never changes -/
theorem newF (ok : StoreOk z W M H) (h : H p = none) (o : HO) (ho : ∀ ps, o ≠ .tbl ps := by intro _ q; cases q) : Step z W H ⟨upd W.F p o, W.α⟩ M (upd H p o) := by
  have s := same_upd (o := o) h
  have w : WExt W ⟨upd W.F p o, W.α⟩ := ⟨.of (same_upd (ok.none_F h)), [], by simp⟩
  refine ⟨same_upd (ok.none_F h), ⟨[], by simp, by simp⟩, ⟨fun b u q => ?_, ok.len, ok.nd, fun b q n => ?_, fun k c q => ?_, ok.tabs.ext s, fun b ps q => ?_, fun b hb ps hq q => ?_⟩, fun b u q => ?_, fun b u q _ _ => s b u q, fun b _ _ q => s b _ q⟩
  rotate_right
  · by_cases e : b = p
    · subst e; exact .inr (.inl (.of h))
    · have q : upd W.F p o b = some u := q
      rw [upd_ne e] at q; exact .inl q
  · by_cases e : b = p
    · subst e; simp only [upd_same] at q ⊢; exact q
    · have q : upd W.F p o b = some u := q
      rw [upd_ne e] at q; exact s _ _ (ok.same _ _ q)
  · have := ok.live b q
    cases e : H b with
    | none => exact this e
    | some u => rw [s _ _ e] at n; cases n
  · obtain ⟨b, e1, e2, e3⟩ := ok.cell k c q
    have nb : b ≠ p := fun e => ok.notin h (e ▸ List.mem_of_getElem? e1)
    exact ⟨b, e1, by show upd W.F p o b = none; rw [upd_ne nb]; exact e2, e3.mono w (fun _ => s _ _) fun _ => s _ _⟩
  · have q : upd W.F p o b = some (.tbl ps) := q
    by_cases e : b = p
    · rw [e, upd_same] at q; exact ho _ (Option.some.inj q)
    · rw [upd_ne e] at q; exact ok.ntb b ps q
  · rw [upd_ne (show b ≠ p from fun e => ok.notin h (e ▸ hb))] at q
    exact ok.nta b hb ps hq q
/-- a new cell -/
theorem newC (ok : StoreOk z W M H) (h : H p = none) {o : HO} {c : Cell} (hc : CellAt z ⟨W.F, W.α ++ [p]⟩ (upd H p o) p c) (hod : ¬ OddO o := by rintro (⟨_, q⟩ | ⟨_, _, q⟩) <;> first | cases q | (unfold LamX.CodeO at q; cases q)) : Step z W H ⟨W.F, W.α ++ [p]⟩ (M ++ [some c]) (upd H p o) := by
  have s := same_upd (o := o) h
  have w : WExt W ⟨W.F, W.α ++ [p]⟩ := ⟨.of (.refl _), [p], rfl⟩
  refine ⟨.refl _, ⟨[p], rfl, fun b q => by rw [List.mem_singleton.mp q]; exact .of h⟩, ⟨ok.same.trans s, by simp [ok.len], ?_, fun b q n => ?_, fun k c' q => ?_, ok.tabs.ext s, ok.ntb, fun b hb ps hq q => ?_⟩, fun _ _ q => .inl q, fun b u q _ _ => s b u q, fun b _ _ q => s b _ q⟩
  · refine List.nodup_append.mpr ⟨ok.nd, by simp, fun b hb c hc e => ?_⟩
    subst e
    rw [List.mem_singleton.mp hc] at hb
    exact ok.notin h hb
  · rcases List.mem_append.mp q with q | q
    · cases e : H b with
      | none => exact ok.live b q e
      | some u => rw [s _ _ e] at n; cases n
    · rw [List.mem_singleton.mp q, upd_same] at n; cases n
  · by_cases hk : k < M.length
    · rw [List.getElem?_append_left hk] at q
      obtain ⟨b, e1, e2, e3⟩ := ok.cell k c' q
      refine ⟨b, ?_, e2, e3.mono w (fun _ => s _ _) fun _ => s _ _⟩
      show (W.α ++ [p])[k]? = some b
      rw [List.getElem?_append_left (by rw [← ok.len]; exact hk)]
      exact e1
    · have hk2 : k = M.length := by
        have := (List.getElem?_eq_some_iff.mp q).1
        simp at this
        omega
      subst hk2
      rw [List.getElem?_append_right (Nat.le_refl _)] at q
      simp at q
      subst q
      refine ⟨p, ?_, ok.none_F h, hc⟩
      show (W.α ++ [p])[M.length]? = some p
      rw [ok.len, List.getElem?_append_right (Nat.le_refl _)]
      simp
  · rcases List.mem_append.mp hb with hb | hb
    · rw [upd_ne (show b ≠ p from fun e => ok.notin h (e ▸ hb))] at q
      exact ok.nta b hb ps hq q
    · rw [List.mem_singleton.mp hb, upd_same] at q
      exact hod (Option.some.inj q ▸ hq)
theorem setTabs {T : List (Addr × Str)} {H : Hp} {a : Addr} {o : HO} (ht : ∀ ps, H a ≠ some (.tbl ps)) (hc : ∀ c q, H a ≠ some (LamX.CodeO c q)) (h : LamX.Tabs T H) : LamX.Tabs T (upd H a o) := fun p hp => by
  obtain ⟨ps, h1, h2, h3⟩ := h p hp
  refine ⟨ps, by rw [upd_ne (show p.1 ≠ a from fun e => ht ps (by rw [← e]; exact h1))]; exact h1, h2, fun pos cv hq => ?_⟩
  obtain ⟨c, e1, e2⟩ := h3 pos cv hq
  exact ⟨c, e1, by rw [upd_ne (show c ≠ a from fun e => hc c p.2 (by rw [← e]; exact e2))]; exact e2⟩
theorem nest_ne {P : Program} {w : World} {a c : Addr} {L : List (NestedKey × Addr × V)} {q : Str} : NestD P w a L ≠ LamX.CodeO c q := fun e => by
  let ob : Obj := { cls := .none, data := .fields #[.none, .str q 0] }
  let h : Heap := { objs := Array.replicate (c + 1) ob }
  have at_ : ∀ b o, h.get? b = some o → o = ob := fun b o k => by
    unfold Heap.get? at k
    have hb : h.objs[b]? = if b < c + 1 then some ob else none := by
      show (Array.replicate (c + 1) ob)[b]? = _
      rw [Array.getElem?_replicate]
    rw [hb] at k
    by_cases hl : b < c + 1
    · rw [if_pos hl] at k
      exact (Option.some.inj k).symm
    · rw [if_neg hl] at k
      cases k
  have hc : h.get? c = some ob := by
    unfold Heap.get?
    have hb : h.objs[c]? = some ob := by
      show (Array.replicate (c + 1) ob)[c]? = _
      rw [Array.getElem?_replicate, if_pos (Nat.lt_succ_self c)]
    rw [hb]
  unfold NestD LamX.CodeO at e
  have e2 := congrFun (HO.ext.inj e) h
  have y : ∃ (oc : Obj) (vs : Array Value) (t : Tok), h.get? c = some oc ∧ oc.data = .fields vs ∧ vs[1]? = some (.str q t) := ⟨ob, _, 0, hc, rfl, rfl⟩
  rw [← e2] at y
  obtain ⟨xs, _, _, _, o, es, ep, k1, _, k2, _⟩ := y
  rw [at_ a o k1] at k2
  cases k2
theorem cell_nc {z : Bz} {W : Wd} {H : Hp} {a : Addr} {c : Cell} (h : CellAt z W H a c) (b : Addr) (q : Str) : H a ≠ some (LamX.CodeO b q) := fun n => by
  unfold LamX.CodeO at n
  cases c with
  | lst xs => obtain ⟨vs, e, _⟩ := h; rw [n] at e; cases e
  | dic xs =>
    obtain ⟨vs, e, _⟩ := h
    rw [n] at e; cases e
  | dcN xs => obtain ⟨L, e, _⟩ := h; rw [n] at e; exact nest_ne (Option.some.inj e).symm
  | ins c xs => obtain ⟨dx, vs, e, _⟩ := h; rw [n] at e; cases e
  | lck xs => obtain ⟨od, vs, e, _⟩ := h; rw [n] at e; cases e
theorem nest_nf {P : Program} {w : World} {a : Addr} {L : List (NestedKey × Addr × V)} {od : Obj} {u : HO} : NestD P w a L ≠ .frz od u := fun e => by unfold NestD at e; cases e
theorem cell_nf {z : Bz} {W : Wd} {H : Hp} {a : Addr} {c : Cell} (h : CellAt z W H a c) (hl : ∀ es, c ≠ .lck es) (od : Obj) (u : HO) : H a ≠ some (.frz od u) := fun n => by
  cases c with
  | lst xs => obtain ⟨vs, e, _⟩ := h; rw [n] at e; cases e
  | dic xs => obtain ⟨vs, e, _⟩ := h; rw [n] at e; cases e
  | dcN xs => obtain ⟨L, e, _⟩ := h; rw [n] at e; exact nest_nf (Option.some.inj e).symm
  | ins c xs => obtain ⟨dx, vs, e, _⟩ := h; rw [n] at e; cases e
  | lck xs => exact hl xs rfl
/-- a cell changes: the store stays right -/
theorem setOk (ok : StoreOk z W M H) {k : Nat} {c c' : Cell} (hk : M[k]? = some (some c)) (ha : W.α[k]? = some a) {o : HO} (ho : ∀ dx, o ≠ .own dx) (hn : ∀ dx, H a ≠ some (.own dx)) (hc : CellAt z W (upd H a o) a c') (hod : ¬ OddO o := by rintro (⟨_, q⟩ | ⟨_, _, q⟩) <;> first | cases q | (unfold LamX.CodeO at q; cases q)) :
    CellAt z W H a c ∧ a ∈ W.α ∧ W.F a = none ∧ StoreOk z W (M.set k (some c')) (upd H a o) := by
  have at0 : CellAt z W H a c := by
    obtain ⟨b, e1, _, e3⟩ := ok.cell k c hk
    rw [ha] at e1; cases e1
    exact e3
  have am : a ∈ W.α := List.mem_of_getElem? ha
  have Fa : W.F a = none := by
    obtain ⟨b, e1, e2, _⟩ := ok.cell k c hk
    rw [ha] at e1; cases e1
    exact e2
  refine ⟨at0, am, Fa, fun b u q => ?_, by simp [ok.len], ok.nd, fun b q n => ?_, fun j c2 q => ?_, setTabs (fun ps => ok.nta a am _ (.inl ⟨ps, rfl⟩)) (cell_nc at0) ok.tabs, ok.ntb, fun b hb ps hq q => ?_⟩
  · rw [upd_ne (ne_of_none q Fa)]; exact ok.same _ _ q
  · by_cases e : b = a
    · rw [e, upd_same] at n; cases n
    · rw [upd_ne e] at n; exact ok.live b q n
  · by_cases hj : j = k
    · subst hj
      rw [List.getElem?_set_self (List.getElem?_eq_some_iff.mp hk).1] at q
      cases q
      exact ⟨a, ha, Fa, hc⟩
    · rw [List.getElem?_set_ne (Ne.symm hj)] at q
      obtain ⟨b, e1, e2, e3⟩ := ok.cell j c2 q
      have nb : b ≠ a := fun e => hj (by
        subst e
        have h1 := List.getElem?_eq_some_iff.mp e1
        have h2 := List.getElem?_eq_some_iff.mp ha
        exact (List.getElem_inj ok.nd).mp (h1.2.trans h2.2.symm))
      refine ⟨b, e1, e2, e3.mono ⟨.of (.refl _), [], by simp⟩ (fun u q => by rw [upd_ne nb]; exact q) fun dx q => ?_⟩
      have : dx ≠ a := fun e => hn b (e ▸ q)
      rw [upd_ne this]; exact q
  · by_cases e : b = a
    · rw [e, upd_same] at q; exact hod (Option.some.inj q ▸ hq)
    · rw [upd_ne e] at q; exact ok.nta b hb ps hq q
/-- a cell changes -/
theorem setC (ok : StoreOk z W M H) {k : Nat} {c c' : Cell} (hk : M[k]? = some (some c)) (ha : W.α[k]? = some a) {o : HO} (ho : ∀ dx, o ≠ .own dx) (hn : ∀ dx, H a ≠ some (.own dx)) (hc : CellAt z W (upd H a o) a c') (hod : ¬ OddO o := by rintro (⟨_, q⟩ | ⟨_, _, q⟩) <;> first | cases q | (unfold LamX.CodeO at q; cases q)) (hlk : ∀ es, c ≠ .lck es := by intro _ q; cases q) : Step z W H W (M.set k (some c')) (upd H a o) := by
  obtain ⟨at0, am, Fa, ok'⟩ := setOk ok hk ha ho hn hc hod
  refine ⟨.refl _, ⟨[], by simp, by simp⟩, ok', fun _ _ q => .inl q, fun b u q hb _ => ?_, fun b od u q => ?_⟩
  · rw [upd_ne (show b ≠ a from fun e => hb (e ▸ am))]; exact q
  · rw [upd_ne (show b ≠ a from fun e => cell_nf at0 hlk od u (e ▸ q))]; exact q
end

def asPs : List E → Option (List PD)
  | [] => some []
  | .p d :: r => match asPs r with
    | some ds => some (d :: ds)
    | none => none
  | .r _ :: _ => none
  | .fn _ _ _ _ _ _ :: _ => none
def mkLst (m : Bool) (es : List E) (M : Store) : Option (E × Store) :=
  if m then some (.r M.length, M ++ [some (.lst es)]) else match asPs es with
    | some ds => some (.p (.lst ds), M)
    | none => none
def mkTup (es : List E) (M : Store) : Option (E × Store) := match asPs es with
  | some ds => some (.p (.tup ds), M)
  | none => none
theorem asPs_rvs {z : Bz} {W : Wd} : ∀ {es : List E} {ds : List PD} {vs : List V}, asPs es = some ds → REs z W vs es → RVs z W.F vs ds
  | [], ds, vs, h, r => by cases r; cases h; exact .nil
  | .p d :: es, ds, vs, h, r => by
    unfold asPs at h
    split at h
    · rename_i ds' e
      cases h
      cases r with
      | cons h1 h2 => cases h1 with | p h1 => exact .cons h1 (asPs_rvs e h2)
    · cases h
  | .r k :: es, ds, vs, h, r => by unfold asPs at h; cases h
  | .fn _ _ _ _ _ _ :: es, ds, vs, h, r => by unfold asPs at h; cases h
theorem asPs_map : ∀ ds : List PD, asPs (ds.map .p) = some ds
  | [] => rfl
  | d :: ds => by show asPs (.p d :: ds.map .p) = _; unfold asPs; rw [asPs_map ds]
theorem rvs_res {z : Bz} {W : Wd} : ∀ {ds : List PD} {vs : List V}, RVs z W.F vs ds → REs z W vs (ds.map .p)
  | _, _, .nil => .nil
  | _, _, .cons h r => .cons (.p h) (rvs_res r)
section
variable {z : Bz} {W : Wd} {M M' : Store} {H : Hp} {es : List E} {vs : List V} {e : E} {Q : VK} {p : Addr}
theorem mkLst_ok {m : Bool} (ok : StoreOk z W M H) (h : mkLst m es M = some (e, M')) (r : REs z W vs es) (hl : vs.length ≤ sizeLine) (hp : H p = none) (hq : ∀ W' H' v, Step z W H W' M' H' → RE z W' v e → Q v H') : Q (.ref p) (upd H p (.lst vs)) := by
  unfold mkLst at h
  split at h
  · cases h
    refine hq _ _ _ (newC (o := .lst vs) ok hp ⟨vs, upd_same, hl, ?_⟩) (.r ?_)
    · exact WExt.res (W := W) (W' := ⟨W.F, W.α ++ [p]⟩) ⟨.of (.refl _), [p], rfl⟩ r
    · show (W.α ++ [p])[M.length]? = some p
      rw [ok.len, List.getElem?_append_right (Nat.le_refl _)]
      simp
  · split at h
    · rename_i ds hd
      cases h
      have s := newF ok hp (.lst vs)
      exact hq _ _ _ s (.p (.lst upd_same hl ((asPs_rvs hd r).ext s.w.ext)))
    · cases h
theorem mkTup_ok (ok : StoreOk z W M H) (h : mkTup es M = some (e, M')) (r : REs z W vs es) (hl : vs.length ≤ sizeLine) (hp : H p = none) (hq : ∀ W' H' v, Step z W H W' M' H' → RE z W' v e → Q v H') : Q (.ref p) (upd H p (.tup vs)) := by
  unfold mkTup at h
  split at h
  · rename_i ds hd
    cases h
    have s := newF ok hp (.tup vs)
    exact hq _ _ _ s (.p (.tup (SqT.of upd_same) hl ((asPs_rvs hd r).ext s.w.ext)))
  · cases h
end
end Pl

-- PL4
namespace Pl
open PySem PySem.Spec L2

structure Fits (X : Cx) (z : Bz) : Prop where
  prog : z.prog = X.prog
  w : z.w = X.w
  K : z.K = X.K
mutual
def toPy : PD → Option PyData
  | .non => some .none
  | .bl b => some (.bool b)
  | .int i => some (.int i)
  | .str s => some (.str s)
  | .lst ds => (toPys ds).map .list
  | .tup ds => (toPys ds).map .tuple
  | _ => none
def toPys : List PD → Option (List PyData)
  | [] => some []
  | d :: ds => match toPy d, toPys ds with
    | some a, some b => some (a :: b)
    | _, _ => none
end
def cellPy : Option (Option Cell) → Option PyData
  | some (some (.lst es)) => match asPs es with
    | some ds => (toPys ds).map .list
    | none => none
  | _ => none
def toPyE (M : Store) : E → Option PyData
  | .p d => toPy d
  | .r k => cellPy M[k]?
  | .fn _ _ _ _ _ _ => none
mutual
theorem toPy_plain : ∀ {d : PD} {x : PyData}, toPy d = some x → x.plain = true
  | .non, x, h => by cases h; rfl
  | .bl _, x, h => by cases h; rfl
  | .int _, x, h => by cases h; rfl
  | .str _, x, h => by cases h; rfl
  | .lst ds, x, h => by
    unfold toPy at h
    cases e : toPys ds with
    | none => rw [e] at h; cases h
    | some l => rw [e] at h; cases h; exact toPys_plain e
  | .tup ds, x, h => by
    unfold toPy at h
    cases e : toPys ds with
    | none => rw [e] at h; cases h
    | some l => rw [e] at h; cases h; exact toPys_plain e
  | .scr _, x, h => by cases h
  | .dic _, x, h => by cases h
  | .set _, x, h => by cases h
  | .iset _, x, h => by cases h
  | .ins _ _, x, h => by cases h
  | .exn _ _, x, h => by cases h
  | .ty _, x, h => by cases h
  | .cls _, x, h => by cases h
theorem toPys_plain : ∀ {ds : List PD} {xs : List PyData}, toPys ds = some xs → PyData.plainAll xs = true
  | [], xs, h => by cases h; rfl
  | d :: ds, xs, h => by
    unfold toPys at h
    split at h
    · rename_i a b e1 e2
      cases h
      show (a.plain && PyData.plainAll b) = true
      rw [toPy_plain e1, toPys_plain e2]; rfl
    · cases h
end
theorem toPyE_plain {M : Store} {e : E} {x : PyData} (h : toPyE M e = some x) : x.plain = true := by
  cases e with
  | p d => exact toPy_plain h
  | fn _ _ _ _ _ _ => cases h
  | r k =>
    have h : cellPy M[k]? = some x := h
    unfold cellPy at h
    split at h
    · split at h
      · rename_i ds _
        cases e : toPys ds with
        | none => rw [e] at h; cases h
        | some l => rw [e] at h; cases h; exact toPys_plain e
      · cases h
    · cases h
mutual
theorem RV.dp {z : Bz} {F H : Hp} (s : Same F H) : ∀ {v : V} {d : PD} {x : PyData}, RV z F v d → toPy d = some x → Dp z.K H v x
  | _, _, x, .non, h => by cases h; exact .non
  | _, _, x, .bl b, h => by cases h; exact .bl b
  | _, _, x, .int b, h => by cases h; exact .int b
  | _, _, x, .str b, h => by cases h; exact .str b
  | _, _, x, .lst (ds := ds) e l r, h => by
    unfold toPy at h
    cases q : toPys ds with
    | none => rw [q] at h; cases h
    | some xs => rw [q] at h; cases h; exact .lst (.of (s _ _ e)) (RVs.dp s r q)
  | _, _, x, .tup (ds := ds) e l r, h => by
    unfold toPy at h
    cases q : toPys ds with
    | none => rw [q] at h; cases h
    | some xs => rw [q] at h; cases h; exact .tup ((Ext.of s).sqT e) (RVs.dp s r q)
  | _, _, x, .scr _ _ _, h => by cases h
  | _, _, x, .dic _ _ _, h => by cases h
  | _, _, x, .set _ _ _, h => by cases h
  | _, _, x, .iset _ _ _, h => by cases h
  | _, _, x, .ins _ _, h => by cases h
  | _, _, x, .exn0 _, h => by cases h
  | _, _, x, .exn _ _ _ _, h => by cases h
  | _, _, x, .ty _, h => by cases h
  | _, _, x, .cls _, h => by cases h
theorem RVs.dp {z : Bz} {F H : Hp} (s : Same F H) : ∀ {vs : List V} {ds : List PD} {xs : List PyData}, RVs z F vs ds → toPys ds = some xs → DpAll z.K H vs xs
  | _, _, xs, .nil, h => by cases h; exact .nil
  | _, _, xs, .cons (d := d) (ds := ds) r rs, h => by
    unfold toPys at h
    split at h
    · rename_i a b e1 e2
      cases h
      exact .cons (RV.dp s r e1) (RVs.dp s rs e2)
    · cases h
end
section
variable {z : Bz} {W : Wd} {M : Store} {H : Hp} {v : V} {e : E}
theorem RE.dp {x : PyData} (ok : StoreOk z W M H) (r : RE z W v e) (h : toPyE M e = some x) : Dp z.K H v x := by
  cases r with
  | p r => exact r.dp ok.same h
  | fn _ _ => cases h
  | r ha =>
    rename_i a k
    have h : cellPy M[k]? = some x := h
    unfold cellPy at h
    split at h
    · rename_i es hM
      split at h
      · rename_i ds hd
        obtain ⟨b, e1, e2, vs, e3, e4, e5⟩ := ok.cell k _ hM
        rw [ha] at e1; cases e1
        cases q : toPys ds with
        | none => rw [q] at h; cases h
        | some xs => rw [q] at h; cases h; exact .lst (.of e3) (RVs.dp ok.same (asPs_rvs hd e5) q)
      · cases h
    · cases h
/-- what stands as a list -/
def asLst (M : Store) : E → Option (List E)
  | .p (.lst ds) => some (ds.map .p)
  | .r k => match M[k]? with
    | some (some (.lst es)) => some es
    | _ => none
  | _ => none
def asTup : E → Option (List E)
  | .p (.tup ds) => some (ds.map .p)
  | _ => none
def asInt : E → Option Int
  | .p (.int i) => some i
  | _ => none
def asStr : E → Option Str
  | .p (.str i) => some i
  | _ => none
theorem asLst_ok {es : List E} (ok : StoreOk z W M H) (r : RE z W v e) (h : asLst M e = some es) : ∃ a vs, v = .ref a ∧ H a = some (.lst vs) ∧ vs.length ≤ sizeLine ∧ REs z W vs es := by
  unfold asLst at h
  split at h
  · cases h
    cases r with | p r => cases r with | lst e l rs => exact ⟨_, _, rfl, ok.same _ _ e, l, rvs_res rs⟩
  · rename_i k
    split at h
    · rename_i es' hM
      cases h
      cases r with | r ha =>
        obtain ⟨b, e1, e2, vs, e3, e4, e5⟩ := ok.cell k _ hM
        rw [ha] at e1; cases e1
        exact ⟨_, _, rfl, e3, e4, e5⟩
    · cases h
  · cases h
theorem asTup_ok {es : List E} (ok : StoreOk z W M H) (r : RE z W v e) (h : asTup e = some es) : ∃ a vs, v = .ref a ∧ SqT z.K H a vs ∧ vs.length ≤ sizeLine ∧ REs z W vs es := by
  unfold asTup at h
  split at h
  · cases h
    cases r with | p r => cases r with | tup e l rs => exact ⟨_, _, rfl, (Ext.of ok.same).sqT e, l, rvs_res rs⟩
  · cases h
theorem asInt_ok {i : Int} (r : RE z W v e) (h : asInt e = some i) : v = .int i := by
  unfold asInt at h
  split at h
  · cases h; cases r with | p r => cases r; rfl
  · cases h
theorem asStr_ok {i : Str} (r : RE z W v e) (h : asStr e = some i) : v = .str i := by
  unfold asStr at h
  split at h
  · cases h; cases r with | p r => cases r; rfl
  · cases h
theorem asB_ok {b : Bool} (r : RE z W v e) (h : asB e = some b) : v = .bl b := by
  have := asB_some h
  subst this
  exact re_bl r
end

def gBl (o : Option Bool) (M : Store) : Option (E × Store) := match o with
  | some b => some (.p (.bl b), M)
  | none => none
def pyEq (M : Store) (a b : E) : Option Bool := match toPyE M a, toPyE M b with
  | some x, some y => if min x.depth y.depth ≤ 60 then some (PyData.eqv x y) else none
  | _, _ => none
def gEq : G2 := fun a b M => gBl (pyEq M a b) M
def gNe : G2 := fun a b M => gBl ((pyEq M a b).map not) M
def pyIn (M : Store) (a c : E) : Option Bool := match toPyE M a, toPyE M c with
  | some x, some (.list ys) => if min (PyData.depthAll ys) x.depth ≤ 60 then some (ys.any fun y => PyData.eqv y x) else none
  | some x, some (.tuple ys) => if min (PyData.depthAll ys) x.depth ≤ 60 then some (ys.any fun y => PyData.eqv y x) else none
  | some (.str x), some (.str y) => some (!(Builtin.Str.occurrences y x 0 y.length 1).isEmpty)
  | _, _ => none
def gIn : G2 := fun a b M => gBl (pyIn M a b) M
def gNotIn : G2 := fun a b M => gBl ((pyIn M a b).map not) M
def notNone : PyData → Bool
  | .none => false
  | _ => true
def pyLt (M : Store) (a b : E) : Option Bool := match toPyE M a, toPyE M b with
  | some (.int i), some (.int j) => some (decide (i < j))
  | some x, some y => if (PySem.W.alike x y && notNone x && decide (min x.depth y.depth ≤ 60)) = true then some (PySem.W.dataLt x y) else none
  | _, _ => none
def pyLe (M : Store) (a b : E) : Option Bool := match toPyE M a, toPyE M b with
  | some (.int i), some (.int j) => some (decide (i ≤ j))
  | some x, some y => if (PySem.W.alike x y && notNone x && decide (min x.depth y.depth ≤ 60)) = true then some (!PySem.W.dataLt y x) else none
  | _, _ => none
def gLt : G2 := fun a b M => gBl (pyLt M a b) M
def gGt : G2 := fun a b M => gBl (pyLt M b a) M
def gLe : G2 := fun a b M => gBl (pyLe M a b) M
def gGe : G2 := fun a b M => gBl (pyLe M b a) M
/-- is None -/
def isNonE : E → Bool
  | .p .non => true
  | _ => false
def gIsN : G2 := fun a b M => match b with
  | .p .non => some (.p (.bl (isNonE a)), M)
  | _ => none
def gIsNotN : G2 := fun a b M => match b with
  | .p .non => some (.p (.bl (!isNonE a)), M)
  | _ => none
theorem gBl_some {o : Option Bool} {M M' : Store} {e : E} (h : gBl o M = some (e, M')) : ∃ b, o = some b ∧ e = .p (.bl b) ∧ M' = M := by
  cases o with
  | none => cases h
  | some b => cases h; exact ⟨b, rfl, rfl, rfl⟩
theorem notNone_ne {x : PyData} (h : notNone x = true) : x ≠ .none := by
  intro e; subst e; cases h
section
variable {X : Cx} {z : Bz}
theorem op_bl {f : Value → Value → Sem Value} {o : Store → E → E → Option Bool} (F : Fits X z)
    (h : ∀ (M : Store) (a b : E) (k : Bool), o M a b = some k → ∀ (pins : List (Addr × Obj)) (s : Shared) (σ : L2.St) (H : Hp) (W : Wd) (x y : V) (v u : Value) (Q : Value → Shared → Prop), Inv X pins σ H s → StoreOk z W M H → RE z W x a → RE z W y b → RelV x v → RelV y u → (∀ tk, Q (.bool k) { s with toks := tk }) →
      wpAny (model X.prog X.w) X.A (f v u) Q X.xe s) : OpR X f (r2D z fun a b M => gBl (o M a b) M) := by
  intro pins s σ H x y v u Q I rx ry ⟨W, M, a, b, ok, ra, rb, e, M', hg, hq⟩
  obtain ⟨k, h1, rfl, rfl⟩ := gBl_some hg
  exact h _ a b k h1 pins s σ H W x y v u _ I ok ra rb rx ry fun tk => ⟨.bl k, H, I.tok _, rfl, hq W H _ (.refl ok) (.p (.bl _))⟩
theorem reads_of (F : Fits X z) {pins : List (Addr × Obj)} {s : Shared} {σ : L2.St} {H : Hp} {W : Wd} {M : Store} {x : V} {v : Value} {a : E} {d : PyData} (I : Inv X pins σ H s) (ok : StoreOk z W M H) (ra : RE z W x a) (rx : RelV x v) (h : toPyE M a = some d) : ∃ as, Reads s.heap v d as :=
  Dp.reads I d x v (F.K ▸ ra.dp ok h) rx
theorem tok_self {s : Shared} : { s with toks := s.toks } = s := rfl
theorem op_eqP (F : Fits X z) (hu : X.A.units + 64 < cLine) : OpR X (compareOp .Eq) (r2D z gEq) := by
  refine op_bl (o := pyEq) F fun M a b k h pins s σ H W x y v u Q I ok ra rb rx ry q => ?_
  unfold pyEq at h
  split at h
  · rename_i dx dy e1 e2
    split at h
    · rename_i hd
      cases h
      obtain ⟨as, r1⟩ := reads_of F I ok ra rx e1
      obtain ⟨bs, r2⟩ := reads_of F I ok rb ry e2
      exact PySem.SeqAt.eq_plain r1 r2 (toPyE_plain e1) (toPyE_plain e2) (by omega) (q s.toks)
    · cases h
  · cases h
theorem op_neP (F : Fits X z) (hu : X.A.units + 64 < cLine) : OpR X (compareOp .NotEq) (r2D z gNe) := by
  refine op_bl (o := fun M a b => (pyEq M a b).map not) F fun M a b k h pins s σ H W x y v u Q I ok ra rb rx ry q => ?_
  unfold pyEq at h
  split at h
  · rename_i dx dy e1 e2
    split at h
    · rename_i hd
      cases h
      obtain ⟨as, r1⟩ := reads_of F I ok ra rx e1
      obtain ⟨bs, r2⟩ := reads_of F I ok rb ry e2
      exact PySem.SeqAt.ne_plain r1 r2 (toPyE_plain e1) (toPyE_plain e2) (by omega) (q s.toks)
    · cases h
  · cases h
end
end Pl

-- PL5
namespace Pl
open PySem PySem.Spec L2
section
variable {X : Cx} {z : Bz}
theorem op_inP (F : Fits X z) (hu : X.A.units + 64 < cLine) : OpR X (compareOp .In) (r2D z gIn) := by
  refine op_bl (o := pyIn) F fun M a b k h pins s σ H W x y v u Q I ok ra rb rx ry q => ?_
  unfold pyIn at h
  split at h
  · rename_i dx dy e1 e2
    split at h
    · cases h
      obtain ⟨as, r1⟩ := reads_of F I ok ra rx e1
      obtain ⟨bs, r2⟩ := reads_of F I ok rb ry e2
      exact PySem.SeqAt.in_list_data r2 r1 (toPyE_plain e2) (toPyE_plain e1) (by omega) (q s.toks)
    · cases h
  · rename_i dx dy e1 e2
    split at h
    · cases h
      obtain ⟨as, r1⟩ := reads_of F I ok ra rx e1
      obtain ⟨bs, r2⟩ := reads_of F I ok rb ry e2
      exact PySem.SeqAt.in_tuple_data r2 r1 (toPyE_plain e2) (toPyE_plain e1) (by omega) (q s.toks)
    · cases h
  · rename_i dx dy e1 e2
    cases h
    obtain ⟨as, r1⟩ := reads_of F I ok ra rx e1
    obtain ⟨bs, r2⟩ := reads_of F I ok rb ry e2
    cases r1
    cases r2
    exact PyProof.Rows.in_str (q s.toks)
  · cases h
theorem op_notInP (F : Fits X z) (hu : X.A.units + 64 < cLine) : OpR X (compareOp .NotIn) (r2D z gNotIn) := by
  refine op_bl (o := fun M a b => (pyIn M a b).map not) F fun M a b k h pins s σ H W x y v u Q I ok ra rb rx ry q => ?_
  unfold pyIn at h
  split at h
  · rename_i dx dy e1 e2
    split at h
    · cases h
      obtain ⟨as, r1⟩ := reads_of F I ok ra rx e1
      obtain ⟨bs, r2⟩ := reads_of F I ok rb ry e2
      exact PySem.SeqAt.notIn_list_data r2 r1 (toPyE_plain e2) (toPyE_plain e1) (by omega) (q s.toks)
    · cases h
  · rename_i dx dy e1 e2
    split at h
    · cases h
      obtain ⟨as, r1⟩ := reads_of F I ok ra rx e1
      obtain ⟨bs, r2⟩ := reads_of F I ok rb ry e2
      exact PySem.SeqAt.notIn_tuple_data r2 r1 (toPyE_plain e2) (toPyE_plain e1) (by omega) (q s.toks)
    · cases h
  · rename_i dx dy e1 e2
    cases h
    obtain ⟨as, r1⟩ := reads_of F I ok ra rx e1
    obtain ⟨bs, r2⟩ := reads_of F I ok rb ry e2
    cases r1
    cases r2
    exact PyProof.Rows.notIn_str (q s.toks)
  · cases h
theorem ord_split {M : Store} {a b : E} {k : Bool} (h : pyLt M a b = some k) : (∃ i j, toPyE M a = some (.int i) ∧ toPyE M b = some (.int j) ∧ k = decide (i < j)) ∨ ∃ x y, toPyE M a = some x ∧ toPyE M b = some y ∧ PySem.W.alike x y = true ∧ x ≠ .none ∧ min x.depth y.depth ≤ 60 ∧ k = PySem.W.dataLt x y := by
  unfold pyLt at h
  split at h
  · rename_i i j e1 e2
    cases h
    exact .inl ⟨i, j, e1, e2, rfl⟩
  · rename_i x y _ e1 e2
    split at h
    · rename_i hc
      cases h
      simp only [Bool.and_eq_true, decide_eq_true_eq] at hc
      exact .inr ⟨x, y, e1, e2, hc.1.1, notNone_ne hc.1.2, hc.2, rfl⟩
    · cases h
  · cases h
theorem ord_split2 {M : Store} {a b : E} {k : Bool} (h : pyLe M a b = some k) : (∃ i j, toPyE M a = some (.int i) ∧ toPyE M b = some (.int j) ∧ k = decide (i ≤ j)) ∨ ∃ x y, toPyE M a = some x ∧ toPyE M b = some y ∧ PySem.W.alike x y = true ∧ x ≠ .none ∧ min x.depth y.depth ≤ 60 ∧ k = !PySem.W.dataLt y x := by
  unfold pyLe at h
  split at h
  · rename_i i j e1 e2
    cases h
    exact .inl ⟨i, j, e1, e2, rfl⟩
  · rename_i x y _ e1 e2
    split at h
    · rename_i hc
      cases h
      simp only [Bool.and_eq_true, decide_eq_true_eq] at hc
      exact .inr ⟨x, y, e1, e2, hc.1.1, notNone_ne hc.1.2, hc.2, rfl⟩
    · cases h
  · cases h
theorem min_swap (a b : Nat) : min a b = min b a := by omega
theorem ne_none_alike {x y : PyData} (h : PySem.W.alike x y = true) (hn : x ≠ .none) : y ≠ .none := by
  intro e
  subst e
  cases x <;> first | exact hn rfl | cases h
theorem alike_swap {x y : PyData} (h : PySem.W.alike x y = true) : PySem.W.alike y x = true := by rw [PySem.W.alike_comm]; exact h
theorem op_ltP (F : Fits X z) (hu : X.A.units + 64 < cLine) : OpR X (compareOp .Lt) (r2D z gLt) := by
  refine op_bl (o := pyLt) F fun M a b k h pins s σ H W x y v u Q I ok ra rb rx ry q => ?_
  rcases ord_split h with ⟨i, j, e1, e2, rfl⟩ | ⟨dx, dy, e1, e2, al, nn, dp, rfl⟩ <;> (obtain ⟨as, r1⟩ := reads_of F I ok ra rx e1; obtain ⟨bs, r2⟩ := reads_of F I ok rb ry e2)
  · cases r1
    cases r2
    exact PyProof.Rows.lt_int (q s.toks)
  · exact PySem.W.lt_data r1 r2 al nn (by omega) (q s.toks)
theorem op_gtP (F : Fits X z) (hu : X.A.units + 64 < cLine) : OpR X (compareOp .Gt) (r2D z gGt) := by
  refine op_bl (o := fun M a b => pyLt M b a) F fun M a b k h pins s σ H W x y v u Q I ok ra rb rx ry q => ?_
  rcases ord_split h with ⟨i, j, e1, e2, rfl⟩ | ⟨dx, dy, e1, e2, al, nn, dp, rfl⟩ <;> (obtain ⟨as, r1⟩ := reads_of F I ok rb ry e1; obtain ⟨bs, r2⟩ := reads_of F I ok ra rx e2)
  · cases r1
    cases r2
    exact PyProof.Rows.gt_int (q s.toks)
  · exact PySem.W.gt_data r2 r1 (alike_swap al) (ne_none_alike al nn) (by omega) (q s.toks)
theorem op_leP (F : Fits X z) (hu : X.A.units + 64 < cLine) : OpR X (compareOp .LtE) (r2D z gLe) := by
  refine op_bl (o := pyLe) F fun M a b k h pins s σ H W x y v u Q I ok ra rb rx ry q => ?_
  rcases ord_split2 h with ⟨i, j, e1, e2, rfl⟩ | ⟨dx, dy, e1, e2, al, nn, dp, rfl⟩ <;> (obtain ⟨as, r1⟩ := reads_of F I ok ra rx e1; obtain ⟨bs, r2⟩ := reads_of F I ok rb ry e2)
  · cases r1
    cases r2
    exact PyProof.Rows.le_int (q s.toks)
  · exact PySem.W.le_data r1 r2 al nn (by omega) (q s.toks)
theorem op_geP (F : Fits X z) (hu : X.A.units + 64 < cLine) : OpR X (compareOp .GtE) (r2D z gGe) := by
  refine op_bl (o := fun M a b => pyLe M b a) F fun M a b k h pins s σ H W x y v u Q I ok ra rb rx ry q => ?_
  rcases ord_split2 h with ⟨i, j, e1, e2, rfl⟩ | ⟨dx, dy, e1, e2, al, nn, dp, rfl⟩ <;> (obtain ⟨as, r1⟩ := reads_of F I ok rb ry e1; obtain ⟨bs, r2⟩ := reads_of F I ok ra rx e2)
  · cases r1
    cases r2
    exact PyProof.Rows.ge_int (q s.toks)
  · exact PySem.W.ge_data r2 r1 (alike_swap al) (ne_none_alike al nn) (by omega) (q s.toks)
theorem re_non_iff {W : Wd} {x : V} {a : E} (r : RE z W x a) : isNonE a = decide (x = .non) := by
  cases r with
  | p r => cases r <;> simp [isNonE]
  | r r => simp [isNonE]
  | fn _ _ => simp [isNonE]
theorem op_isN (F : Fits X z) : OpR X (compareOp .Is) (r2D z gIsN) := by
  refine opR_of L2.op_isN fun x y H Q ⟨W, M, a, b, ok, ra, rb, e, M', hg, hq⟩ => ?_
  unfold gIsN at hg
  split at hg
  · cases hg
    cases rb with | p rb => cases rb; exact ⟨rfl, hq W H _ (.refl ok) (by rw [re_non_iff ra]; exact .p (.bl _))⟩
  · cases hg
theorem op_isNotN (F : Fits X z) : OpR X (compareOp .IsNot) (r2D z gIsNotN) := by
  refine opR_of L2.op_notN fun x y H Q ⟨W, M, a, b, ok, ra, rb, e, M', hg, hq⟩ => ?_
  unfold gIsNotN at hg
  split at hg
  · cases hg
    have h := re_non_iff ra
    cases rb with | p rb => cases rb; exact ⟨rfl, hq W H _ (.refl ok) (by rw [h]; exact .p (.bl _))⟩
  · cases hg

def gI2 (f : Int → Int → Option Int) : G2 := fun a b M => match asInt a, asInt b with
  | some i, some j => match f i j with
    | some k => some (.p (.int k), M)
    | none => none
  | _, _ => none
theorem opI2 {op : Value → Value → Sem Value} {f : Int → Int → Option Int} {C : Int → Int → Prop} {g : Int → Int → Int} (h : OpR X op (rI C fun i j => .int (g i j))) (hf : ∀ i j k, f i j = some k → C i j ∧ k = g i j) : OpR X op (r2D z (gI2 f)) := by
  refine opR_of h fun x y H Q ⟨W, M, a, b, ok, ra, rb, e, M', hg, hq⟩ => ?_
  unfold gI2 at hg
  split at hg
  · rename_i i j e1 e2
    split at hg
    · rename_i k e3
      cases hg
      obtain ⟨c, rfl⟩ := hf i j k e3
      exact ⟨i, j, asInt_ok ra e1, asInt_ok rb e2, c, hq W H _ (.refl ok) (.p (.int _))⟩
    · cases hg
  · cases hg
theorem opI2' {op : Value → Value → Sem Value} {f : Int → Int → Option Int} {g : Int → Int → Int} (h : OpR X op (rI0 fun i j => .int (g i j))) (hf : ∀ i j k, f i j = some k → k = g i j) : OpR X op (r2D z (gI2 f)) :=
  opI2 (C := fun _ _ => True) (g := g) (opR_of h fun x y H Q ⟨i, j, e1, e2, _, q⟩ => ⟨i, j, e1, e2, q⟩) fun i j k e => ⟨trivial, hf i j k e⟩
def iSub (i j : Int) : Option Int := some (i - j)
def iMod (i j : Int) : Option Int := if 0 < j then some (i % j) else none
def iFdiv (i j : Int) : Option Int := if 0 < j ∧ j < 1073741824 then some (i / j) else none
def iPow (i j : Int) : Option Int := if 0 ≤ j ∧ j ≤ 1000000 ∧ i.natAbs < 2 ^ 64 then some (i ^ j.toNat) else none
def iShl (i j : Int) : Option Int := if 0 ≤ j ∧ j ≤ 1000000 ∧ i.natAbs < 2 ^ 64 then some (i * 2 ^ j.toNat) else none
def iShr (i j : Int) : Option Int := if 0 ≤ j then some (i / 2 ^ j.toNat) else none
def iAnd (i j : Int) : Option Int := some (Builtin.bitAnd i j)
def iOr (i j : Int) : Option Int := some (Builtin.bitOr i j)
def iXor (i j : Int) : Option Int := some (Builtin.bitXor i j)
theorem op_subP : OpR X (binaryOp .Sub) (r2D z (gI2 iSub)) := opI2' op_sub fun i j k h => by cases h; rfl
theorem op_modP : OpR X (binaryOp .Mod) (r2D z (gI2 iMod)) := opI2 op_mod fun i j k h => by
  unfold iMod at h
  split at h
  · cases h; exact ⟨by assumption, rfl⟩
  · cases h
theorem op_fdivP : OpR X (binaryOp .FloorDiv) (r2D z (gI2 iFdiv)) := opI2 op_fdiv fun i j k h => by
  unfold iFdiv at h
  split at h
  · cases h; exact ⟨by assumption, rfl⟩
  · cases h
theorem op_powP : OpR X (binaryOp .Pow) (r2D z (gI2 iPow)) := opI2 op_pow fun i j k h => by
  unfold iPow at h
  split at h
  · cases h; exact ⟨by assumption, rfl⟩
  · cases h
theorem op_shlP : OpR X (binaryOp .LShift) (r2D z (gI2 iShl)) := opI2 op_shl fun i j k h => by
  unfold iShl at h
  split at h
  · cases h; exact ⟨by assumption, rfl⟩
  · cases h
theorem op_shrP : OpR X (binaryOp .RShift) (r2D z (gI2 iShr)) := opI2 op_shr fun i j k h => by
  unfold iShr at h
  split at h
  · cases h; exact ⟨by assumption, rfl⟩
  · cases h
theorem op_andP : OpR X (binaryOp .BitAnd) (r2D z (gI2 iAnd)) := opI2' op_and fun i j k h => by cases h; rfl
theorem op_orP : OpR X (binaryOp .BitOr) (r2D z (gI2 iOr)) := opI2' op_or fun i j k h => by cases h; rfl
theorem op_xorP : OpR X (binaryOp .BitXor) (r2D z (gI2 iXor)) := opI2' op_xor fun i j k h => by cases h; rfl
end
end Pl

-- PL6
namespace Pl
open PySem PySem.Spec L2

def gOr (g h : G2) : G2 := fun a b M => match g a b M with
  | some r => some r
  | none => h a b M
def gOrL (g h : GL) : GL := fun a M => match g a M with
  | some r => some r
  | none => h a M
section
variable {X : Cx} {z : Bz}
theorem opR_or {f : Value → Value → Sem Value} {g h : G2} (hg : OpR X f (r2D z g)) (hh : OpR X f (r2D z h)) : OpR X f (r2D z (gOr g h)) := by
  refine opR_of (hg.or hh) fun x y H Q ⟨W, M, a, b, ok, ra, rb, e, M', hr, hq⟩ => ?_
  unfold gOr at hr
  split at hr
  · rename_i r e1
    cases hr
    exact .inl ⟨W, M, a, b, ok, ra, rb, e, M', e1, hq⟩
  · exact .inr ⟨W, M, a, b, ok, ra, rb, e, M', hr, hq⟩
theorem callR_or {f : Value} {g h : GL} (hg : CallR X f (rLD z g)) (hh : CallR X f (rLD z h)) : CallR X f (rLD z (gOrL g h)) := by
  intro pins s σ H xs us Q I r ⟨W, M, es, ok, rs, e, M', hr, hq⟩
  unfold gOrL at hr
  split at hr
  · rename_i r' e1
    cases hr
    exact hg pins s σ H xs us Q I r ⟨W, M, es, ok, rs, e, M', e1, hq⟩
  · exact hh pins s σ H xs us Q I r ⟨W, M, es, ok, rs, e, M', hr, hq⟩
end
theorem paired_app {α β : Type} {R : α → β → Prop} : ∀ {xs xs' : List α} {ys ys' : List β}, Paired R xs ys → Paired R xs' ys' → Paired R (xs ++ xs') (ys ++ ys')
  | _, _, _, _, .nil, s => s
  | _, _, _, _, .cons r t, s => .cons r (paired_app t s)
theorem paired_get {α β : Type} {R : α → β → Prop} : ∀ {xs : List α} {ys : List β} {i : Nat} {y : β}, Paired R xs ys → ys[i]? = some y → ∃ x, xs[i]? = some x ∧ R x y
  | _, _, i, _, .nil, h => by simp at h
  | _, _, 0, _, .cons r t, h => by simp at h; subst h; exact ⟨_, rfl, r⟩
  | _, _, i + 1, _, .cons r t, h => by
    obtain ⟨x, h1, h2⟩ := paired_get (i := i) t (by simpa using h)
    exact ⟨x, by simpa using h1, h2⟩
theorem paired_get' {α β : Type} {R : α → β → Prop} : ∀ {xs : List α} {ys : List β} {i : Nat} {x : α}, Paired R xs ys → xs[i]? = some x → ∃ y, ys[i]? = some y ∧ R x y
  | _, _, i, _, .nil, h => by simp at h
  | _, _, 0, _, .cons r t, h => by simp at h; subst h; exact ⟨_, rfl, r⟩
  | _, _, i + 1, _, .cons r t, h => by
    obtain ⟨x, h1, h2⟩ := paired_get' (i := i) t (by simpa using h)
    exact ⟨x, by simpa using h1, h2⟩
theorem paired_drop {α β : Type} {R : α → β → Prop} : ∀ {xs : List α} {ys : List β} (n : Nat), Paired R xs ys → Paired R (xs.drop n) (ys.drop n)
  | _, _, 0, r => r
  | _, _, _ + 1, .nil => .nil
  | _, _, n + 1, .cons _ t => paired_drop n t
theorem paired_take {α β : Type} {R : α → β → Prop} : ∀ {xs : List α} {ys : List β} (n : Nat), Paired R xs ys → Paired R (xs.take n) (ys.take n)
  | _, _, 0, _ => .nil
  | _, _, _ + 1, .nil => .nil
  | _, _, n + 1, .cons r t => .cons r (paired_take n t)
theorem paired_rep {α β : Type} {R : α → β → Prop} {xs : List α} {ys : List β} (h : Paired R xs ys) : ∀ n : Nat, Paired R (List.replicate n xs).flatten (List.replicate n ys).flatten
  | 0 => .nil
  | n + 1 => by
    rw [List.replicate_succ, List.replicate_succ, List.flatten_cons, List.flatten_cons]
    exact paired_app h (paired_rep h n)
theorem paired_atI {α β : Type} {R : α → β → Prop} {xs : List α} {ys : List β} {i : Int} {y : β} (h : Paired R xs ys) (e : atI ys i = some y) : ∃ x, atI xs i = some x ∧ R x y := by
  have hl : xs.length = ys.length := PySem.Paired.length h
  unfold atI at e ⊢
  rw [hl]
  cases q : ixN ys.length i with
  | none => rw [q] at e; cases e
  | some j => rw [q] at e; exact paired_get h e
theorem rvs_app {z : Bz} {F : Hp} : ∀ {vs ws : List V} {ds es : List PD}, RVs z F vs ds → RVs z F ws es → RVs z F (vs ++ ws) (ds ++ es)
  | _, _, _, _, .nil, s => s
  | _, _, _, _, .cons r t, s => .cons r (rvs_app t s)
theorem rvs_len {z : Bz} {F : Hp} : ∀ {vs : List V} {ds : List PD}, RVs z F vs ds → vs.length = ds.length
  | _, _, .nil => rfl
  | _, _, .cons r t => by simp [rvs_len t]
theorem rv_tup {z : Bz} {F : Hp} {v : V} {ds : List PD} (h : RV z F v (.tup ds)) : ∃ a xs, v = .ref a ∧ SqT z.K F a xs ∧ xs.length ≤ sizeLine ∧ RVs z F xs ds := by
  cases h with | tup e l r => exact ⟨_, _, rfl, e, l, r⟩
theorem rv_lst {z : Bz} {F : Hp} {v : V} {ds : List PD} (h : RV z F v (.lst ds)) : ∃ a xs, v = .ref a ∧ F a = some (.lst xs) ∧ xs.length ≤ sizeLine ∧ RVs z F xs ds := by
  cases h with | lst e l r => exact ⟨_, _, rfl, e, l, r⟩
theorem res_len {z : Bz} {W : Wd} {vs : List V} {ds : List E} (h : REs z W vs ds) : vs.length = ds.length := PySem.Paired.length h

def iAdd (i j : Int) : Option Int := some (i + j)
def iMul (i j : Int) : Option Int := if (-(2 ^ 64) < i ∧ i < 2 ^ 64) ∨ (-(2 ^ 64) < j ∧ j < 2 ^ 64) then some (i * j) else none
def gAddS : G2 := fun a b M => match asStr a, asStr b with
  | some x, some y => if x.length + y.length ≤ 16777216 then some (.p (.str (x ++ y)), M) else none
  | _, _ => none
def gAddL (m : Bool) : G2 := fun a b M => match asLst M a, asLst M b with
  | some x, some y => if x.length + y.length ≤ 16777216 then mkLst m (x ++ y) M else none
  | _, _ => none
def gAddT : G2 := fun a b M => match a, b with
  | .p (.tup x), .p (.tup y) => if x.length + y.length ≤ 16777216 then some (.p (.tup (x ++ y)), M) else none
  | _, _ => none
def gAdd (m : Bool) : G2 := gOr (gI2 iAdd) (gOr gAddS (gOr (gAddL m) gAddT))
def gMulL (m : Bool) : G2 := fun a b M => match asLst M a, asInt b with
  | some x, some k => if -(2 ^ 63) ≤ k ∧ k < 2 ^ 63 ∧ x.length * k.toNat ≤ 16777216 then mkLst m (List.replicate k.toNat x).flatten M else none
  | _, _ => none
def gMul (m : Bool) : G2 := gOr (gI2 iMul) (gMulL m)
section
variable {X : Cx} {z : Bz}
theorem op_addS : OpR X (binaryOp .Add) (r2D z gAddS) := by
  refine opR_of op_add_str fun x y H Q ⟨W, M, a, b, ok, ra, rb, e, M', hg, hq⟩ => ?_
  unfold gAddS at hg
  split at hg
  · rename_i i j e1 e2
    split at hg
    · rename_i hl
      cases hg
      exact ⟨i, j, asStr_ok ra e1, asStr_ok rb e2, by rw [sizeLine_eq]; exact hl, hq W H _ (.refl ok) (.p (.str _))⟩
    · cases hg
  · cases hg
theorem op_addL {m : Bool} : OpR X (binaryOp .Add) (r2D z (gAddL m)) := by
  refine opR_of op_cat fun x y H Q ⟨W, M, a, b, ok, ra, rb, e, M', hg, hq⟩ => ?_
  unfold gAddL at hg
  split at hg
  · rename_i i j e1 e2
    split at hg
    · rename_i hl
      obtain ⟨p, vs, rfl, h1, h2, h3⟩ := asLst_ok ok ra e1
      obtain ⟨p', vs', rfl, h1', h2', h3'⟩ := asLst_ok ok rb e2
      have hl2 : vs.length + vs'.length ≤ sizeLine := by rw [sizeLine_eq, res_len h3, res_len h3']; exact hl
      exact ⟨p, p', vs, vs', rfl, rfl, h1, h1', hl2, fun q hn => mkLst_ok ok hg (paired_app h3 h3') (by rw [List.length_append]; exact hl2) hn hq⟩
    · cases hg
  · cases hg
theorem op_addT (F : Fits X z) : OpR X (binaryOp .Add) (r2D z gAddT) := by
  refine opR_of op_catA fun x y H Q ⟨W, M, a, b, ok, ra, rb, e, M', hg, hq⟩ => ?_
  unfold gAddT at hg
  split at hg
  · rename_i ds es
    split at hg
    · rename_i hl
      cases hg
      cases ra with | p ra =>
      cases rb with | p rb =>
      obtain ⟨a, xs, rfl, h1, l1, r1⟩ := rv_tup ra
      obtain ⟨b, ys, rfl, h2, l2, r2⟩ := rv_tup rb
      have hl2 : xs.length + ys.length ≤ sizeLine := by rw [sizeLine_eq, rvs_len r1, rvs_len r2]; exact hl
      refine ⟨a, b, xs, ys, rfl, rfl, F.K ▸ (Ext.of ok.same).sqT h1, F.K ▸ (Ext.of ok.same).sqT h2, hl2, fun e => ?_, fun _ e => ?_, fun _ _ p hp => ?_⟩
      · subst e; cases r1; exact hq W H _ (.refl ok) (.p (.tup h2 l2 r2))
      · subst e
        cases r2
        exact hq W H _ (.refl ok) (.p (.tup h1 l1 (by rw [List.append_nil]; exact r1)))
      · have s := newF ok hp (.tup (xs ++ ys))
        exact hq _ _ _ s (.p (.tup (SqT.of upd_same) (by rw [List.length_append]; exact hl2) (RVs.ext s.w.ext (rvs_app r1 r2))))
    · cases hg
  · cases hg
theorem op_addP (F : Fits X z) {m : Bool} : OpR X (binaryOp .Add) (r2D z (gAdd m)) :=
  opR_or (opI2' op_add fun i j k h => by cases h; rfl) (opR_or op_addS (opR_or op_addL (op_addT F)))
theorem op_mulL {m : Bool} : OpR X (binaryOp .Mult) (r2D z (gMulL m)) := by
  refine opR_of op_rep fun x y H Q ⟨W, M, a, b, ok, ra, rb, e, M', hg, hq⟩ => ?_
  unfold gMulL at hg
  split at hg
  · rename_i i k e1 e2
    split at hg
    · rename_i hl
      obtain ⟨p, vs, rfl, h1, h2, h3⟩ := asLst_ok ok ra e1
      have hl2 : vs.length * k.toNat ≤ sizeLine := by rw [sizeLine_eq, res_len h3]; exact hl.2.2
      refine ⟨p, k, vs, rfl, asInt_ok rb e2, h1, hl.1, hl.2.1, hl2, fun q hn => mkLst_ok ok hg (paired_rep h3 _) ?_ hn hq⟩
      rw [List.length_flatten]
      simpa [Nat.mul_comm] using hl2
    · cases hg
  · cases hg
theorem op_mulP {m : Bool} : OpR X (binaryOp .Mult) (r2D z (gMul m)) :=
  opR_or (opI2 op_mul fun i j k h => by
    unfold iMul at h
    split at h
    · cases h; exact ⟨by assumption, rfl⟩
    · cases h) op_mulL
end
end Pl

-- PL7
namespace Pl
open PySem PySem.Spec L2

def gIxL : G2 := fun a b M => match asLst M a, asInt b with
  | some es, some i => match atI es i with
    | some e => some (e, M)
    | none => none
  | _, _ => none
def gIxT : G2 := fun a b M => match asTup a, asInt b with
  | some es, some i => match atI es i with
    | some e => some (e, M)
    | none => none
  | _, _ => none
def gIxS : G2 := fun a b M => match asStr a, asInt b with
  | some z, some i => if z.length ≤ 16777216 then match atI z.cps.toList i with
    | some c => some (.p (.str ⟨#[c]⟩), M)
    | none => none
    else none
  | _, _ => none
def gIx : G2 := gOr gIxL (gOr gIxT gIxS)
section
variable {X : Cx} {z : Bz} {Wx : WX}
theorem ixR_of {r r' : R2} (h : IxR X r) (w : ∀ x y H Q, r' x y H Q → r x y H Q) : IxR X r' := fun va sl pins s σ H x y v u Q I rx ry q e => h va sl pins s σ H x y v u Q I rx ry (w x y H Q q) e
theorem ixR_or {g h : G2} (hg : IxR X (r2D z g)) (hh : IxR X (r2D z h)) : IxR X (r2D z (gOr g h)) := by
  intro va sl pins s σ H x y v u Q I rx ry ⟨W, M, a, b, ok, ra, rb, e, M', hr, hq⟩ hs
  unfold gOr at hr
  split at hr
  · rename_i r' e1
    cases hr
    exact hg va sl pins s σ H x y v u Q I rx ry ⟨W, M, a, b, ok, ra, rb, e, M', e1, hq⟩ hs
  · exact hh va sl pins s σ H x y v u Q I rx ry ⟨W, M, a, b, ok, ra, rb, e, M', hr, hq⟩ hs
theorem ix_lstP : IxR X (r2D z gIxL) := by
  refine ixR_of ix_list fun x y H Q ⟨W, M, a, b, ok, ra, rb, e, M', hg, hq⟩ => ?_
  unfold gIxL at hg
  split at hg
  · rename_i es i e1 e2
    split at hg
    · rename_i e' e3
      cases hg
      obtain ⟨p, vs, rfl, h1, h2, h3⟩ := asLst_ok ok ra e1
      obtain ⟨v, h4, h5⟩ := paired_atI h3 e3
      exact ⟨p, vs, i, v, rfl, asInt_ok rb e2, .of h1, h4, hq W H v (.refl ok) h5⟩
    · cases hg
  · cases hg
theorem ix_tupP (F : Fits X z) : IxR X (r2D z gIxT) := by
  refine ixR_of ix_tup fun x y H Q ⟨W, M, a, b, ok, ra, rb, e, M', hg, hq⟩ => ?_
  unfold gIxT at hg
  split at hg
  · rename_i es i e1 e2
    split at hg
    · rename_i e' e3
      cases hg
      obtain ⟨p, vs, rfl, h1, h2, h3⟩ := asTup_ok ok ra e1
      obtain ⟨v, h4, h5⟩ := paired_atI h3 e3
      exact ⟨p, vs, i, v, rfl, asInt_ok rb e2, F.K ▸ h1, h4, hq W H v (.refl ok) h5⟩
    · cases hg
  · cases hg
theorem ix_strP : IxR X (r2D z gIxS) := by
  refine ixR_of ix_str fun x y H Q ⟨W, M, a, b, ok, ra, rb, e, M', hg, hq⟩ => ?_
  unfold gIxS at hg
  split at hg
  · rename_i es i e1 e2
    split at hg
    · rename_i hl
      split at hg
      · rename_i c e3
        cases hg
        exact ⟨es, i, c, asStr_ok ra e1, asInt_ok rb e2, by rw [sizeLine_eq]; exact hl, e3, hq W H _ (.refl ok) (.p (.str _))⟩
      · cases hg
    · cases hg
  · cases hg
theorem ix_P (F : Fits X z) : IxR X (r2D z gIx) := ixR_or ix_lstP (ixR_or (ix_tupP F) ix_strP)
theorem pd_ix {g : G2} {fa fb : FE} {a b : Expr} {pos : Pos} (hr : IxR X (r2D z g)) (ha : PE X a (tE z Wx fa)) (hb : PE X b (tE z Wx fb)) (hs : PlainIx b) : PE X (.Subscript a b pos) (tE z Wx (fBin g fa fb)) :=
  pe_of (pe_ix hr ha hb hs) fun _ _ _ => te_bin

abbrev FO := Env → Store → Rs (Option Int)
def fNo : FO := fun _ M => some (.inr none, M)
def fPart (f : FE) : FO := fun ρ M => bnd (f ρ M) fun x M1 => match asInt x with
  | some i => some (.inr (some i), M1)
  | none => none
def PostO (z : Bz) (W : Wd) (H : Hp) (r : Sum Xn (Option Int) × Store) (Q : Option Int → Hp → Prop) (Xq : XK) : Prop :=
  match r with
  | (.inr b, M') => ∀ W' H', Step z W H W' M' H' → Q b H'
  | (.inl x, M') => ∀ W' H' cls d, Step z W H W' M' H' → RX z W'.F H' cls d x → Xq cls d H'
theorem PostO.exc {W : Wd} {H : Hp} {r : Sum Xn (Option Int) × Store} {Q : Option Int → Hp → Prop} {Xq : XK} (h : PostO z W H r Q Xq) : ExcOk z W H r Xq := fun x M' e => by subst e; exact h
def tO (z : Bz) (Wx : WX) (f : FO) : TO := fun σ H Q => ∃ W M ρ, StoreOk z W M H ∧ EnvOk z W ρ σ ∧ ∃ r, f ρ M = some r ∧ PostO z W H r Q fun c d H' => Wx c d σ H'
theorem po_of {e : Option Expr} {t t' : TO} (h : PO X e t) (w : ∀ σ H Q, t' σ H Q → t σ H Q) : PO X e t' := ⟨fun pins s σ H Q I q => h.run pins s σ H Q I (w σ H Q q)⟩
theorem pd_no : PO X none (tO z Wx fNo) := po_of po_none fun σ H Q ⟨W, M, ρ, ok, env, r, hr, po⟩ => by
  cases hr
  exact po W H (.refl ok)
theorem pd_part {f : FE} {e : Expr} (h : PE X e (tE z Wx f)) : PO X (some e) (tO z Wx (fPart f)) := po_of (po_some h) fun σ H Q ⟨W, M, ρ, ok, env, r, hr, po⟩ => by
  refine seqE ok env hr po.exc fun e1 M1 W1 H1 v1 s1 q1 hr1 => ?_
  split at hr1
  · rename_i i hi
    cases hr1
    exact ⟨i, asInt_ok q1 hi, po W1 H1 s1⟩
  · cases hr1
theorem seqO {W : Wd} {M : Store} {ρ : Env} {σ : L2.St} {H : Hp} {β : Type} {r : Sum Xn β × Store} {fa : FO} {k : Option Int → Store → Rs β} {Q : Option Int → Hp → Prop} (ok : StoreOk z W M H) (env : EnvOk z W ρ σ) (hr : bnd (fa ρ M) k = some r) (hx : ExcOk z W H r fun c d H' => Wx c d σ H')
    (hk : ∀ e M1 W1 H1, Step z W H W1 M1 H1 → k e M1 = some r → Q e H1) : tO z Wx fa σ H Q := by
  rcases bnd_some hr with ⟨x, M1, e1, e2⟩ | ⟨a, M1, e1, e2⟩
  · exact ⟨W, M, ρ, ok, env, _, e1, fun W' H' c d s q => hx x M1 e2 W' H' c d s q⟩
  · exact ⟨W, M, ρ, ok, env, _, e1, fun W' H' s => hk a M1 W' H' s e2⟩
abbrev GS := E → Option Int → Option Int → Store → Option (E × Store)
def rSD (z : Bz) (g : GS) : V → Option Int → Option Int → Hp → VK → Prop := fun x lo hi H Q => ∃ W M e1, StoreOk z W M H ∧ RE z W x e1 ∧ ∃ e M', g e1 lo hi M = some (e, M') ∧ ∀ W' H' v, Step z W H W' M' H' → RE z W' v e → Q v H'
def fSlice (g : GS) (fa : FE) (fl fh : FO) : FE := fun ρ M => bnd (fa ρ M) fun x M1 => bnd (fl ρ M1) fun l M2 => bnd (fh ρ M2) fun h M3 => lft (g x l h M3)
theorem pd_slice {g : GS} {fa : FE} {fl fh : FO} {e : Expr} {lo hi : Option Expr} {pos p2 : Pos} (hr : SlR X (rSD z g)) (he : PE X e (tE z Wx fa)) (hl : PO X lo (tO z Wx fl)) (hu : PO X hi (tO z Wx fh)) : PE X (.Subscript e (.Slice lo hi none p2) pos) (tE z Wx (fSlice g fa fl fh)) := by
  refine pe_of (pe_slice hr he hl hu) fun σ H Q ⟨W, M, ρ, ok, env, r, hr, po⟩ => ?_
  refine seqE ok env hr po.exc fun e1 M1 W1 H1 v1 s1 q1 hr1 => ?_
  refine seqO s1.ok (env.w s1.w) hr1 (po.exc.step s1) fun l M2 W2 H2 s2 hr2 => ?_
  refine seqO s2.ok ((env.w s1.w).w s2.w) hr2 ((po.exc.step s1).step s2) fun h M3 W3 H3 s3 hr3 => ?_
  obtain ⟨e, M', he, rfl⟩ := lft_some hr3
  exact ⟨W3, M3, e1, s3.ok, s3.w.re (s2.w.re q1), e, M', he, fun W' H' v s q => po W' H' v (((s1.trans s2).trans s3).trans s) q⟩
theorem slR_of {r r' : V → Option Int → Option Int → Hp → VK → Prop} (h : SlR X r) (w : ∀ x lo hi H Q, r' x lo hi H Q → r x lo hi H Q) : SlR X r' := fun pins s σ H x v vl vu lo hi sl Q I rx hs pl pu q => h pins s σ H x v vl vu lo hi sl Q I rx hs pl pu (w x lo hi H Q q)
def gOrS (g h : GS) : GS := fun a lo hi M => match g a lo hi M with
  | some r => some r
  | none => h a lo hi M
theorem slR_or {g h : GS} (hg : SlR X (rSD z g)) (hh : SlR X (rSD z h)) : SlR X (rSD z (gOrS g h)) := by
  refine slR_of (hg.or hh) fun x lo hi H Q ⟨W, M, a, ok, ra, e, M', hr, hq⟩ => ?_
  unfold gOrS at hr
  split at hr
  · rename_i r e1
    cases hr
    exact .inl ⟨W, M, a, ok, ra, e, M', e1, hq⟩
  · exact .inr ⟨W, M, a, ok, ra, e, M', hr, hq⟩
def cutG {α : Type} (xs : List α) (lo hi : Option Int) : List α := (xs.drop (HT.sIx xs.length 0 lo)).take (HT.sIx xs.length xs.length hi - HT.sIx xs.length 0 lo)
theorem paired_cut {β : Type} {R : V → β → Prop} {xs : List V} {ys : List β} (h : Paired R xs ys) (lo hi : Option Int) : Paired R (cutV xs lo hi) (cutG ys lo hi) := by
  have hl : xs.length = ys.length := PySem.Paired.length h
  unfold cutV cutG
  rw [hl]
  exact paired_take _ (paired_drop _ h)
def gSlL (m : Bool) : GS := fun a lo hi M => match asLst M a with
  | some es => mkLst m (cutG es lo hi) M
  | none => none
def gSlS : GS := fun a lo hi M => match asStr a with
  | some z => if z.length ≤ 16777216 then some (.p (.str (cutS z lo hi)), M) else none
  | none => none
def gSlT : GS := fun a lo hi M => match a with
  | .p (.tup ds) => some (.p (.tup (cutG ds lo hi)), M)
  | _ => none
theorem sl_lstP {m : Bool} : SlR X (rSD z (gSlL m)) := by
  refine slR_of sl_list fun x lo hi H Q ⟨W, M, a, ok, ra, e, M', hg, hq⟩ => ?_
  unfold gSlL at hg
  split at hg
  · rename_i es e1
    obtain ⟨p, vs, rfl, h1, h2, h3⟩ := asLst_ok ok ra e1
    exact ⟨p, vs, rfl, .of h1, fun q hn => mkLst_ok ok hg (paired_cut h3 lo hi) (Nat.le_trans (cutV_length _ _ _) h2) hn hq⟩
  · cases hg
theorem sl_strP : SlR X (rSD z gSlS) := by
  refine slR_of sl_str fun x lo hi H Q ⟨W, M, a, ok, ra, e, M', hg, hq⟩ => ?_
  unfold gSlS at hg
  split at hg
  · rename_i s e1
    split at hg
    · rename_i hl
      cases hg
      exact ⟨s, asStr_ok ra e1, by rw [sizeLine_eq]; exact hl, hq W H _ (.refl ok) (.p (.str _))⟩
    · cases hg
  · cases hg
theorem rvs_paired {F : Hp} : ∀ {vs : List V} {ds : List PD}, RVs z F vs ds → Paired (RV z F) vs ds
  | _, _, .nil => .nil
  | _, _, .cons r t => .cons r (rvs_paired t)
theorem paired_rvs {F : Hp} : ∀ {vs : List V} {ds : List PD}, Paired (RV z F) vs ds → RVs z F vs ds
  | _, _, .nil => .nil
  | _, _, .cons r t => .cons r (paired_rvs t)
theorem cutG_whole {α : Type} (xs : List α) (lo hi : Option Int) (h : HT.sIx xs.length 0 lo = 0 ∧ HT.sIx xs.length xs.length hi = xs.length) : cutG xs lo hi = xs := by
  unfold cutG
  rw [h.1, h.2]
  simp
theorem sl_tupP (F : Fits X z) : SlR X (rSD z gSlT) := by
  refine slR_of sl_tupA fun x lo hi H Q ⟨W, M, a, ok, ra, e, M', hg, hq⟩ => ?_
  unfold gSlT at hg
  split at hg
  · rename_i ds
    cases hg
    cases ra with | p ra =>
    obtain ⟨a, xs, rfl, h1, l1, r1⟩ := rv_tup ra
    have hl := rvs_len r1
    refine ⟨a, xs, rfl, F.K ▸ (Ext.of ok.same).sqT h1, fun hw => ?_, fun hw p hp => ?_⟩
    · refine hq W H _ (.refl ok) (.p ?_)
      rw [cutG_whole ds lo hi (by rw [← hl]; exact hw)]
      exact ra
    · have s := newF ok hp (.tup (cutV xs lo hi))
      exact hq _ _ _ s (.p (.tup (SqT.of upd_same) (Nat.le_trans (cutV_length _ _ _) l1) (RVs.ext s.w.ext (paired_rvs (paired_cut (rvs_paired r1) lo hi)))))
  · cases hg
def gSl (m : Bool) : GS := gOrS (gSlL m) (gOrS gSlS gSlT)
theorem sl_P (F : Fits X z) {m : Bool} : SlR X (rSD z (gSl m)) := slR_or sl_lstP (slR_or sl_strP (sl_tupP F))

def fLst (m : Bool) (fa : FA) : FE := fun ρ M => bnd (fa ρ M) fun xs M1 => if xs.length ≤ 16777216 then lft (mkLst m xs M1) else none
def fTup (fa : FA) : FE := fun ρ M => bnd (fa ρ M) fun xs M1 => if xs.length ≤ 16777216 then lft (mkTup xs M1) else none
theorem pd_lst {m : Bool} {fa : FA} {es : List Expr} {pos : Pos} (h : PA X es (tA z Wx fa)) : PE X (.List es pos) (tE z Wx (fLst m fa)) := by
  refine pe_of (pe_lst h) fun σ H Q ⟨W, M, ρ, ok, env, r, hr, po⟩ => ?_
  refine seqA ok env hr po.exc fun e1 M1 W1 H1 v1 s1 q1 hr1 => ?_
  split at hr1
  · rename_i hl
    obtain ⟨e, M', he, rfl⟩ := lft_some hr1
    have hl2 : v1.length ≤ sizeLine := by rw [sizeLine_eq, res_len q1]; exact hl
    exact ⟨hl2, fun p hp => mkLst_ok s1.ok he q1 hl2 hp fun W' H' v s q => po W' H' v (s1.trans s) q⟩
  · cases hr1
theorem pd_tup {fa : FA} {es : List Expr} {k : Nat} {pos : Pos} (h : PA X es (tA z Wx fa)) : PE X (.Tuple es k pos) (tE z Wx (fTup fa)) := by
  refine pe_of (pe_tup h) fun σ H Q ⟨W, M, ρ, ok, env, r, hr, po⟩ => ?_
  refine seqA ok env hr po.exc fun e1 M1 W1 H1 v1 s1 q1 hr1 => ?_
  split at hr1
  · rename_i hl
    obtain ⟨e, M', he, rfl⟩ := lft_some hr1
    have hl2 : v1.length ≤ sizeLine := by rw [sizeLine_eq, res_len q1]; exact hl
    exact ⟨hl2, fun p hp => mkTup_ok s1.ok he q1 hl2 hp fun W' H' v s q => po W' H' v (s1.trans s) q⟩
  · cases hr1

variable {f g : FT} {fa fb : FE} {a b c : Expr} {rest : List Expr} {pos : Pos}
theorem pd_and1 (ha : PT X a (tT z Wx f)) : PW X (.BoolOp .And [a] pos) (tT z Wx f) := pw_and1 ha
theorem pd_or1 (ha : PT X a (tT z Wx f)) : PW X (.BoolOp .Or [a] pos) (tT z Wx f) := pw_or1 ha
theorem pw_of {e : Expr} {t t' : TT} (h : PW X e t) (w : ∀ σ H Q, t' σ H Q → t σ H Q) : PW X e t' := ⟨fun wh pins s σ H Q I q => h.run wh pins s σ H Q I (w σ H Q q)⟩
theorem pd_and (ha : PT X a (tT z Wx f)) (hb : PW X (.BoolOp .And (b :: rest) pos) (tT z Wx g)) : PW X (.BoolOp .And (a :: b :: rest) pos) (tT z Wx (fAndT f g)) := by
  refine pw_of (pw_and ha hb) fun σ H Q ⟨W, M, ρ, ok, env, r, hr, po⟩ => ?_
  refine seqT ok env hr po.exc fun k M1 W1 H1 s1 hr1 => ?_
  cases k with
  | true => exact lastT s1 env hr1 po
  | false => cases hr1; exact po W1 H1 s1
theorem pd_or (ha : PT X a (tT z Wx f)) (hb : PW X (.BoolOp .Or (b :: rest) pos) (tT z Wx g)) : PW X (.BoolOp .Or (a :: b :: rest) pos) (tT z Wx (fOrT f g)) := by
  refine pw_of (pw_or ha hb) fun σ H Q ⟨W, M, ρ, ok, env, r, hr, po⟩ => ?_
  refine seqT ok env hr po.exc fun k M1 W1 H1 s1 hr1 => ?_
  cases k with
  | true => cases hr1; exact po W1 H1 s1
  | false => exact lastT s1 env hr1 po
def fIfE (t : FT) (f g : FE) : FE := fun ρ M => bnd (t ρ M) fun b M1 => if b = true then f ρ M1 else g ρ M1
theorem pd_ifE (hc : PT X c (tT z Wx f)) (ha : PE X a (tE z Wx fa)) (hb : PE X b (tE z Wx fb)) : PE X (.IfExp c a b pos) (tE z Wx (fIfE f fa fb)) := by
  refine pe_of (pe_ifExp hc ha hb) fun σ H Q ⟨W, M, ρ, ok, env, r, hr, po⟩ => ?_
  refine seqT ok env hr po.exc fun k M1 W1 H1 s1 hr1 => ?_
  cases k with
  | true => exact lastE s1 env hr1 po
  | false => exact lastE s1 env hr1 po
/-- and, or of bools as values -/
def fAndV (f g : FE) : FE := fun ρ M => bnd (f ρ M) fun x M1 => match asB x with
  | some true => g ρ M1
  | some false => some (.inr (.p (.bl false)), M1)
  | none => none
def fOrV (f g : FE) : FE := fun ρ M => bnd (f ρ M) fun x M1 => match asB x with
  | some true => some (.inr (.p (.bl true)), M1)
  | some false => g ρ M1
  | none => none
def fNotV (f : FE) : FE := fun ρ M => bnd (f ρ M) fun x M1 => match asB x with
  | some b => some (.inr (.p (.bl (!b))), M1)
  | none => none
theorem pd_one {op : BoolOp} (h : PE X a (tE z Wx fa)) : PE X (.BoolOp op [a] pos) (tE z Wx fa) := pe_one h
theorem pd_andV (ha : PE X a (tE z Wx fa)) (hb : PE X (.BoolOp .And (b :: rest) pos) (tE z Wx fb)) : PE X (.BoolOp .And (a :: b :: rest) pos) (tE z Wx (fAndV fa fb)) := by
  refine pe_of (pe_and ha hb) fun σ H Q ⟨W, M, ρ, ok, env, r, hr, po⟩ => ?_
  refine seqE ok env hr po.exc fun e1 M1 W1 H1 v1 s1 q1 hr1 => ?_
  split at hr1
  · rename_i e; exact ⟨true, asB_ok q1 e, iteT (lastE s1 env hr1 po)⟩
  · rename_i e; cases hr1; exact ⟨false, asB_ok q1 e, iteF (po W1 H1 _ s1 (.p (.bl _)))⟩
  · cases hr1
theorem pd_orV (ha : PE X a (tE z Wx fa)) (hb : PE X (.BoolOp .Or (b :: rest) pos) (tE z Wx fb)) : PE X (.BoolOp .Or (a :: b :: rest) pos) (tE z Wx (fOrV fa fb)) := by
  refine pe_of (L2.pe_or ha hb) fun σ H Q ⟨W, M, ρ, ok, env, r, hr, po⟩ => ?_
  refine seqE ok env hr po.exc fun e1 M1 W1 H1 v1 s1 q1 hr1 => ?_
  split at hr1
  · rename_i e; cases hr1; exact ⟨true, asB_ok q1 e, iteT (po W1 H1 _ s1 (.p (.bl _)))⟩
  · rename_i e; exact ⟨false, asB_ok q1 e, iteF (lastE s1 env hr1 po)⟩
  · cases hr1
theorem pd_notV (ha : PE X a (tE z Wx fa)) : PE X (.UnaryOp .Not a pos) (tE z Wx (fNotV fa)) := by
  refine pe_of (pe_not ha) fun σ H Q ⟨W, M, ρ, ok, env, r, hr, po⟩ => ?_
  refine seqE ok env hr po.exc fun e1 M1 W1 H1 v1 s1 q1 hr1 => ?_
  split at hr1
  · rename_i k e; cases hr1; exact ⟨k, asB_ok q1 e, po W1 H1 _ s1 (.p (.bl _))⟩
  · cases hr1
/-- a op b op' c -/
def fChain (g g' : G2) (fa fb fc : FE) : FE := fun ρ M => bnd (fa ρ M) fun x M1 => bnd (fb ρ M1) fun y M2 => bnd (lft (g x y M2)) fun t M3 => match asB t with
  | some true => bnd (fc ρ M3) fun w M4 => lft (g' y w M4)
  | some false => some (.inr (.p (.bl false)), M3)
  | none => none
theorem te_chain {g g' : G2} {fa fb fc : FE} {σ : L2.St} {H : Hp} {Q : VK} (h : tE z Wx (fChain g g' fa fb fc) σ H Q) : tChain (r2D z g) (r2D z g') (tE z Wx fa) (tE z Wx fb) (tE z Wx fc) σ H Q := by
  obtain ⟨W, M, ρ, ok, env, r, hr, po⟩ := h
  refine seqE ok env hr po.exc fun e1 M1 W1 H1 v1 s1 q1 hr1 => ?_
  refine seqE s1.ok (env.w s1.w) hr1 (po.exc.step s1) fun e2 M2 W2 H2 v2 s2 q2 hr2 => ?_
  rcases bnd_some hr2 with ⟨x, Mx, e5, _⟩ | ⟨t, M3, e5, hr3⟩
  · obtain ⟨_, _, _, e6⟩ := lft_some e5
    cases e6
  · obtain ⟨t', M3', e6, e7⟩ := lft_some e5
    cases e7
    have s12 := s1.trans s2
    refine ⟨W2, M2, e1, e2, s2.ok, s2.w.re q1, q2, t, M3, e6, fun W3 H3 v3 s3 q3 => ?_⟩
    split at hr3
    · rename_i e
      refine ⟨true, asB_ok q3 e, iteT ?_⟩
      refine seqE s3.ok ((env.w s12.w).w s3.w) hr3 ((po.exc.step s12).step s3) fun e4 M4 W4 H4 v4 s4 q4 hr4 => ?_
      obtain ⟨e9, M', he, rfl⟩ := lft_some hr4
      exact ⟨W4, M4, e2, e4, s4.ok, s4.w.re (s3.w.re q2), q4, e9, M', he, fun W' H' v s q => po W' H' v (((s12.trans s3).trans s4).trans s) q⟩
    · rename_i e
      cases hr3
      exact ⟨false, asB_ok q3 e, iteF (po W3 H3 _ (s12.trans s3) (.p (.bl _)))⟩
    · cases hr3
theorem pd_chain {op op' : CmpOp} {g g' : G2} {fa fb fc : FE} (ho : OpR X (compareOp op) (r2D z g)) (ho' : OpR X (compareOp op') (r2D z g')) (ha : PE X a (tE z Wx fa)) (hb : PE X b (tE z Wx fb)) (hc : PE X c (tE z Wx fc)) (hm : lastMarks [op, op'] [b, c] = false := by with_unfolding_all rfl) :
    PE X (.Compare a [op, op'] [b, c] pos) (tE z Wx (fChain g g' fa fb fc)) := pe_of (pe_chain ho ho' ha hb hc hm) fun _ _ _ => te_chain
theorem pd_tchain {op op' : CmpOp} {g g' : G2} {fa fb fc : FE} (ho : OpR X (compareOp op) (r2D z g)) (ho' : OpR X (compareOp op') (r2D z g')) (ha : PE X a (tE z Wx fa)) (hb : PE X b (tE z Wx fb)) (hc : PE X c (tE z Wx fc)) (hm : lastMarks [op, op'] [b, c] = false := by with_unfolding_all rfl) :
    PT X (.Compare a [op, op'] [b, c] pos) (tT z Wx (fTst (fChain g g' fa fb fc))) := by
  refine pt_of (pt_chain ho ho' ha hb hc hm) fun σ H Q h => ?_
  obtain ⟨W, M, ρ, ok, env, r, hr, po⟩ := tt_tst h
  exact te_chain ⟨W, M, ρ, ok, env, r, hr, po⟩
/-- an expression that gives a bool, as a test -/
theorem pd_tval {e : Expr} (h : PE X e (tE z Wx fa)) (he : ∀ whole, isTrue e X.env whole = (do let v ← whole; standAt e.pos; holding [v] (truthy v)) := by intro _; rfl) : PT X e (tT z Wx (fTst fa)) := by
  refine pt_of (pt_truth h he) fun σ H Q h => ?_
  obtain ⟨W, M, ρ, ok, env, r, hr, po⟩ := h
  refine seqE ok env hr po.exc fun e1 M1 W1 H1 v1 s1 q1 hr1 => ?_
  split at hr1
  · rename_i b hb
    cases hr1
    exact ⟨b, by rw [asB_ok q1 hb]; rfl, po W1 H1 s1⟩
  · cases hr1
end
end Pl

-- PL8
namespace Pl
open PySem PySem.Spec L2

inductive Fl where
  | nx (ρ : Env) | rt (e : E) | bk (ρ : Env) | ct (ρ : Env) | xn (x : Xn) (ρ : Env)
abbrev FS := Env → Store → Option (Fl × Store)
def PostS (z : Bz) (W : Wd) (H : Hp) (r : Fl × Store) (D : Ends) (Wx : WX) : Prop :=
  match r with
  | (.nx ρ', M') => ∀ W' H' σ', Step z W H W' M' H' → EnvOk z W' ρ' σ' → D.nx σ' H'
  | (.rt e, M') => ∀ W' H' v, Step z W H W' M' H' → RE z W' v e → D.rt v H'
  | (.bk ρ', M') => ∀ W' H' σ', Step z W H W' M' H' → EnvOk z W' ρ' σ' → D.bk σ' H'
  | (.ct ρ', M') => ∀ W' H' σ', Step z W H W' M' H' → EnvOk z W' ρ' σ' → D.ct σ' H'
  | (.xn x ρ', M') => ∀ W' H' σ' cls d, Step z W H W' M' H' → EnvOk z W' ρ' σ' → RX z W'.F H' cls d x → Wx cls d σ' H'
def tS (z : Bz) (Wx : WX) (g : FS) : TS := fun D σ H => ∃ W M ρ, StoreOk z W M H ∧ EnvOk z W ρ σ ∧ ∃ r, g ρ M = some r ∧ PostS z W H r D Wx
theorem PostS.step {z : Bz} {W W1 : Wd} {M1 : Store} {H H1 : Hp} {r : Fl × Store} {D : Ends} {Wx : WX} (h : PostS z W H r D Wx) (s : Step z W H W1 M1 H1) : PostS z W1 H1 r D Wx :=
  match r, h with
  | (.nx _, _), h => fun W' H' σ' t q => h W' H' σ' (s.trans t) q
  | (.rt _, _), h => fun W' H' v t q => h W' H' v (s.trans t) q
  | (.bk _, _), h => fun W' H' σ' t q => h W' H' σ' (s.trans t) q
  | (.ct _, _), h => fun W' H' σ' t q => h W' H' σ' (s.trans t) q
  | (.xn _ _, _), h => fun W' H' σ' c d t q => h W' H' σ' c d (s.trans t) q
/-- an expression within a statement -/
def stx {α : Type} (x : Rs α) (ρ : Env) (k : α → Store → Option (Fl × Store)) : Option (Fl × Store) := match x with
  | none => none
  | some (.inl e, M) => some (.xn e ρ, M)
  | some (.inr a, M) => k a M
section
variable {z : Bz} {Wx : WX} {W : Wd} {M : Store} {ρ : Env} {σ : L2.St} {H : Hp} {r : Fl × Store} {D : Ends}
theorem stE {f : FE} {k : E → Store → Option (Fl × Store)} {Q : VK} (ok : StoreOk z W M H) (env : EnvOk z W ρ σ) (hr : stx (f ρ M) ρ k = some r) (po : PostS z W H r D Wx)
    (hk : ∀ e M1 W1 H1 v, Step z W H W1 M1 H1 → RE z W1 v e → k e M1 = some r → Q v H1) : tE z Wx f σ H Q := by
  unfold stx at hr
  split at hr
  · cases hr
  · rename_i x M1 e1
    cases hr
    exact ⟨W, M, ρ, ok, env, _, e1, fun W' H' c d s q => po W' H' σ c d s (env.w s.w) q⟩
  · rename_i a M1 e1
    exact ⟨W, M, ρ, ok, env, _, e1, fun W' H' v s q => hk a M1 W' H' v s q hr⟩
theorem stT {f : FT} {k : Bool → Store → Option (Fl × Store)} {Q : Bool → Hp → Prop} (ok : StoreOk z W M H) (env : EnvOk z W ρ σ) (hr : stx (f ρ M) ρ k = some r) (po : PostS z W H r D Wx)
    (hk : ∀ e M1 W1 H1, Step z W H W1 M1 H1 → k e M1 = some r → Q e H1) : tT z Wx f σ H Q := by
  unfold stx at hr
  split at hr
  · cases hr
  · rename_i x M1 e1
    cases hr
    exact ⟨W, M, ρ, ok, env, _, e1, fun W' H' c d s q => po W' H' σ c d s (env.w s.w) q⟩
  · rename_i a M1 e1
    exact ⟨W, M, ρ, ok, env, _, e1, fun W' H' s => hk a M1 W' H' s hr⟩
theorem stA {f : FA} {k : List E → Store → Option (Fl × Store)} {Q : List V → Hp → Prop} (ok : StoreOk z W M H) (env : EnvOk z W ρ σ) (hr : stx (f ρ M) ρ k = some r) (po : PostS z W H r D Wx)
    (hk : ∀ e M1 W1 H1 v, Step z W H W1 M1 H1 → REs z W1 v e → k e M1 = some r → Q v H1) : tA z Wx f σ H Q := by
  unfold stx at hr
  split at hr
  · cases hr
  · rename_i x M1 e1
    cases hr
    exact ⟨W, M, ρ, ok, env, _, e1, fun W' H' c d s q => po W' H' σ c d s (env.w s.w) q⟩
  · rename_i a M1 e1
    exact ⟨W, M, ρ, ok, env, _, e1, fun W' H' v s q => hk a M1 W' H' v s q hr⟩
theorem lastS {g : FS} {W1 : Wd} {M1 : Store} {H1 : Hp} {ρ1 : Env} {σ1 : L2.St} (s : Step z W H W1 M1 H1) (env : EnvOk z W1 ρ1 σ1) (hr : g ρ1 M1 = some r) (po : PostS z W H r D Wx) : tS z Wx g D σ1 H1 :=
  ⟨W1, M1, ρ1, s.ok, env, r, hr, po.step s⟩
theorem EnvOk.set (h : EnvOk z W ρ σ) {v : V} {e : E} (r : RE z W v e) (i : Nat) : EnvOk z W (ρ.set i (some e)) (σ.set i (some v)) := by
  refine ⟨by simp [h.1], fun j e' q => ?_⟩
  by_cases hj : i = j
  · subst hj
    by_cases hl : i < ρ.length
    · rw [List.getElem?_set_self hl] at q
      cases q
      exact ⟨v, by rw [List.getElem?_set_self (by rw [← h.1]; exact hl)], r⟩
    · rw [List.getElem?_eq_none (by simpa using hl)] at q; cases q
  · rw [List.getElem?_set_ne hj] at q
    obtain ⟨v', h1, h2⟩ := h.2 j e' q
    exact ⟨v', by rw [List.getElem?_set_ne hj]; exact h1, h2⟩
theorem EnvOk.unset (h : EnvOk z W ρ σ) (i : Nat) : EnvOk z W (ρ.set i none) (σ.set i none) := by
  refine ⟨by simp [h.1], fun j e' q => ?_⟩
  by_cases hj : i = j
  · subst hj
    by_cases hl : i < ρ.length
    · rw [List.getElem?_set_self hl] at q; cases q
    · rw [List.getElem?_eq_none (by simpa using hl)] at q; cases q
  · rw [List.getElem?_set_ne hj] at q
    obtain ⟨v', h1, h2⟩ := h.2 j e' q
    exact ⟨v', by rw [List.getElem?_set_ne hj]; exact h1, h2⟩
end
def gNext : FS := fun ρ M => some (.nx ρ, M)
def gSeq (g h : FS) : FS := fun ρ M => match g ρ M with
  | some (.nx ρ1, M1) => h ρ1 M1
  | r => r
def gDrop (f : FE) : FS := fun ρ M => stx (f ρ M) ρ fun _ M1 => some (.nx ρ, M1)
def gRet (f : FE) : FS := fun ρ M => stx (f ρ M) ρ fun e M1 => some (.rt e, M1)
def gRetN : FS := fun _ M => some (.rt (.p .non), M)
def gIf (t : FT) (g h : FS) : FS := fun ρ M => stx (t ρ M) ρ fun b M1 => if b = true then g ρ M1 else h ρ M1
def gBreak : FS := fun ρ M => some (.bk ρ, M)
def gCont : FS := fun ρ M => some (.ct ρ, M)
section
variable {X : Cx} {z : Bz} {Wx : WX} {st : Stmt} {rest : List Stmt} {pos : Pos} {g h : FS} {f : FE} {e : Expr}
theorem ps_of {t t' : TS} (hh : PS X st t) (w : ∀ D σ H, t' D σ H → t D σ H) : PS X st t' := ⟨fun pins s σ H D I q => hh.run pins s σ H D I (w D σ H q)⟩
theorem pss_of {t t' : TS} (hh : PSs X rest t) (w : ∀ D σ H, t' D σ H → t D σ H) : PSs X rest t' := ⟨fun pins s σ H D I q => hh.run pins s σ H D I (w D σ H q)⟩
theorem pds_nil : PSs X [] (tS z Wx gNext) := pss_of pss_nil fun D σ H ⟨W, M, ρ, ok, env, r, hr, po⟩ => by
  cases hr
  exact po W H σ (.refl ok) env
theorem pds_cons (h1 : PS X st (tS z Wx g)) (h2 : PSs X rest (tS z Wx h)) : PSs X (st :: rest) (tS z Wx (gSeq g h)) := pss_of (pss_cons h1 h2) fun D σ H ⟨W, M, ρ, ok, env, r, hr, po⟩ => by
  unfold gSeq at hr
  split at hr
  · rename_i ρ1 M1 e1
    exact ⟨W, M, ρ, ok, env, _, e1, fun W' H' σ' s q => lastS s q hr po⟩
  · rename_i hn
    refine ⟨W, M, ρ, ok, env, r, hr, ?_⟩
    obtain ⟨fl, M'⟩ := r
    cases fl with
    | nx ρ1 => exact absurd hr (hn ρ1 M')
    | rt e => exact po
    | bk ρ1 => exact po
    | ct ρ1 => exact po
    | xn x ρ1 => exact po
theorem pds_one (h1 : PS X st (tS z Wx g)) : PSs X [st] (tS z Wx g) := pss_one h1
theorem pd_pass : PS X (.Pass pos) (tS z Wx gNext) := ps_of ps_pass fun D σ H ⟨W, M, ρ, ok, env, r, hr, po⟩ => by
  cases hr
  exact po W H σ (.refl ok) env
theorem pd_doc {x j pos'} : PS X (.Expr (.Constant (.str x) j pos) pos') (tS z Wx gNext) := ps_of ps_doc fun D σ H ⟨W, M, ρ, ok, env, r, hr, po⟩ => by
  cases hr
  exact po W H σ (.refl ok) env
theorem pd_break : PS X (.Break pos) (tS z Wx gBreak) := ps_of ps_break fun D σ H ⟨W, M, ρ, ok, env, r, hr, po⟩ => by
  cases hr
  exact po W H σ (.refl ok) env
theorem pd_cont : PS X (.Continue pos) (tS z Wx gCont) := ps_of ps_continue fun D σ H ⟨W, M, ρ, ok, env, r, hr, po⟩ => by
  cases hr
  exact po W H σ (.refl ok) env
theorem pd_expr (he : PE X e (tE z Wx f)) (hs : swapsWith e none pos.line X.env = pure false := by rfl) : PS X (.Expr e pos) (tS z Wx (gDrop f)) := ps_of (ps_expr he hs) fun D σ H ⟨W, M, ρ, ok, env, r, hr, po⟩ =>
  stE ok env hr po fun e1 M1 W1 H1 v1 s1 q1 hr1 => by
    cases hr1
    exact po W1 H1 σ s1 (env.w s1.w)
theorem pd_ret (he : PE X e (tE z Wx f)) : PS X (.Return (some e) pos) (tS z Wx (gRet f)) := ps_of (ps_ret he) fun D σ H ⟨W, M, ρ, ok, env, r, hr, po⟩ =>
  stE ok env hr po fun e1 M1 W1 H1 v1 s1 q1 hr1 => by
    cases hr1
    exact po W1 H1 v1 s1 q1
theorem pd_retN : PS X (.Return none pos) (tS z Wx gRetN) := ps_of ps_retN fun D σ H ⟨W, M, ρ, ok, env, r, hr, po⟩ => by
  cases hr
  exact po W H .non (.refl ok) (.p .non)
theorem pd_if {c : Expr} {a b : List Stmt} {t : FT} (hc : PT X c (tT z Wx t)) (ha : PSs X a (tS z Wx g)) (hb : PSs X b (tS z Wx h)) : PS X (.If c a b pos) (tS z Wx (gIf t g h)) := ps_of (ps_if hc ha hb) fun D σ H ⟨W, M, ρ, ok, env, r, hr, po⟩ =>
  stT ok env hr po fun k M1 W1 H1 s1 hr1 => by
    cases k with
    | true => exact lastS s1 (env.w s1.w) hr1 po
    | false => exact lastS s1 (env.w s1.w) hr1 po

abbrev GT := E → Env → Store → Rs Env
/-- the slots but vs are as they were -/
def Off (vs : List Nat) (σ σ' : L2.St) : Prop := σ'.length = σ.length ∧ ∀ i : Nat, i ∉ vs → σ'[i]? = σ[i]?
def PostG (z : Bz) (W : Wd) (H : Hp) (vs : List Nat) (σ : L2.St) (r : Sum Xn Env × Store) (Q : L2.St → Hp → Prop) : Prop :=
  match r with
  | (.inr ρ', M') => ∀ W' H' σ', Step z W H W' M' H' → EnvOk z W' ρ' σ' → Off vs σ σ' → Q σ' H'
  | (.inl _, _) => False
/-- a target that raises nothing -/
def tG (z : Bz) (vs : List Nat) (g : GT) : TG := fun v σ H Q => ∃ W M ρ e, StoreOk z W M H ∧ EnvOk z W ρ σ ∧ RE z W v e ∧ ∃ r, g e ρ M = some r ∧ PostG z W H vs σ r Q
theorem pg_of {tg : Expr} {t t' : TG} (h : PG X tg t) (w : ∀ v σ H Q, t' v σ H Q → t v σ H Q) : PG X tg t' := ⟨fun pins s σ H v u Q I r q => h.run pins s σ H v u Q I r (w v σ H Q q)⟩
def gtName (i : Nat) : GT := fun e ρ M => some (.inr (ρ.set i (some e)), M)
theorem pdg_name {i : Nat} {x : Str} (hN : X.N.Nodup) (hi : X.N[i]? = some x) (hx : Loc X.env.scope x) (hf : X.fn x = true ∨ X.env.scope.names.lookup x = some .local := by first | exact .inl rfl | exact .inr rfl | assumption) : PG X (.Name x pos) (tG z [i] (gtName i)) :=
  pg_of (pg_name hN hi hx hf) fun v σ H Q ⟨W, M, ρ, e, ok, env, re, r, hr, po⟩ => by
    cases hr
    exact po W H _ (.refl ok) (env.set re i) ⟨by simp, fun j hj => by rw [List.getElem?_set_ne (fun e => hj (by simp [e]))]⟩
abbrev GTs := List E → Env → Store → Rs Env
def tGs (z : Bz) (vs : List Nat) (g : GTs) : TGs := fun v σ H Q => ∃ W M ρ e, StoreOk z W M H ∧ EnvOk z W ρ σ ∧ REs z W v e ∧ ∃ r, g e ρ M = some r ∧ PostG z W H vs σ r Q
theorem pgs_of {tg : List Expr} {t t' : TGs} (h : PGs X tg t) (w : ∀ v σ H Q, t' v σ H Q → t v σ H Q) : PGs X tg t' := ⟨fun pins s σ H v u Q I r q => h.run pins s σ H v u Q I r (w v σ H Q q)⟩
def gtNil : GTs := fun es ρ M => match es with
  | [] => some (.inr ρ, M)
  | _ => none
def gtCons (g : GT) (h : GTs) : GTs := fun es ρ M => match es with
  | e :: r => bnd (g e ρ M) fun ρ1 M1 => h r ρ1 M1
  | [] => none
theorem pdgs_nil : PGs X [] (tGs z [] gtNil) := pgs_of pgs_nil fun v σ H Q ⟨W, M, ρ, e, ok, env, re, r, hr, po⟩ => by
  cases e with
  | nil =>
    cases hr
    cases re
    exact ⟨rfl, po W H σ (.refl ok) env ⟨rfl, fun _ _ => rfl⟩⟩
  | cons a b => cases hr
theorem pdgs_cons {es : List Expr} {g : GT} {h : GTs} {us vs : List Nat} (h1 : PG X e (tG z us g)) (h2 : PGs X es (tGs z vs h)) (hs : (assignEach (e :: es) X.env).map (·.2) = assign e X.env :: (assignEach es X.env).map (·.2) := by rfl) : PGs X (e :: es) (tGs z (us ++ vs) (gtCons g h)) :=
  pgs_of (pgs_cons h1 h2 hs) fun v σ H Q ⟨W, M, ρ, e, ok, env, re, r, hr, po⟩ => by
    cases e with
    | nil => cases hr
    | cons x1 xs =>
      cases v with
      | nil => cases re
      | cons v1 vs =>
        obtain ⟨r1, r2⟩ : RE z W v1 x1 ∧ REs z W vs xs := by cases re with | cons a b => exact ⟨a, b⟩
        have hr : bnd (g x1 ρ M) (fun ρ1 M1 => h xs ρ1 M1) = some r := hr
        rcases bnd_some hr with ⟨x, M1, e1, e2⟩ | ⟨ρ1, M1, e1, e2⟩
        · subst e2; exact (po : False).elim
        · refine ⟨v1, vs, rfl, W, M, ρ, _, ok, env, r1, _, e1, fun W1 H1 σ1 s1 q1 o1 => ?_⟩
          refine ⟨W1, M1, ρ1, _, s1.ok, q1, s1.w.res r2, r, e2, ?_⟩
          obtain ⟨rr, M'⟩ := r
          cases rr with
          | inl x => exact po
          | inr ρ' => exact fun W' H' σ' t q o2 => po W' H' σ' (s1.trans t) q ⟨o2.1.trans o1.1, fun j hj => (o2.2 j fun m => hj (List.mem_append_right _ m)).trans (o1.2 j fun m => hj (List.mem_append_left _ m))⟩
/-- a, b = .. : a tuple or a list that is read -/
def gtTup (n : Nat) (h : GTs) : GT := fun e ρ M => match asTup e with
  | some es => if es.length = n then h es ρ M else none
  | none => none
theorem pdg_tup {es : List Expr} {k n : Nat} {h : GTs} {vs : List Nat} (F : Fits X z) (hc : X.calm = true) (hh : PGs X es (tGs z vs h)) (hn : (assignEach es X.env).length = n := by rfl) (hst : (assignEach es X.env).findIdx? (·.1) = none := by rfl) : PG X (.Tuple es k pos) (tG z vs (gtTup n h)) :=
  pg_of (pg_tup hc hh hn hst) fun v σ H Q ⟨W, M, ρ, e, ok, env, re, r, hr, po⟩ => by
    unfold gtTup at hr
    split at hr
    · rename_i xs hx
      split at hr
      · rename_i hl
        obtain ⟨a, vs, rfl, h1, h2, h3⟩ := asTup_ok ok re hx
        exact ⟨a, _, rfl, F.K ▸ h1, (res_len h3).trans hl, W, M, ρ, xs, ok, env, h3, r, hr, po⟩
      · cases hr
    · cases hr
def gAsg (f : FE) (g : GT) : FS := fun ρ M => stx (f ρ M) ρ fun e M1 => stx (g e ρ M1) ρ fun ρ1 M2 => some (.nx ρ1, M2)
def noX {α : Type} : Rs α → Rs α
  | some (.inl _, _) => none
  | r => r
/-- target = value; the target raises nothing -/
def gAsgT (f : FE) (g : GT) : FS := fun ρ M => stx (f ρ M) ρ fun e M1 => match g e ρ M1 with
  | some (.inr ρ1, M2) => some (.nx ρ1, M2)
  | _ => none
theorem ta_asg {f : FE} {gt : GT} {vs : List Nat} {D : Ends} {σ : L2.St} {H : Hp} (h : tS z Wx (gAsgT f gt) D σ H) : tAsg (tE z Wx f) (tG z vs gt) D σ H := by
  obtain ⟨W, M, ρ, ok, env, r, hr, po⟩ := h
  refine stE ok env hr po fun e1 M1 W1 H1 v1 s1 q1 hr1 => ?_
  split at hr1
  · rename_i ρ1 M2 e2
    cases hr1
    exact ⟨W1, M1, ρ, e1, s1.ok, env.w s1.w, q1, _, e2, fun W' H' σ' t q _ => po W' H' σ' (s1.trans t) q⟩
  · cases hr1
theorem pd_asg {tg : Expr} {gt : GT} {vs : List Nat} (he : PE X e (tE z Wx f)) (hg : PG X tg (tG z vs gt)) (hs : swapsWithSole [tg] e pos.line X.env = pure false := by rfl) (hw : swappedStores [tg] e X.env = pure none := by rfl)
    (h1 : (assignEach [tg] X.env).map (·.2) = [assign tg X.env] := by rfl) : PS X (.Assign [tg] e pos) (tS z Wx (gAsgT f gt)) := ps_of (ps_asg he hg hs hw h1) fun _ _ _ => ta_asg
/-- name = value -/
def gSet (i : Nat) (f : FE) : FS := fun ρ M => stx (f ρ M) ρ fun e M1 => some (.nx (ρ.set i (some e)), M1)
theorem ta_set {i : Nat} {f : FE} {D : Ends} {σ : L2.St} {H : Hp} (h : tS z Wx (gSet i f) D σ H) : tAsg (tE z Wx f) (gName i) D σ H := by
  obtain ⟨W, M, ρ, ok, env, r, hr, po⟩ := h
  refine stE ok env hr po fun e1 M1 W1 H1 v1 s1 q1 hr1 => ?_
  cases hr1
  exact po W1 H1 _ s1 ((env.w s1.w).set q1 i)
theorem pd_set {i : Nat} {x : Str} {pos' : Pos} (hN : X.N.Nodup) (hi : X.N[i]? = some x) (hx : Loc X.env.scope x) (he : PE X e (tE z Wx f)) (hs : swapsWith e (some (.Name x pos')) pos.line X.env = pure false := by rfl) (hf : X.fn x = true ∨ X.env.scope.names.lookup x = some .local := by first | exact .inl rfl | exact .inr rfl | assumption) :
    PS X (.Assign [.Name x pos'] e pos) (tS z Wx (gSet i f)) := ps_of (ps_set hN hi hx he hs hf) fun _ _ _ => ta_set
/-- a, b = x, y: stored from the right, no tuple is made -/
def gPar (i j : Nat) (fa : FA) : FS := fun ρ M => stx (fa ρ M) ρ fun es M1 => match es with
  | [a, b] => some (.nx ((ρ.set i (some a)).set j (some b)), M1)
  | _ => none
theorem pd_par {i j : Nat} {x y : Str} {a b : Expr} {fa : FA} {px py pt : Pos} {kt k2 pt2} (hc : X.calm = true) (hN : X.N.Nodup) (hi : X.N[i]? = some x) (hj : X.N[j]? = some y) (hij : i ≠ j)
    (hx : X.env.scope.names.lookup x = some .local) (hy : X.env.scope.names.lookup y = some .local) (ha : PA X [a, b] (tA z Wx fa))
    (hw : swappedStores [.Tuple [.Name x px, .Name y py] kt pt] (.Tuple [a, b] k2 pt2) X.env = pure (some [x, y]))
    (hs : swapsWithSole [.Tuple [.Name x px, .Name y py] kt pt] (.Tuple [a, b] k2 pt2) pos.line X.env = pure false := by rfl) :
    PS X (.Assign [.Tuple [.Name x px, .Name y py] kt pt] (.Tuple [a, b] k2 pt2) pos) (tS z Wx (gPar i j fa)) := ps_of (ps_par hc hN hi hj hij hx hy ha hw hs) fun D σ H ⟨W, M, ρ, ok, env, r, hr, po⟩ =>
  stA ok env hr po fun es M1 W1 H1 vs s1 q1 hr1 => by
    split at hr1
    · rename_i a b
      cases hr1
      cases q1 with | cons r1 q1 => cases q1 with | cons r2 q1 => cases q1; exact ⟨_, _, rfl, po W1 H1 _ s1 (((env.w s1.w).set r1 i).set r2 j)⟩
    · cases hr1
end

abbrev FF := List E → Store → Rs E
def spD (z : Bz) (n : Nat) (f : FF) : Sp := fun vs H Q Xq => ∃ W M es, StoreOk z W M H ∧ REs z W vs es ∧ es.length = n ∧ ∃ r, f es M = some r ∧ Post z W H r Q Xq
/-- a def's function, by its body's -/
def fnOf (N : Nat) (g : FS) : FF := fun es M => match g (es.map some ++ List.replicate (N - es.length) none) M with
  | some (.nx _, M') => some (.inr (.p .non), M')
  | some (.rt e, M') => some (.inr e, M')
  | some (.xn x _, M') => some (.inl x, M')
  | _ => none
theorem env_start {z : Bz} {W : Wd} {N : List Str} {vs : List V} {es : List E} (h : REs z W vs es) : EnvOk z W (es.map some ++ List.replicate (N.length - es.length) none) (L2.start N vs) := by
  have hl := res_len h
  refine ⟨by simp [L2.start, hl], fun i e q => ?_⟩
  by_cases hi : i < es.length
  · rw [List.getElem?_append_left (by simpa using hi), List.getElem?_map] at q
    cases q2 : es[i]? with
    | none => rw [q2] at q; cases q
    | some e' =>
      rw [q2] at q
      cases q
      obtain ⟨v, h1, h2⟩ := paired_get h q2
      refine ⟨v, ?_, h2⟩
      unfold L2.start
      rw [List.getElem?_append_left (by simpa [hl] using hi), List.getElem?_map, h1]
      rfl
  · rw [List.getElem?_append_right (by simpa using hi)] at q
    have := List.mem_of_getElem? q
    rw [List.mem_replicate] at this
    cases this.2
section
variable {P : Program} {w : World} {K : PySem.W.Frag} {mg : Str → Option Value} {base : Heap} {ca : Nat → Addr} {T : List (Addr × Str)}
theorem fn_okD {x qual : Str} {st : Stmt} {f : Addr} {fd : FuncData} {N ps : List Str} {k : Nat} {g : FS} (F : Fun K x qual st f fd) (S : FnScope N ps (defScope st))
    (hb : ∀ (X : Cx), X.prog = P → X.w = w → X.K = K → X.mg = mg → X.base = base → X.N = N → X.env.scope = defScope st → X.calm = true → (X.fn = fun _ => true) → X.stack = X.env :: X.outer → X.env.frame = some X.env.locals → X.ex = [] → PassesOwn (model X.prog X.w) X.A X.env X.xe → ∀ Wx, Takes X Wx → Room k X.A →
      PSs X (defBody st) (tS ⟨P, w, K, ca, T⟩ Wx g)) : FnOk P w K mg base (L2.CX P w) (k + 1) f fd ps (spD ⟨P, w, K, ca, T⟩ ps.length (fnOf N.length g)) := by
  refine F.okX S (fun vs H Q E ⟨W, M, es, ok, rs, hl, _⟩ => (res_len rs).trans hl) fun cdv A outer s H vs Q Xq hr h => ?_
  refine ⟨_, hb (cxOf (L2.CX P w) P w K mg base N qual (defScope st) f cdv A outer s H Xq) rfl rfl rfl rfl rfl rfl rfl rfl rfl rfl rfl rfl PassesOwn.leaving (fun cls d _ H => Xq cls d H) (takes_of rfl rfl rfl rfl) hr, ?_⟩
  obtain ⟨W, M, es, ok, rs, hl, r, hf, po⟩ := h
  refine ⟨W, M, _, ok, env_start rs, ?_⟩
  unfold fnOf at hf
  split at hf
  · rename_i ρ M' e
    cases hf
    exact ⟨_, e, fun W' H' σ' s _ => po W' H' .non s (.p .non)⟩
  · rename_i v M' e
    cases hf
    exact ⟨_, e, fun W' H' v s q => po W' H' v s q⟩
  · rename_i v ρ M' e
    cases hf
    exact ⟨_, e, fun W' H' σ' c d s _ q => po W' H' c d s q⟩
  · cases hf
end
/-- f(e, ..) -/
def fCall (n : Nat) (ff : FF) (dv : List E) (fa : FA) : FE := fun ρ M => bnd (fa ρ M) fun xs M1 => if xs.length + dv.length = n then ff (xs ++ dv) M1 else none
section
variable {X : Cx} {z : Bz} {Wx : WX} {k : Nat} {f : Addr} {fd : FuncData} {ps : List Str} {n : Nat} {ff : FF} {dvs : List V} {ds : List Value} {dv : List E} {x : Str} {p pos : Pos} {e : Expr} {es : List Expr} {fa : FA}
theorem te_call (hdv : ∀ W, REs z W dvs dv) {σ : L2.St} {H : Hp} {Q : VK} (h : tE z Wx (fCall n ff dv fa) σ H Q) : tCallSD (spD z n ff) dvs (WE Wx) (tA z Wx fa) σ H Q := by
  obtain ⟨W, M, ρ, ok, env, r, hr, po⟩ := h
  refine seqA ok env hr po.exc fun e1 M1 W1 H1 v1 s1 q1 hr1 => ?_
  split at hr1
  · rename_i hl
    refine ⟨W1, M1, e1 ++ dv, s1.ok, paired_app q1 (hdv W1), by rw [List.length_append]; exact hl, r, hr1, ?_⟩
    obtain ⟨rr, M'⟩ := r
    cases rr with
    | inl x => exact fun W' H' c d t q => po W' H' c d (s1.trans t) q
    | inr v => exact fun W' H' v t q => po W' H' v (s1.trans t) q
  · cases hr1
theorem pd_call (F : FnOk X.prog X.w X.K X.mg X.base (L2.CX X.prog X.w) k f fd ps (spD z n ff)) (hr : Room k X.A) (hg : Gl X x) (hm : X.mg x = some (.ref f)) (hk : PySem.W.keepIn X.K (.ref f) = true) (hb : Binds X.K fd ps ds) (hd : Vals dvs ds) (hdv : ∀ W, REs z W dvs dv) (tk : Takes X Wx)
    (ha : PA X (e :: es) (tA z Wx fa)) (hdb : (x == ("__debug__" : Str)) = false := by decide) (he : starEach (e :: es) X.env = (false, eval e X.env) :: starEach es X.env := by rfl) (hpl : (backTo pos (starEach es X.env)).any (·.1) = false := by rfl) :
    PE X (.Call (.Name x p) (e :: es) [] pos) (tE z Wx (fCall n ff dv fa)) := pe_of (pe_callSD F hr hg hm hk hb hd (fun σ => passAt tk σ) ha hdb he hpl) fun _ _ _ => te_call hdv
end
end Pl

-- PL9
namespace Pl
open PySem PySem.Spec L2

def whileN (t : FT) (g : FS) : Nat → FS
  | 0, _, _ => none
  | n + 1, ρ, M => stx (t ρ M) ρ fun b M1 => if b = true then match g ρ M1 with
    | some (.nx ρ2, M2) => whileN t g n ρ2 M2
    | some (.ct ρ2, M2) => whileN t g n ρ2 M2
    | some (.bk ρ2, M2) => some (.nx ρ2, M2)
    | r => r
    else some (.nx ρ, M1)
def gWhile (fuel : Env → Store → Nat) (t : FT) (g : FS) : FS := fun ρ M => whileN t g (fuel ρ M) ρ M
section
variable {X : Cx} {z : Bz} {Wx : WX}
theorem pd_while {fuel : Env → Store → Nat} {t : FT} {g : FS} {c : Expr} {body : List Stmt} {pos : Pos} (hp : PassesOwn (model X.prog X.w) X.A X.env X.xe) (hc : PT X c (tT z Wx t)) (hb : PSs X body (tS z Wx g)) : PS X (.While c body [] pos) (tS z Wx (gWhile fuel t g)) := by
  refine ps_of (ps_while hp hc hb) fun D σ H ⟨W, M, ρ, ok, env, r, hr, po⟩ => ?_
  refine ⟨fun m σ' H' => ∃ W' M' ρ', Step z W H W' M' H' ∧ EnvOk z W' ρ' σ' ∧ whileN t g m ρ' M' = some r, ⟨_, W, M, ρ, .refl ok, env, hr⟩, ?_⟩
  rintro m σ' H' ⟨W', M', ρ', s, env', hr'⟩
  cases m with
  | zero => cases hr'
  | succ m =>
    refine stT s.ok env' hr' (po.step s) fun b M1 W1 H1 s1 hr1 => ?_
    have s01 := s.trans s1
    have env1 := env'.w s1.w
    cases b with
    | false =>
      rw [if_neg Bool.false_ne_true] at hr1 ⊢
      cases hr1
      exact po W1 H1 σ' s01 env1
    | true =>
      rw [if_pos rfl] at hr1 ⊢
      refine ⟨fun σ2 H2 => ∃ W2 M2 ρ2, Step z W H W2 M2 H2 ∧ EnvOk z W2 ρ2 σ2 ∧ whileN t g m ρ2 M2 = some r, fun σ2 H2 h => ⟨m, Nat.lt_succ_self _, h⟩, ?_⟩
      split at hr1
      · rename_i ρ2 M2 e
        exact ⟨W1, M1, ρ', s1.ok, env1, _, e, fun W2 H2 σ2 s2 q2 => ⟨W2, M2, ρ2, s01.trans s2, q2, hr1⟩⟩
      · rename_i ρ2 M2 e
        exact ⟨W1, M1, ρ', s1.ok, env1, _, e, fun W2 H2 σ2 s2 q2 => ⟨W2, M2, ρ2, s01.trans s2, q2, hr1⟩⟩
      · rename_i ρ2 M2 e
        cases hr1
        exact ⟨W1, M1, ρ', s1.ok, env1, _, e, fun W2 H2 σ2 s2 q2 => po W2 H2 σ2 (s01.trans s2) q2⟩
      · rename_i r1 n1 n2 n3
        refine ⟨W1, M1, ρ', s1.ok, env1, r, hr1, ?_⟩
        obtain ⟨fl, Mf⟩ := r
        cases fl with
        | nx ρ2 => exact absurd hr1 (n1 ρ2 Mf)
        | ct ρ2 => exact absurd hr1 (n2 ρ2 Mf)
        | bk ρ2 => exact absurd hr1 (n3 ρ2 Mf)
        | rt e => exact fun W2 H2 v s2 q2 => po W2 H2 v (s01.trans s2) q2
        | xn x ρ2 => exact fun W2 H2 σ2 c d s2 q2 => po W2 H2 σ2 c d (s01.trans s2) q2
end

structure It0 where
  n : Nat
  get : Nat → Store → Option E
  fin : Store → Bool
def fixIt (es : List E) : It0 := ⟨es.length, fun i _ => es[i]?, fun _ => true⟩
def cellIt (k n : Nat) : It0 := ⟨n, fun i M => match M[k]? with
  | some (some (.lst es)) => if es.length = n then es[i]? else none
  | _ => none, fun M => match M[k]? with
  | some (some (.lst es)) => decide (es.length = n)
  | _ => false⟩
/-- from (W, H) to (W', M', H'), as far as an iterator cares -/
structure Lat (z : Bz) (W : Wd) (H : Hp) (W' : Wd) (M' : Store) (H' : Hp) : Prop where
  w : WExt W W'
  ok : StoreOk z W' M' H'
  frz : ∀ a od u, H a = some (.frz od u) → H' a = some (.frz od u)
theorem Lat.ext {z : Bz} {W W' : Wd} {M' : Store} {H H' : Hp} (s : Lat z W H W' M' H') : Ext W.F W'.F := s.w.ext
theorem Step.lat {z : Bz} {W W' : Wd} {M' : Store} {H H' : Hp} (s : Step z W H W' M' H') : Lat z W H W' M' H' := ⟨s.w, s.ok, s.frz⟩
theorem Lat.trans {z : Bz} {W W1 W2 : Wd} {M1 M2 : Store} {H H1 H2 : Hp} (s : Lat z W H W1 M1 H1) (t : Lat z W1 H1 W2 M2 H2) : Lat z W H W2 M2 H2 := by
  obtain ⟨m1, e1⟩ := s.w.pre
  obtain ⟨m2, e2⟩ := t.w.pre
  exact ⟨⟨fun a o q => t.w.ext a o (s.w.ext a o q), m1 ++ m2, by rw [e2, e1, List.append_assoc]⟩, t.ok, fun a od u q => t.frz a od u (s.frz a od u q)⟩
def ItOk (z : Bz) (W : Wd) (H : Hp) (J : It) (t : It0) : Prop :=
  ∀ W' M' H', Lat z W H W' M' H' → (∀ (i : Nat) (e : E), i < t.n → t.get i M' = some e → J.go i H' ∧ ∀ x H'', J.yld i H' x H'' → ∃ W'', Step z W' H' W'' M' H'' ∧ RE z W'' x e) ∧ (t.fin M' = true → J.stop t.n H')
abbrev FI := Env → Store → Rs It0
def PostI (z : Bz) (W : Wd) (H : Hp) (r : Sum Xn It0 × Store) (R : It → Hp → Prop) (Xq : XK) : Prop :=
  match r with
  | (.inr t, M') => ∀ W' H' J, Step z W H W' M' H' → ItOk z W' H' J t → R J H'
  | (.inl x, M') => ∀ W' H' cls d, Step z W H W' M' H' → RX z W'.F H' cls d x → Xq cls d H'
def tI (z : Bz) (Wx : WX) (f : FI) : TI := fun σ H R => ∃ W M ρ, StoreOk z W M H ∧ EnvOk z W ρ σ ∧ ∃ r, f ρ M = some r ∧ PostI z W H r R fun c d H' => Wx c d σ H'
theorem PostI.exc {z : Bz} {W : Wd} {H : Hp} {r : Sum Xn It0 × Store} {R : It → Hp → Prop} {Xq : XK} (h : PostI z W H r R Xq) : ExcOk z W H r Xq := fun x M' e => by subst e; exact h
section
variable {X : Cx} {z : Bz} {Wx : WX} {tg iter : Expr}
theorem pi_of {w w' : TI} (h : PI X tg iter w) (q : ∀ σ H R, w' σ H R → w σ H R) : PI X tg iter w' := ⟨fun pins s σ H R I x => h.run pins s σ H R I (q σ H R x)⟩
theorem pi_or {w w' : TI} (h : PI X tg iter w) (h' : PI X tg iter w') : PI X tg iter (fun σ H R => w σ H R ∨ w' σ H R) := ⟨fun pins s σ H R I x => x.elim (h.run pins s σ H R I) (h'.run pins s σ H R I)⟩

def forN (t : It0) (tg : GT) (g : FS) : Nat → Nat → FS
  | 0, _, ρ, M => if t.fin M = true then some (.nx ρ, M) else none
  | k + 1, i, ρ, M => match t.get i M with
    | none => none
    | some e => match tg e ρ M with
      | some (.inr ρ1, M1) => match g ρ1 M1 with
        | some (.nx ρ2, M2) => forN t tg g k (i + 1) ρ2 M2
        | some (.ct ρ2, M2) => forN t tg g k (i + 1) ρ2 M2
        | some (.bk ρ2, M2) => some (.nx ρ2, M2)
        | r => r
      | _ => none
def gFor (fi : FI) (tg : GT) (g : FS) : FS := fun ρ M => stx (fi ρ M) ρ fun t M1 => forN t tg g t.n 0 ρ M1
theorem pd_for {fi : FI} {gt : GT} {vs : List Nat} {g : FS} {body : List Stmt} {pos : Pos} (hp : PassesOwn (model X.prog X.w) X.A X.env X.xe) (hc : X.calm = true) (hi : PI X tg iter (tI z Wx fi)) (hg : PG X tg (tG z vs gt)) (hb : PSs X body (tS z Wx g))
    (hs : ∀ x, foldedSetIterable iter X.env x = pure x := by intro _; rfl) : PS X (.For tg iter body [] pos) (tS z Wx (gFor fi gt g)) := by
  refine ps_of (ps_for hp hc hi hg hb hs) fun D σ H ⟨W, M, ρ, ok, env, r, hr, po⟩ => ?_
  unfold gFor stx at hr
  show tI z Wx fi σ H _
  split at hr
  · cases hr
  · rename_i x M1 e1
    cases hr
    exact ⟨W, M, ρ, ok, env, _, e1, fun W' H' c d s q => po W' H' σ c d s (env.w s.w) q⟩
  · rename_i t M1 e1
    refine ⟨W, M, ρ, ok, env, _, e1, fun W1 H1 J s1 it => ?_⟩
    refine ⟨fun i m σ' H' => i + m = t.n ∧ ∃ W' M' ρ', Step z W1 H1 W' M' H' ∧ EnvOk z W' ρ' σ' ∧ forN t gt g m i ρ' M' = some r, ⟨t.n, by omega, W1, M1, ρ, .refl s1.ok, env.w s1.w, hr⟩, ?_⟩
    rintro i m σ' H' ⟨hm, W', M', ρ', s, env', hr'⟩
    have s01 := s1.trans s
    cases m with
    | zero =>
      unfold forN at hr'
      split at hr'
      · rename_i hf
        cases hr'
        have : i = t.n := by omega
        subst this
        exact .inl ⟨(it W' M' H' s.lat).2 hf, po W' H' σ' s01 env'⟩
      · cases hr'
    | succ m =>
      unfold forN at hr'
      split at hr'
      · cases hr'
      · rename_i e he
        obtain ⟨go, yl⟩ := (it W' M' H' s.lat).1 i e (by omega) he
        refine .inr ⟨go, fun σ2 H2 => ∃ W2 M2 ρ2, Step z W1 H1 W2 M2 H2 ∧ EnvOk z W2 ρ2 σ2 ∧ forN t gt g m (i + 1) ρ2 M2 = some r, fun σ2 H2 h => ⟨m, Nat.lt_succ_self _, by omega, h⟩, fun x H'' y => ?_⟩
        obtain ⟨W'', sy, rx⟩ := yl x H'' y
        split at hr'
        · rename_i ρ1 M2 e2
          refine ⟨W'', M', ρ', e, sy.ok, env'.w sy.w, rx, _, e2, fun W3 H3 σ3 s3 q3 _ => ?_⟩
          have s13 := (s.trans sy).trans s3
          have s03 := s1.trans s13
          split at hr'
          · rename_i ρ2 M3 e3
            exact ⟨W3, M2, ρ1, s3.ok, q3, _, e3, fun W4 H4 σ4 s4 q4 => ⟨W4, M3, ρ2, s13.trans s4, q4, hr'⟩⟩
          · rename_i ρ2 M3 e3
            exact ⟨W3, M2, ρ1, s3.ok, q3, _, e3, fun W4 H4 σ4 s4 q4 => ⟨W4, M3, ρ2, s13.trans s4, q4, hr'⟩⟩
          · rename_i ρ2 M3 e3
            cases hr'
            exact ⟨W3, M2, ρ1, s3.ok, q3, _, e3, fun W4 H4 σ4 s4 q4 => po W4 H4 σ4 (s03.trans s4) q4⟩
          · rename_i r1 n1 n2 n3
            refine ⟨W3, M2, ρ1, s3.ok, q3, r, hr', ?_⟩
            obtain ⟨fl, Mf⟩ := r
            cases fl with
            | nx ρ2 => exact absurd hr' (n1 ρ2 Mf)
            | ct ρ2 => exact absurd hr' (n2 ρ2 Mf)
            | bk ρ2 => exact absurd hr' (n3 ρ2 Mf)
            | rt e => exact fun W4 H4 v s4 q4 => po W4 H4 v (s03.trans s4) q4
            | xn x ρ2 => exact fun W4 H4 σ4 c d s4 q4 => po W4 H4 σ4 c d (s03.trans s4) q4
        · cases hr'

def chars (s : Str) : List E := s.cps.toList.map fun c => .p (.str ⟨#[c]⟩)
def kD : Key → PD
  | .inl i => .int i
  | .inr s => .str s
def itOf (M : Store) : E → Option It0
  | .p (.lst ds) => some (fixIt (ds.map .p))
  | .p (.scr ds) => some (fixIt (ds.map .p))
  | .p (.tup ds) => some (fixIt (ds.map .p))
  | .p (.str s) => some (fixIt (chars s))
  | .p (.dic kvs) => some (fixIt (kvs.map fun p => .p (kD p.1)))
  | .r k => match M[k]? with
    | some (some (.lst es)) => some (cellIt k es.length)
    | _ => none
  | _ => none
def fSeqIt (f : FE) : FI := fun ρ M => bnd (f ρ M) fun e M1 => match itOf M1 e with
  | some t => some (.inr t, M1)
  | none => none
theorem paired_at {vs : List V} {es : List E} {W : Wd} (h : REs z W vs es) {i : Nat} {e : E} (q : es[i]? = some e) : ∃ v, vs[i]? = some v ∧ RE z W v e := paired_get h q
theorem itOk_seqL {K : PySem.W.Frag} {W : Wd} {H : Hp} {a : Addr} {vs : List V} {es : List E} (hs : ∀ W' M' H', Lat z W H W' M' H' → SqL K H' a vs) (h : REs z W vs es) : ItOk z W H (Itl K a) (fixIt es) := by
  intro W' M' H' s
  have q := hs W' M' H' s
  refine ⟨fun i e hi he => ?_, fun _ => ⟨vs, q, by rw [res_len h]; exact Nat.le_refl _⟩⟩
  obtain ⟨v, h1, h2⟩ := paired_at h he
  refine ⟨⟨vs, v, q, h1⟩, fun x H'' y => ?_⟩
  obtain ⟨e', y⟩ := y
  subst e'
  have := y vs q
  rw [h1] at this
  cases this
  exact ⟨W', .refl s.ok, s.w.re h2⟩
theorem itOk_seqT {K : PySem.W.Frag} {W : Wd} {H : Hp} {a : Addr} {vs : List V} {es : List E} (hs : ∀ W' M' H', Lat z W H W' M' H' → SqT K H' a vs) (h : REs z W vs es) : ItOk z W H (Itt K a) (fixIt es) := by
  intro W' M' H' s
  have q := hs W' M' H' s
  refine ⟨fun i e hi he => ?_, fun _ => ⟨vs, q, by rw [res_len h]; exact Nat.le_refl _⟩⟩
  obtain ⟨v, h1, h2⟩ := paired_at h he
  refine ⟨⟨vs, v, q, h1⟩, fun x H'' y => ?_⟩
  obtain ⟨e', y⟩ := y
  subst e'
  have := y vs q
  rw [h1] at this
  cases this
  exact ⟨W', .refl s.ok, s.w.re h2⟩
theorem re_str {W : Wd} {v : V} {s : Str} (h : RE z W v (.p (.str s))) : v = .str s := by cases h with | p h => cases h; rfl
theorem re_dic {W : Wd} {v : V} {ds : List (Key × PD)} (h : RE z W v (.p (.dic ds))) : ∃ a o kvs, v = .ref a ∧ W.F a = some (.frz o (.dK kvs)) ∧ kvs.length ≤ sizeLine ∧ RVk z W.F kvs ds := by
  cases h with | p h => cases h with | dic h1 h2 h3 => exact ⟨_, _, _, rfl, h1, h2, h3⟩
theorem rvk_len {F : Hp} : ∀ {kvs : List (Key × V)} {ds : List (Key × PD)}, RVk z F kvs ds → kvs.length = ds.length
  | _, _, .nil => rfl
  | _, _, .cons r t => by simp [rvk_len t]
theorem rvk_at {F : Hp} : ∀ {kvs : List (Key × V)} {ds : List (Key × PD)} {i : Nat} {k : Key} {d : PD}, RVk z F kvs ds → ds[i]? = some (k, d) → ∃ v, kvs[i]? = some (k, v) ∧ RV z F v d
  | _, _, i, _, _, .nil, h => by simp at h
  | _, _, 0, _, _, .cons r t, h => by simp at h; obtain ⟨rfl, rfl⟩ := h; exact ⟨_, rfl, r⟩
  | _, _, i + 1, _, _, .cons r t, h => by
    obtain ⟨x, h1, h2⟩ := rvk_at (i := i) t (by simpa using h)
    exact ⟨x, by simpa using h1, h2⟩
theorem rv_key {F : Hp} (k : Key) : RV z F (kV k) (kD k) := by
  cases k with
  | inl i => exact .int i
  | inr s => exact .str s
theorem itOk_str {W : Wd} {H : Hp} (x : Str) : ItOk z W H (Its x) (fixIt (chars x)) := fun W2 M2 H2 s2 => by
  refine ⟨fun i e hi he => ?_, fun _ => ?_⟩
  · have hi' : i < x.cps.size := by simpa [fixIt, chars] using hi
    refine ⟨hi', fun y H'' ⟨e1, c, hc, ey⟩ => ?_⟩
    subst e1 ey
    refine ⟨W2, .refl s2.ok, ?_⟩
    have he : (chars x)[i]? = some e := he
    unfold chars at he
    rw [List.getElem?_map, Array.getElem?_toList, hc] at he
    cases he
    exact .p (.str _)
  · show x.cps.size ≤ (chars x).length
    simp [chars]
theorem itOk_keys {W : Wd} {H : Hp} {a : Addr} {o : Obj} {kvs : List (Key × V)} {ds : List (Key × PD)} (h1 : W.F a = some (.frz o (.dK kvs))) (h3 : RVk z W.F kvs ds) : ItOk z W H (Itk a o kvs) (fixIt (ds.map fun p => .p (kD p.1))) := fun W2 M2 H2 s2 => by
  have hf := s2.ok.same _ _ (s2.ext _ _ h1)
  refine ⟨fun i e hi he => ?_, fun _ => ⟨hf, by simp [fixIt, rvk_len h3]⟩⟩
  have hi' : i < kvs.length := by simpa [fixIt, rvk_len h3] using hi
  refine ⟨⟨hf, hi'⟩, fun y H'' ⟨e1, k, v, hk, ey⟩ => ?_⟩
  subst e1 ey
  refine ⟨W2, .refl s2.ok, ?_⟩
  have he : (ds.map fun p => E.p (kD p.1))[i]? = some e := he
  rw [List.getElem?_map] at he
  cases q : ds[i]? with
  | none => rw [q] at he; cases he
  | some p =>
    rw [q] at he
    cases he
    obtain ⟨k', d⟩ := p
    obtain ⟨v', h4, h5⟩ := rvk_at h3 q
    rw [hk] at h4
    cases h4
    exact .p (rv_key _)
theorem itOk_vals {W : Wd} {H : Hp} {a : Addr} {o : Obj} {kvs : List (Key × V)} {ds : List (Key × PD)} (h1 : W.F a = some (.frz o (.dK kvs))) (h3 : RVk z W.F kvs ds) : ItOk z W H (Itd a o kvs) (fixIt (ds.map fun p => .p p.2)) := fun W2 M2 H2 s2 => by
  have hf := s2.ok.same _ _ (s2.ext _ _ h1)
  refine ⟨fun i e hi he => ?_, fun _ => ⟨hf, by simp [fixIt, rvk_len h3]⟩⟩
  have hi' : i < kvs.length := by simpa [fixIt, rvk_len h3] using hi
  refine ⟨⟨hf, hi'⟩, fun y H'' ⟨e1, k, hk⟩ => ?_⟩
  subst e1
  refine ⟨W2, .refl s2.ok, ?_⟩
  have he : (ds.map fun p => E.p p.2)[i]? = some e := he
  rw [List.getElem?_map] at he
  cases q : ds[i]? with
  | none => rw [q] at he; cases he
  | some p =>
    rw [q] at he
    cases he
    obtain ⟨k', d⟩ := p
    obtain ⟨v', h4, h5⟩ := rvk_at h3 q
    rw [hk] at h4
    cases h4
    exact .p (h5.ext (Ext.of s2.ext))
/-- a new pair at each turn -/
theorem new_pair {W2 : Wd} {M2 : Store} {H2 : Hp} {T : Addr} {v w : V} {d e : PD} (ok : StoreOk z W2 M2 H2) (hT : H2 T = none) (r1 : RV z W2.F v d) (r2 : RV z W2.F w e) : ∃ W'', Step z W2 H2 W'' M2 (upd H2 T (.tup [v, w])) ∧ RE z W'' (.ref T) (.p (.tup [d, e])) := by
  have s := newF ok hT (.tup [v, w])
  exact ⟨_, s, .p (.tup (SqT.of upd_same) (by rw [sizeLine_eq]; exact (by decide : 2 ≤ 16777216)) (.cons (r1.ext s.w.ext) (.cons (r2.ext s.w.ext) .nil)))⟩
theorem itOk_items {W : Wd} {H : Hp} {a : Addr} {o : Obj} {kvs : List (Key × V)} {ds : List (Key × PD)} (h1 : W.F a = some (.frz o (.dK kvs))) (h3 : RVk z W.F kvs ds) : ItOk z W H (Iti a o kvs) (fixIt (ds.map fun p => .p (.tup [kD p.1, p.2]))) := fun W2 M2 H2 s2 => by
  have hf := s2.ok.same _ _ (s2.ext _ _ h1)
  refine ⟨fun i e hi he => ?_, fun _ => ⟨hf, by simp [fixIt, rvk_len h3]⟩⟩
  have hi' : i < kvs.length := by simpa [fixIt, rvk_len h3] using hi
  refine ⟨⟨hf, hi'⟩, fun y H'' ⟨T, k, v, hk, ey, hT, eH⟩ => ?_⟩
  subst ey eH
  have he : (ds.map fun p => E.p (.tup [kD p.1, p.2]))[i]? = some e := he
  rw [List.getElem?_map] at he
  cases q : ds[i]? with
  | none => rw [q] at he; cases he
  | some p =>
    rw [q] at he
    cases he
    obtain ⟨k', d⟩ := p
    obtain ⟨v', h4, h5⟩ := rvk_at h3 q
    rw [hk] at h4
    cases h4
    exact new_pair s2.ok hT (rv_key _) (h5.ext (Ext.of s2.ext))
theorem pdi_seq {f : FE} (F : Fits X z) (he : PE X iter (tE z Wx f)) : PI X tg iter (tI z Wx (fSeqIt f)) := by
  refine pi_of (pi_or (pi_list he) (pi_or (pi_tup he) (pi_or (pi_str he) (pi_keys he)))) fun σ H R ⟨W, M, ρ, ok, env, r, hr, po⟩ => ?_
  rcases bnd_some hr with ⟨x, M1, e1, e2⟩ | ⟨e, M1, e1, hr1⟩
  · subst e2
    exact .inl ⟨W, M, ρ, ok, env, _, e1, fun W' H' c d s q => po W' H' c d s q⟩
  · split at hr1
    · rename_i t ht
      cases hr1
      unfold itOf at ht
      split at ht
      · cases ht
        refine .inl ⟨W, M, ρ, ok, env, _, e1, fun W' H' v s q => ?_⟩
        cases q with | p q =>
        obtain ⟨a, xs, rfl, h1, h2, h3⟩ := rv_lst q
        refine ⟨a, rfl, ⟨xs, .of (s.ok.same _ _ h1)⟩, po W' H' _ s (itOk_seqL (fun W2 M2 H2 s2 => .of (s2.ok.same _ _ (s2.ext _ _ h1))) (rvs_res h3))⟩
      · cases ht
        refine .inl ⟨W, M, ρ, ok, env, _, e1, fun W' H' v s q => ?_⟩
        cases q with | p q => cases q with | scr h1 h2 h3 =>
        rename_i a xs
        have h1 : SqL X.K W'.F a xs := F.K ▸ h1
        exact ⟨a, rfl, ⟨xs, (Ext.of s.ok.same).sqL h1⟩, po W' H' _ s (itOk_seqL (fun W2 M2 H2 s2 => (Ext.of s2.ok.same).sqL (s2.ext.sqL h1)) (rvs_res h3))⟩
      · cases ht
        refine .inr (.inl ⟨W, M, ρ, ok, env, _, e1, fun W' H' v s q => ?_⟩)
        cases q with | p q =>
        obtain ⟨a, xs, rfl, h1, h2, h3⟩ := rv_tup q
        have h1 : SqT X.K W'.F a xs := F.K ▸ h1
        exact ⟨a, rfl, ⟨xs, (Ext.of s.ok.same).sqT h1⟩, po W' H' _ s (itOk_seqT (fun W2 M2 H2 s2 => (Ext.of s2.ok.same).sqT (s2.ext.sqT h1)) (rvs_res h3))⟩
      · cases ht
        refine .inr (.inr (.inl ⟨W, M, ρ, ok, env, _, e1, fun W' H' v s q => ?_⟩))
        exact ⟨_, re_str q, po W' H' _ s (itOk_str _)⟩
      · cases ht
        refine .inr (.inr (.inr ⟨W, M, ρ, ok, env, _, e1, fun W' H' v s q => ?_⟩))
        obtain ⟨a, o, kvs, rfl, h1, h2, h3⟩ := re_dic q
        exact ⟨a, o, rfl, .inl ⟨kvs, s.ok.same _ _ h1, po W' H' _ s (itOk_keys h1 h3)⟩⟩
      · rename_i k
        split at ht
        · rename_i es hM
          cases ht
          refine .inl ⟨W, M, ρ, ok, env, _, e1, fun W' H' v s q => ?_⟩
          cases q with | r ha =>
          rename_i a
          obtain ⟨b, e1', e2', vs, e3, e4, e5⟩ := s.ok.cell k _ hM
          rw [ha] at e1'; cases e1'
          refine ⟨a, rfl, ⟨vs, .of e3⟩, po W' H' _ s fun W2 M2 H2 s2 => ?_⟩
          have ha2 : W2.α[k]? = some a := by
            obtain ⟨more, em⟩ := s2.w.pre
            rw [em, List.getElem?_append_left (List.getElem?_eq_some_iff.mp ha).1]
            exact ha
          refine ⟨fun i e hi he => ?_, fun hf => ?_⟩
          · unfold cellIt at he
            dsimp only at he
            split at he
            · rename_i es2 hM2
              split at he
              · obtain ⟨b, f1, f2, vs2, f3, f4, f5⟩ := s2.ok.cell k _ hM2
                rw [ha2] at f1; cases f1
                obtain ⟨v, h1, h2⟩ := paired_at f5 he
                refine ⟨⟨vs2, v, .of f3, h1⟩, fun x H'' y => ?_⟩
                obtain ⟨e', y⟩ := y
                subst e'
                have := y vs2 (.of f3)
                rw [h1] at this
                cases this
                exact ⟨W2, .refl s2.ok, h2⟩
              · cases he
            · cases he
          · unfold cellIt at hf
            dsimp only at hf
            split at hf
            · rename_i es2 hM2
              obtain ⟨b, f1, f2, vs2, f3, f4, f5⟩ := s2.ok.cell k _ hM2
              rw [ha2] at f1; cases f1
              refine ⟨vs2, .of f3, ?_⟩
              rw [res_len f5, of_decide_eq_true hf]
              exact Nat.le_refl _
            · cases hf
        · cases ht
      · cases ht
    · cases hr1
end
end Pl

-- PL10
namespace Pl
open PySem PySem.Spec L2

section
variable {z : Bz} {W W' : Wd} {M M' : Store} {H H' : Hp} {D : Addr} {o : HO}
theorem Step.side (s : Step z W H W' M' H') (hn : H D = none) (hF : W'.F D = none) (hα : D ∉ W'.α) (hw : ∀ a, H' D ≠ some (.own a)) (hw2 : (∀ ps, H' D ≠ some (.tbl ps)) ∧ ∀ c q, H' D ≠ some (LamX.CodeO c q)) : Step z W H W' M' (upd H' D o) := by
  have k : ∀ b u, b ≠ D → H' b = some u → upd H' D o b = some u := fun b u e q => by rw [upd_ne e]; exact q
  refine ⟨s.ext, s.pre, ⟨fun b u q => k b u (ne_of_none q hF) (s.ok.same b u q), s.ok.len, s.ok.nd, fun b q n => ?_, fun j c q => ?_, setTabs hw2.1 hw2.2 s.ok.tabs, s.ok.ntb, fun b hb ps hq q => ?_⟩, s.fnew, fun b u q hb ht => k b u (ne_of_none q hn) (s.keep b u q hb ht), fun b od u q => k b _ (ne_of_none q hn) (s.frz b od u q)⟩
  · have nb : b ≠ D := fun e => hα (e ▸ q)
    rw [upd_ne nb] at n
    exact s.ok.live b q n
  · obtain ⟨a, e1, e2, e3⟩ := s.ok.cell j c q
    have na : a ≠ D := fun e => hα (e ▸ List.mem_of_getElem? e1)
    exact ⟨a, e1, e2, e3.mono ⟨.of (.refl _), [], by simp⟩ (fun u q => k a u na q) fun dx q => k dx _ (fun e => hw a (e ▸ q)) q⟩
  · rw [upd_ne (show b ≠ D from fun e => hα (e ▸ hb))] at q
    exact s.ok.nta b hb ps hq q
theorem Step.adoptF (s : Step z W H W' M' H') (hn : H D = none) (hF : W'.F D = none) (hα : D ∉ W'.α) (h : H' D = some o) (ho : ∀ ps, o ≠ .tbl ps := by intro _ q; cases q) : Step z W H ⟨upd W'.F D o, W'.α⟩ M' H' := by
  have w : WExt W' ⟨upd W'.F D o, W'.α⟩ := ⟨.of (same_upd hF), [], by simp⟩
  refine ⟨s.ext.trans (same_upd hF), s.pre, ⟨fun b u q => ?_, s.ok.len, s.ok.nd, s.ok.live, fun j c q => ?_, s.ok.tabs, fun b ps q => ?_, s.ok.nta⟩, fun b u q => ?_, s.keep, s.frz⟩
  · by_cases e : b = D
    · subst e
      have q : upd W'.F b o b = some u := q
      rw [upd_same] at q
      cases q
      exact h
    · have q : upd W'.F D o b = some u := q
      rw [upd_ne e] at q
      exact s.ok.same b u q
  · obtain ⟨a, e1, e2, e3⟩ := s.ok.cell j c q
    have na : a ≠ D := fun e => hα (e ▸ List.mem_of_getElem? e1)
    exact ⟨a, e1, by show upd W'.F D o a = none; rw [upd_ne na]; exact e2, e3.mono w (fun _ q => q) fun _ q => q⟩
  · have q : upd W'.F D o b = some (.tbl ps) := q
    by_cases e : b = D
    · rw [e, upd_same] at q; exact ho _ (Option.some.inj q)
    · rw [upd_ne e] at q; exact s.ok.ntb b ps q
  · by_cases e : b = D
    · subst e; exact .inr (.inl (.of hn))
    · have q : upd W'.F D o b = some u := q
      rw [upd_ne e] at q
      exact s.fnew b u q
theorem odd_lst {a : Addr} {xs : List V} (h : H' a = some (.lst xs)) : ∀ o, OddO o → H' a ≠ some o := fun o ho q => by
  rw [h] at q
  cases q
  rcases ho with ⟨_, e⟩ | ⟨_, _, e⟩
  · cases e
  · unfold LamX.CodeO at e; cases e
theorem odd_dK {a : Addr} {xs : List (Key × V)} (h : H' a = some (.dK xs)) : ∀ o, OddO o → H' a ≠ some o := fun o ho q => by
  rw [h] at q
  cases q
  rcases ho with ⟨_, e⟩ | ⟨_, _, e⟩
  · cases e
  · unfold LamX.CodeO at e; cases e
theorem Step.adoptC {c : Cell} (s : Step z W H W' M' H') (hn : H D = none) (hF : W'.F D = none) (hα : D ∉ W'.α) (h : H' D ≠ none) (hc : CellAt z ⟨W'.F, W'.α ++ [D]⟩ H' D c) (ht : ∀ o, OddO o → H' D ≠ some o) : Step z W H ⟨W'.F, W'.α ++ [D]⟩ (M' ++ [some c]) H' := by
  have w : WExt W' ⟨W'.F, W'.α ++ [D]⟩ := ⟨.of (.refl _), [D], rfl⟩
  obtain ⟨more, e, n⟩ := s.pre
  refine ⟨s.ext, ⟨more ++ [D], by show W'.α ++ [D] = _; rw [e, List.append_assoc], fun b q => ?_⟩, ⟨s.ok.same, by simp [s.ok.len], ?_, fun b q => ?_, fun k c' q => ?_, s.ok.tabs, s.ok.ntb, fun b hb ps hq q => ?_⟩, s.fnew, s.keep, s.frz⟩
  · rcases List.mem_append.mp q with q | q
    · exact n b q
    · rw [List.mem_singleton.mp q]; exact .of hn
  · refine List.nodup_append.mpr ⟨s.ok.nd, by simp, fun b hb c hc e => ?_⟩
    subst e
    rw [List.mem_singleton.mp hc] at hb
    exact hα hb
  · rcases List.mem_append.mp q with q | q
    · exact s.ok.live b q
    · rw [List.mem_singleton.mp q]; exact h
  · by_cases hk : k < M'.length
    · rw [List.getElem?_append_left hk] at q
      obtain ⟨b, e1, e2, e3⟩ := s.ok.cell k c' q
      refine ⟨b, ?_, e2, e3.mono w (fun _ q => q) fun _ q => q⟩
      show (W'.α ++ [D])[k]? = some b
      rw [List.getElem?_append_left (by rw [← s.ok.len]; exact hk)]
      exact e1
    · have hk2 : k = M'.length := by
        have := (List.getElem?_eq_some_iff.mp q).1
        simp at this
        omega
      subst hk2
      rw [List.getElem?_append_right (Nat.le_refl _)] at q
      simp at q
      subst q
      refine ⟨D, ?_, hF, hc⟩
      show (W'.α ++ [D])[M'.length]? = some D
      rw [s.ok.len, List.getElem?_append_right (Nat.le_refl _)]
      simp
  · rcases List.mem_append.mp hb with hb | hb
    · exact s.ok.nta b hb ps hq q
    · rw [List.mem_singleton.mp hb] at q; exact ht ps hq q
/-- a list that was filled beside becomes a value -/
theorem adoptLst {m : Bool} {es : List E} {vs : List V} {e : E} {M2 : Store} {Q : VK} (s : Step z W H W' M' H') (hn : H D = none) (hF : W'.F D = none) (hα : D ∉ W'.α) (h : H' D = some (.lst vs)) (hl : vs.length ≤ sizeLine) (r : REs z W' vs es) (hm : mkLst m es M' = some (e, M2))
    (hq : ∀ W' H' v, Step z W H W' M2 H' → RE z W' v e → Q v H') : Q (.ref D) H' := by
  unfold mkLst at hm
  split at hm
  · cases hm
    refine hq _ _ _ (s.adoptC hn hF hα (by rw [h]; exact fun z => by cases z) ⟨vs, h, hl, ?_⟩ (odd_lst h)) (.r ?_)
    · exact WExt.res (W := W') (W' := ⟨W'.F, W'.α ++ [D]⟩) ⟨.of (.refl _), [D], rfl⟩ r
    · show (W'.α ++ [D])[M'.length]? = some D
      rw [s.ok.len, List.getElem?_append_right (Nat.le_refl _)]
      simp
  · split at hm
    · rename_i ds hd
      cases hm
      exact hq _ _ _ (s.adoptF hn hF hα h) (.p (.lst upd_same hl ((asPs_rvs hd r).ext (Ext.of (same_upd hF)))))
    · cases hm
/-- what stood beside is not taken in -/
theorem Step.beside {W1 : Wd} {M1 : Store} {H1 : Hp} (t : Step z W' H' W1 M1 H1) (hF : W'.F D = none) (hα : D ∉ W'.α) (h : H' D = some o) (ho : ¬ OddO o := by rintro (⟨_, q⟩ | ⟨_, _, q⟩) <;> first | cases q | (unfold LamX.CodeO at q; cases q)) : W1.F D = none ∧ D ∉ W1.α ∧ H1 D = some o := by
  obtain ⟨more, e, n⟩ := t.pre
  refine ⟨?_, ?_, t.keep D o h hα fun ps e => ho (.inl ⟨ps, e⟩)⟩
  · cases q : W1.F D with
    | none => rfl
    | some u =>
      rcases t.fnew D u q with x | x | x | ⟨nm, x⟩
      · rw [hF] at x; cases x
      · exact absurd (.inl (x _ h)) ho
      · exact absurd x hα
      · have e1 := t.keep D o h hα fun ps e => ho (.inl ⟨ps, e⟩)
        have e2 := t.ok.same D u q
        rw [e1] at e2
        exact absurd (.inr ⟨D, nm, (Option.some.inj e2).trans x⟩) ho
  · rw [e]
    intro q
    rcases List.mem_append.mp q with q | q
    · exact hα q
    · exact ho (.inl (n D q _ h))
end

def rangeE (lo : Int) (n : Nat) : List E := (List.range n).map fun (k : Nat) => .p (.int (lo + (k : Int)))
theorem rangeE_at {lo : Int} {n i : Nat} {e : E} (h : (rangeE lo n)[i]? = some e) : e = .p (.int (lo + (i : Int))) ∧ i < n := by
  unfold rangeE at h
  rw [List.getElem?_map] at h
  cases q : (List.range n)[i]? with
  | none => rw [q] at h; cases h
  | some k =>
    rw [q] at h
    obtain ⟨h1, h2⟩ := List.getElem?_eq_some_iff.mp q
    rw [List.getElem_range] at h2
    rw [List.length_range] at h1
    cases h
    subst h2
    exact ⟨rfl, h1⟩
section
variable {X : Cx} {z : Bz} {Wx : WX} {tg : Expr}
theorem itOk_range {W : Wd} {H : Hp} (lo : Int) (n : Nat) : ItOk z W H (Itr lo n) (fixIt (rangeE lo n)) := fun W2 M2 H2 s2 => by
  refine ⟨fun i e hi he => ?_, fun _ => ?_⟩
  · obtain ⟨rfl, hi⟩ := rangeE_at he
    refine ⟨hi, fun x H'' ⟨e1, e2⟩ => ?_⟩
    subst e1 e2
    exact ⟨W2, .refl s2.ok, .p (.int _)⟩
  · show n ≤ (rangeE lo n).length
    simp [rangeE]
def okR (j : Int) : Bool := decide (-(2 ^ 62) ≤ j) && decide (j < 2 ^ 62)
theorem okR_ok {j : Int} (h : okR j = true) : -(2 ^ 62) ≤ j ∧ j < 2 ^ 62 := by
  unfold okR at h
  simp only [Bool.and_eq_true, decide_eq_true_eq] at h
  exact h
def rngIt1 : List E → Option It0
  | [a] => match asInt a with
    | some j => if okR j = true then some (fixIt (rangeE 0 j.toNat)) else none
    | none => none
  | _ => none
def rngIt2 : List E → Option It0
  | [a, b] => match asInt a, asInt b with
    | some i, some j => if (okR i && okR j) = true then some (fixIt (rangeE i (j - i).toNat)) else none
    | _, _ => none
  | _ => none
def fItA (g : List E → Option It0) (fa : FA) : FI := fun ρ M => bnd (fa ρ M) fun es M1 => match g es with
  | some t => some (.inr t, M1)
  | none => none
theorem ti_A {fa : FA} {g : List E → Option It0} {σ : L2.St} {H : Hp} {R : It → Hp → Prop} {Q : List V → Hp → Prop} (h : tI z Wx (fItA g fa) σ H R)
    (w : ∀ (W : Wd) (M : Store) (H : Hp) (vs : List V) (es : List E) (t : It0), StoreOk z W M H → REs z W vs es → g es = some t → (∀ J, ItOk z W H J t → R J H) → Q vs H) : tA z Wx fa σ H Q := by
  obtain ⟨W, M, ρ, ok, env, r, hr, po⟩ := h
  refine seqA ok env hr po.exc fun es M1 W1 H1 vs s1 q1 hr1 => ?_
  split at hr1
  · rename_i t ht
    cases hr1
    exact w W1 M1 H1 vs es t s1.ok q1 ht fun J it => po W1 H1 J s1 it
  · cases hr1
theorem pdi_range1 {fa : FA} {a : Expr} {p pos : Pos} (hg : Gl X "range") (hm : X.mg "range" = none) (ha : PA X [a] (tA z Wx fa)) (hs : starEach [a] X.env = [(false, eval a X.env)] := by rfl) : PI X tg (.Call (.Name "range" p) [a] [] pos) (tI z Wx (fItA rngIt1 fa)) :=
  pi_of (pi_range1 hg hm ha hs) fun σ H R h => ti_A h fun W M H vs es t ok q1 ht po => by
    unfold rngIt1 at ht
    split at ht
    · rename_i a
      split at ht
      · rename_i j hj
        split at ht
        · rename_i hb
          cases ht
          cases q1 with | cons r1 q1 =>
          cases q1
          obtain ⟨b1, b2⟩ := okR_ok hb
          exact ⟨j, by rw [asInt_ok r1 hj], b1, b2, po _ (itOk_range 0 j.toNat)⟩
        · cases ht
      · cases ht
    · cases ht
theorem pdi_range2 {fa : FA} {a b : Expr} {p pos : Pos} (hg : Gl X "range") (hm : X.mg "range" = none) (ha : PA X [a, b] (tA z Wx fa)) (hs : starEach [a, b] X.env = [(false, eval a X.env), (false, eval b X.env)] := by rfl) (hs2 : starEach [b] X.env = [(false, eval b X.env)] := by rfl) :
    PI X tg (.Call (.Name "range" p) [a, b] [] pos) (tI z Wx (fItA rngIt2 fa)) :=
  pi_of (pi_range2 hg hm ha hs hs2) fun σ H R h => ti_A h fun W M H vs es t ok q1 ht po => by
    unfold rngIt2 at ht
    split at ht
    · rename_i a b
      split at ht
      · rename_i i j hi hj
        split at ht
        · rename_i hb
          cases ht
          cases q1 with | cons r1 q1 =>
          cases q1 with | cons r2 q1 =>
          cases q1
          simp only [Bool.and_eq_true] at hb
          obtain ⟨b1, b2⟩ := okR_ok hb.1
          obtain ⟨b3, b4⟩ := okR_ok hb.2
          exact ⟨i, j, by rw [asInt_ok r1 hi, asInt_ok r2 hj], ⟨b1, b2, b3, b4⟩, po _ (itOk_range i _)⟩
        · cases ht
      · cases ht
    · cases ht
def enumIt : List E → Option It0
  | [.p (.lst ds)] => some (fixIt ((List.range ds.length).zipWith (fun (i : Nat) d => .p (.tup [.int (i : Int), d])) ds))
  | _ => none
theorem zipW_at {α β γ : Type} {f : α → β → γ} {xs : List α} {ys : List β} {i : Nat} {c : γ} (h : (List.zipWith f xs ys)[i]? = some c) : ∃ a b, xs[i]? = some a ∧ ys[i]? = some b ∧ c = f a b := by
  rw [List.getElem?_zipWith] at h
  cases h1 : xs[i]? with
  | none => rw [h1] at h; cases h
  | some a =>
    cases h2 : ys[i]? with
    | none => rw [h1, h2] at h; cases h
    | some b => rw [h1, h2] at h; cases h; exact ⟨a, b, rfl, rfl, rfl⟩
theorem pdi_enum {fa : FA} {e : Expr} {p pos tpos : Pos} {elts : List Expr} {kk : Nat} (hg : Gl X "enumerate") (hm : X.mg "enumerate" = none) (ha : PA X [e] (tA z Wx fa)) (hs : starEach [e] X.env = [(false, eval e X.env)] := by rfl) :
    PI X (.Tuple elts kk tpos) (.Call (.Name "enumerate" p) [e] [] pos) (tI z Wx (fItA enumIt fa)) :=
  pi_of (pi_enum hg hm ha hs) fun σ H R h => ti_A h fun W M H vs es t ok q1 ht po => by
    unfold enumIt at ht
    split at ht
    · rename_i ds
      cases ht
      cases q1 with | cons r1 q1 =>
      cases q1
      cases r1 with | p r1 =>
      obtain ⟨a, xs, rfl, h1, h2, h3⟩ := rv_lst r1
      have hl := rvs_len h3
      refine ⟨a, xs, rfl, .of (ok.same _ _ h1), po _ fun W2 M2 H2 s2 => ?_⟩
      have hf : SqL X.K H2 a xs := .of (s2.ok.same _ _ (s2.ext _ _ h1))
      refine ⟨fun i e hi he => ?_, fun _ => ⟨xs, hf, ?_⟩⟩
      · obtain ⟨j, d, e1, e2, rfl⟩ := zipW_at he
        obtain ⟨k1, k2⟩ := List.getElem?_eq_some_iff.mp e1
        rw [List.getElem_range] at k2
        subst k2
        obtain ⟨x, hx, rx⟩ := paired_get (rvs_paired h3) e2
        refine ⟨⟨xs, x, hf, hx⟩, fun y H'' ⟨T, x', ey, hT, eH, hy⟩ => ?_⟩
        subst ey eH
        have := hy xs hf
        rw [hx] at this
        cases this
        exact new_pair s2.ok hT (.int _) (rx.ext (Ext.of s2.ext))
      · simp [fixIt, hl]
    · cases ht
def zipIt : List E → Option It0
  | [.p (.lst ds), .p (.lst es)] => some (fixIt (List.zipWith (fun d e => .p (.tup [d, e])) ds es))
  | _ => none
theorem pdi_zip {fa : FA} {e e2 : Expr} {p pos tpos : Pos} {elts : List Expr} {kk : Nat} (hg : Gl X "zip") (hm : X.mg "zip" = none) (ha : PA X [e, e2] (tA z Wx fa))
    (hs : starEach [e, e2] X.env = (false, eval e X.env) :: starEach [e2] X.env := by rfl) (hpl : (backTo pos (starEach [e2] X.env)).any (·.1) = false := by rfl) :
    PI X (.Tuple elts kk tpos) (.Call (.Name "zip" p) [e, e2] [] pos) (tI z Wx (fItA zipIt fa)) :=
  pi_of (pi_zip hg hm ha hs hpl) fun σ H R h => ti_A h fun W M H vs es t ok q1 ht po => by
    unfold zipIt at ht
    split at ht
    · rename_i ds es
      cases ht
      cases q1 with | cons r1 q1 =>
      cases q1 with | cons r2 q1 =>
      cases q1
      cases r1 with | p r1 =>
      cases r2 with | p r2 =>
      obtain ⟨a, xs, rfl, h1, h2, h3⟩ := rv_lst r1
      obtain ⟨b, ys, rfl, k1, k2, k3⟩ := rv_lst r2
      have hl := rvs_len h3
      have kl := rvs_len k3
      refine ⟨a, b, xs, ys, rfl, .of (ok.same _ _ h1), .of (ok.same _ _ k1), po _ fun W2 M2 H2 s2 => ?_⟩
      have hf : SqL X.K H2 a xs := .of (s2.ok.same _ _ (s2.ext _ _ h1))
      have kf : SqL X.K H2 b ys := .of (s2.ok.same _ _ (s2.ext _ _ k1))
      refine ⟨fun i e hi he => ?_, fun _ => ⟨xs, ys, hf, kf, ?_⟩⟩
      · obtain ⟨d, d2, e1, e2, rfl⟩ := zipW_at he
        obtain ⟨x, hx, rx⟩ := paired_get (rvs_paired h3) e1
        obtain ⟨y, hy, ry⟩ := paired_get (rvs_paired k3) e2
        refine ⟨⟨xs, ys, x, y, hf, kf, hx, hy⟩, fun v H'' ⟨T, x', y', ey, hT, eH, hxx, hyy⟩ => ?_⟩
        subst ey eH
        have z1 := hxx xs hf
        have z2 := hyy ys kf
        rw [hx] at z1
        rw [hy] at z2
        cases z1
        cases z2
        exact new_pair s2.ok hT (rx.ext (Ext.of s2.ext)) (ry.ext (Ext.of s2.ext))
      · simp only [fixIt, List.length_zipWith, hl, kl]
        omega
    · cases ht
/-- d.items(), d.values() -/
def itemsIt : E → Option It0
  | .p (.dic ds) => some (fixIt (ds.map fun p => .p (.tup [kD p.1, p.2])))
  | _ => none
def valsIt : E → Option It0
  | .p (.dic ds) => some (fixIt (ds.map fun p => .p p.2))
  | _ => none
def fItE (g : E → Option It0) (fa : FE) : FI := fun ρ M => bnd (fa ρ M) fun e M1 => match g e with
  | some t => some (.inr t, M1)
  | none => none
theorem ti_E {fa : FE} {g : E → Option It0} {σ : L2.St} {H : Hp} {R : It → Hp → Prop} {Q : VK} (h : tI z Wx (fItE g fa) σ H R)
    (w : ∀ (W : Wd) (M : Store) (H : Hp) (v : V) (e : E) (t : It0), StoreOk z W M H → RE z W v e → g e = some t → (∀ J, ItOk z W H J t → R J H) → Q v H) : tE z Wx fa σ H Q := by
  obtain ⟨W, M, ρ, ok, env, r, hr, po⟩ := h
  refine seqE ok env hr po.exc fun e M1 W1 H1 v s1 q1 hr1 => ?_
  split at hr1
  · rename_i t ht
    cases hr1
    exact w W1 M1 H1 v e t s1.ok q1 ht fun J it => po W1 H1 J s1 it
  · cases hr1
theorem pdi_items {fa : FE} {e : Expr} {apos cpos tpos : Pos} {elts : List Expr} {kk : Nat} (he : PE X e (tE z Wx fa)) (hbase : attributeBase e "items" X.env (eval e X.env) = eval e X.env := by rfl) (hline : (apos.endLine == cpos.line) = true := by rfl) :
    PI X (.Tuple elts kk tpos) (.Call (.Attribute e "items" apos) [] [] cpos) (tI z Wx (fItE itemsIt fa)) :=
  pi_of (pi_items he hbase hline) fun σ H R h => ti_E h fun W M H v e t ok q1 ht po => by
    unfold itemsIt at ht
    split at ht
    · cases ht
      obtain ⟨a, o, kvs, rfl, h1, h2, h3⟩ := re_dic q1
      exact ⟨a, o, kvs, rfl, ok.same _ _ h1, po _ (itOk_items h1 h3)⟩
    · cases ht
theorem pdi_values {fa : FE} {e : Expr} {apos cpos : Pos} (he : PE X e (tE z Wx fa)) (hbase : attributeBase e "values" X.env (eval e X.env) = eval e X.env := by rfl) (hline : (apos.endLine == cpos.line) = true := by rfl) :
    PI X tg (.Call (.Attribute e "values" apos) [] [] cpos) (tI z Wx (fItE valsIt fa)) :=
  pi_of (pi_values he hbase hline) fun σ H R h => ti_E h fun W M H v e t ok q1 ht po => by
    unfold valsIt at ht
    split at ht
    · cases ht
      obtain ⟨a, o, kvs, rfl, h1, h2, h3⟩ := re_dic q1
      exact ⟨a, o, kvs, rfl, ok.same _ _ h1, po _ (itOk_vals h1 h3)⟩
    · cases ht

def wipeE (ρ : Env) : List Nat → Env
  | [] => ρ
  | v :: vs => (wipeE ρ vs).set v none
theorem envOk_wipe {W : Wd} {ρ : Env} {σ : L2.St} (h : EnvOk z W ρ σ) : ∀ vs : List Nat, EnvOk z W (wipeE ρ vs) (wipe σ vs)
  | [] => h
  | v :: vs => (envOk_wipe h vs).unset v
theorem wipe_at (σ : L2.St) : ∀ (vs : List Nat) (i : Nat), (wipe σ vs)[i]? = if i ∈ vs then (if i < σ.length then some none else none) else σ[i]?
  | [], i => by simp [wipe]
  | v :: vs, i => by
    unfold wipe
    by_cases h : v = i
    · subst h
      rw [List.getElem?_set]
      simp [wipe_length]
    · rw [List.getElem?_set_ne h, wipe_at σ vs i]
      have : (i ∈ v :: vs) = (i ∈ vs) := by
        apply propext
        simp only [List.mem_cons]
        exact ⟨fun x => x.resolve_left fun e => h e.symm, .inr⟩
      simp only [this]
theorem wipe_off {σ σ2 : L2.St} {us vs : List Nat} (h : Off us (wipe σ vs) σ2) (hu : ∀ i ∈ us, i ∈ vs) : wipe σ2 vs = wipe σ vs := by
  apply List.ext_getElem?
  intro i
  have hl : σ2.length = σ.length := by rw [h.1, wipe_length]
  rw [wipe_at, wipe_at, hl]
  by_cases hi : i ∈ vs
  · rw [if_pos hi, if_pos hi]
  · rw [if_neg hi, if_neg hi, h.2 i fun m => hi (hu i m), wipe_at, if_neg hi]
/-- one clause: target, tests, element -/
def compN (t : It0) (tg : GT) (tt : FT) (fe : FE) : Nat → Nat → Env → Store → Option (List E × Store)
  | 0, _, _, M => if t.fin M = true then some ([], M) else none
  | k + 1, i, ρ, M => match t.get i M with
    | none => none
    | some e => match tg e ρ M with
      | some (.inr ρ1, M1) => match tt ρ1 M1 with
        | some (.inr true, M2) => match fe ρ1 M2 with
          | some (.inr y, M3) => match compN t tg tt fe k (i + 1) ρ M3 with
            | some (ys, M4) => some (y :: ys, M4)
            | none => none
          | _ => none
        | some (.inr false, M2) => compN t tg tt fe k (i + 1) ρ M2
        | _ => none
      | _ => none
def fComp (m : Bool) (vs : List Nat) (fi : FI) (tg : GT) (tt : FT) (fe : FE) : FE := fun ρ M => bnd (fi ρ M) fun t M1 => if t.n ≤ 16777216 then match compN t tg tt fe t.n 0 (wipeE ρ vs) M1 with
    | some (es, M2) => lft (mkLst m es M2)
    | none => none
  else none
abbrev W0 : WX := fun _ _ _ _ => False
def fYes : FT := fun _ M => some (.inr true, M)
theorem pdt_nil : PTs X [] (tT z W0 fYes) := ⟨fun pins s σ H Q I ⟨W, M, ρ, ok, env, r, hr, po⟩ => pts_nil.run pins s σ H Q I (by cases hr; exact po W H (.refl ok))⟩
theorem pdt_one {c : Expr} {f : FT} (h : PT X c (tT z W0 f)) : PTs X [c] (tT z W0 f) := pts_one h
/-- the reading of a comprehension -/
theorem te_comp {m : Bool} {us vs : List Nat} {fi : FI} {gt : GT} {tt : FT} {fe : FE} {σ : L2.St} {H : Hp} {Q : VK} (hu : ∀ i ∈ us, i ∈ vs) (h : tE z Wx (fComp m vs fi gt tt fe) σ H Q) : tLc (tI z Wx fi) (tG z us gt) (tT z W0 tt) (tE z W0 fe) vs σ H Q := by
  obtain ⟨W, M, ρ, ok, env, r, hr, po⟩ := h
  rcases bnd_some hr with ⟨x, M1, e1, e2⟩ | ⟨t, M1, e1, hr1⟩
  · subst e2
    exact ⟨W, M, ρ, ok, env, _, e1, fun W' H' c d s q => po W' H' c d s q⟩
  refine ⟨W, M, ρ, ok, env, _, e1, fun W1 H1 J s1 it D hD => ?_⟩
  split at hr1
  rotate_left
  · cases hr1
  rename_i hlim
  split at hr1
  rotate_left
  · cases hr1
  rename_i es Mf hc
  obtain ⟨e, M9, hm, rfl⟩ := lft_some hr1
  have env1 := envOk_wipe (env.w s1.w) vs
  refine ⟨fun i k H' => i + k = t.n ∧ ∃ W' M' acc accE rest, Step z W1 H1 W' M' H' ∧ W'.F D = none ∧ D ∉ W'.α ∧ H' D = some (.lst acc) ∧ REs z W' acc accE ∧ accE.length ≤ i ∧ compN t gt tt fe k i (wipeE ρ vs) M' = some (rest, Mf) ∧ es = accE ++ rest,
    ⟨t.n, by omega, W1, M1, [], [], es, ?_, s1.ok.none_F hD, s1.ok.notin hD, upd_same, .nil, Nat.zero_le _, hc, rfl⟩, ?_⟩
  · exact (Step.refl s1.ok).side hD (s1.ok.none_F hD) (s1.ok.notin hD) (fun a q => by rw [hD] at q; cases q) ⟨fun ps q => by (rw [hD] at q; cases q), fun c q e => by (rw [hD] at e; cases e)⟩
  rintro i k H' ⟨hk, W', M', acc, accE, rest, s, hF, hα, hA, rA, lA, hr', he⟩
  have env' := env1.w s.w
  cases k with
  | zero =>
    unfold compN at hr'
    split at hr'
    · rename_i hf
      cases hr'
      rw [List.append_nil] at he
      subst he
      have : i = t.n := by omega
      subst this
      have hl : acc.length ≤ sizeLine := by rw [sizeLine_eq, res_len rA]; omega
      exact .inl ⟨(it _ _ _ s.lat).2 hf, adoptLst s hD hF hα hA hl rA hm fun W2 H2 v t2 q2 => po W2 H2 v (s1.trans t2) q2⟩
    · cases hr'
  | succ k =>
    unfold compN at hr'
    split at hr'
    · cases hr'
    rename_i x hx
    obtain ⟨go, yl⟩ := (it _ _ _ s.lat).1 i x (by omega) hx
    refine .inr ⟨go, fun H2 => ∃ W2 M2 acc accE rest, Step z W1 H1 W2 M2 H2 ∧ W2.F D = none ∧ D ∉ W2.α ∧ H2 D = some (.lst acc) ∧ REs z W2 acc accE ∧ accE.length ≤ i + 1 ∧ compN t gt tt fe k (i + 1) (wipeE ρ vs) M2 = some (rest, Mf) ∧ es = accE ++ rest, fun H2 h => ⟨k, Nat.lt_succ_self _, by omega, h⟩, fun y H'' yy => ?_⟩
    obtain ⟨W'', sy, rx⟩ := yl y H'' yy
    split at hr'
    rotate_left
    · cases hr'
    rename_i ρ1 M2 e2
    refine ⟨W'', M', _, x, sy.ok, env'.w sy.w, rx, _, e2, fun W3 H3 σ3 s3 q3 o3 => ⟨wipe_off o3 hu, ?_⟩⟩
    have b1 := sy.beside hF hα hA
    have b2 := s3.beside b1.1 b1.2.1 b1.2.2
    have s03 := (s.trans sy).trans s3
    split at hr'
    · rename_i M3 e3
      refine ⟨W3, M2, ρ1, s3.ok, q3, _, e3, fun W4 H4 s4 => iteT ?_⟩
      have b3 := s4.beside b2.1 b2.2.1 b2.2.2
      split at hr'
      rotate_left
      · cases hr'
      rename_i yv M4 e4
      split at hr'
      rotate_left
      · cases hr'
      rename_i ys M5 e5
      cases hr'
      refine ⟨W4, M3, ρ1, s4.ok, q3.w s4.w, _, e4, fun W5 H5 v5 s5 q5 => ?_⟩
      have b4 := s5.beside b3.1 b3.2.1 b3.2.2
      have s05 := (s03.trans s4).trans s5
      have lt : acc.length < sizeLine := by rw [sizeLine_eq, res_len rA]; omega
      refine ⟨acc, b4.2.2, lt, W5, M4, acc ++ [v5], accE ++ [yv], ys, s05.side hD b4.1 b4.2.1 (fun a q => by rw [b4.2.2] at q; cases q) ⟨fun ps q => by (rw [b4.2.2] at q; cases q), fun c q e => by (rw [b4.2.2] at e; unfold LamX.CodeO at e; cases e)⟩, b4.1, b4.2.1, upd_same, ?_, ?_, e5, ?_⟩
      · exact paired_app (s5.w.res (s4.w.res (s3.w.res (sy.w.res rA)))) (.cons q5 .nil)
      · rw [List.length_append, List.length_singleton]; omega
      · rw [he, List.append_assoc]; rfl
    · rename_i M3 e3
      refine ⟨W3, M2, ρ1, s3.ok, q3, _, e3, fun W4 H4 s4 => iteF ?_⟩
      have b3 := s4.beside b2.1 b2.2.1 b2.2.2
      exact ⟨W4, M3, acc, accE, rest, s03.trans s4, b3.1, b3.2.1, b3.2.2, s4.w.res (s3.w.res (sy.w.res rA)), by omega, hr', he⟩
    · cases hr'
end
end Pl

-- PS1
namespace Pl
section
variable {α : Type}
def ins (le : α → α → Bool) (x : α) : List α → List α
  | [] => [x]
  | y :: ys => if le x y = true then x :: y :: ys else y :: ins le x ys
def isort (le : α → α → Bool) : List α → List α
  | [] => []
  | x :: xs => ins le x (isort le xs)
theorem ins_perm (le : α → α → Bool) (x : α) : ∀ ys : List α, (ins le x ys).Perm (x :: ys)
  | [] => .refl _
  | y :: ys => by
    unfold ins
    split
    · exact .refl _
    · exact ((ins_perm le x ys).cons y).trans (.swap x y ys)
theorem isort_perm (le : α → α → Bool) : ∀ xs : List α, (isort le xs).Perm xs
  | [] => .refl _
  | x :: xs => (ins_perm le x _).trans ((isort_perm le xs).cons x)
theorem ins_sorted {le : α → α → Bool} (ht : ∀ a b c, le a b = true → le b c = true → le a c = true) (hl : ∀ a b, (le a b || le b a) = true) (x : α) : ∀ {ys : List α}, ys.Pairwise (fun a b => le a b = true) → (ins le x ys).Pairwise (fun a b => le a b = true)
  | [], _ => by simp [ins]
  | y :: ys, h => by
    unfold ins
    obtain ⟨h1, h2⟩ := List.pairwise_cons.mp h
    split
    · rename_i hc
      refine List.pairwise_cons.mpr ⟨fun z hz => ?_, h⟩
      rcases List.mem_cons.mp hz with rfl | hz
      · exact hc
      · exact ht _ _ _ hc (h1 z hz)
    · rename_i hc
      refine List.pairwise_cons.mpr ⟨fun z hz => ?_, ins_sorted ht hl x h2⟩
      rcases List.mem_cons.mp ((ins_perm le x ys).mem_iff.mp hz) with rfl | hz
      · have := hl z y
        simp only [hc, Bool.false_or] at this
        simpa [hc] using this
      · exact h1 z hz
theorem isort_sorted {le : α → α → Bool} (ht : ∀ a b c, le a b = true → le b c = true → le a c = true) (hl : ∀ a b, (le a b || le b a) = true) : ∀ xs : List α, (isort le xs).Pairwise (fun a b => le a b = true)
  | [] => .nil
  | x :: xs => ins_sorted ht hl x (isort_sorted ht hl xs)
theorem zle_of {le : α → α → Bool} {a b : α × Nat} (h : a.2 < b.2) : List.zipIdxLE le a b = le a.1 b.1 := by
  unfold List.zipIdxLE
  cases h1 : le a.1 b.1 with
  | false => simp
  | true => simp [Nat.le_of_lt h]
theorem ins_map {le : α → α → Bool} (x : α × Nat) : ∀ (ys : List (α × Nat)), (∀ y ∈ ys, x.2 < y.2) → (ins (List.zipIdxLE le) x ys).map (·.1) = ins le x.1 (ys.map (·.1))
  | [], _ => rfl
  | y :: ys, h => by
    unfold ins
    rw [zle_of (h y List.mem_cons_self)]
    show _ = if le x.1 y.1 = true then x.1 :: y.1 :: ys.map (·.1) else y.1 :: ins le x.1 (ys.map (·.1))
    split
    · rfl
    · rw [List.map_cons, ins_map x ys fun z hz => h z (List.mem_cons_of_mem _ hz)]
theorem mem_zip_ge : ∀ {xs : List α} {n : Nat} {p : α × Nat}, p ∈ xs.zipIdx n → n ≤ p.2
  | [], _, _, h => by simp at h
  | x :: xs, n, p, h => by
    rw [List.zipIdx_cons] at h
    rcases List.mem_cons.mp h with rfl | h
    · exact Nat.le_refl _
    · exact Nat.le_of_succ_le (mem_zip_ge h)
theorem isort_zip {le : α → α → Bool} : ∀ (xs : List α) (n : Nat), (isort (List.zipIdxLE le) (xs.zipIdx n)).map (·.1) = isort le xs
  | [], _ => rfl
  | x :: xs, n => by
    rw [List.zipIdx_cons]
    show (ins (List.zipIdxLE le) (x, n) (isort (List.zipIdxLE le) (xs.zipIdx (n + 1)))).map (·.1) = ins le x (isort le xs)
    rw [ins_map (x, n) _ fun y hy => mem_zip_ge ((isort_perm _ _).mem_iff.mp hy), isort_zip xs (n + 1)]
theorem zip_inj : ∀ {xs : List α} {n : Nat} {a b : α × Nat}, a ∈ xs.zipIdx n → b ∈ xs.zipIdx n → a.2 = b.2 → a = b
  | [], _, _, _, h, _, _ => by simp at h
  | x :: xs, n, a, b, ha, hb, e => by
    rw [List.zipIdx_cons] at ha hb
    rcases List.mem_cons.mp ha with rfl | ha <;> rcases List.mem_cons.mp hb with rfl | hb
    · rfl
    · have := mem_zip_ge hb
      simp at e
      omega
    · have := mem_zip_ge ha
      simp at e
      omega
    · exact zip_inj ha hb e
/-- inserting one after the other is the merge sort -/
theorem merge_isort {le : α → α → Bool} (ht : ∀ a b c, le a b = true → le b c = true → le a c = true) (hl : ∀ a b, (le a b || le b a) = true) (xs : List α) : xs.mergeSort le = isort le xs := by
  rw [← List.mergeSort_zipIdx, ← isort_zip xs 0]
  congr 1
  refine List.Perm.eq_of_pairwise (le := fun a b => List.zipIdxLE le a b = true) (fun a b ha hb h1 h2 => ?_) (List.pairwise_mergeSort (List.zipIdxLE_trans ht) (List.zipIdxLE_total hl) _) (isort_sorted (List.zipIdxLE_trans ht) (List.zipIdxLE_total hl) _) ((List.mergeSort_perm _ _).trans (isort_perm _ _).symm)
  have ha' : a ∈ xs.zipIdx := (List.mergeSort_perm _ _).mem_iff.mp ha
  have hb' : b ∈ xs.zipIdx := (isort_perm _ _).mem_iff.mp hb
  refine zip_inj ha' hb' ?_
  unfold List.zipIdxLE at h1 h2
  cases h3 : le a.1 b.1 with
  | false => rw [h3] at h1; simp at h1
  | true =>
    cases h4 : le b.1 a.1 with
    | false => rw [h4] at h2; simp at h2
    | true =>
      rw [h3, h4] at h1
      rw [h3, h4] at h2
      simp at h1 h2
      omega
end
/-- the order of data -/
def dLe {β : Type} (k : β → PySem.PyData) (a b : β) : Bool := !PySem.W.dataLt (k b) (k a)
theorem dLe_eq {β : Type} (k : β → PySem.PyData) : PySem.W.dataLe false k = dLe k := rfl
theorem dLe_trans {β : Type} (k : β → PySem.PyData) (a b c : β) (h1 : dLe k a b = true) (h2 : dLe k b c = true) : dLe k a c = true := by
  unfold dLe PySem.W.dataLt at *
  simp only [Bool.not_eq_true'] at *
  cases h : PyProof.Rows.lexLt PyProof.Rows.itemOrd (PySem.W.keyToks (k c)) (PySem.W.keyToks (k a)) with
  | false => rfl
  | true =>
    rcases (PyProof.Rows.listOrd PyProof.Rows.itemOrd).negTrans _ (PySem.W.keyToks (k b)) _ h with x | x
    · rw [show PyProof.Rows.lexLt PyProof.Rows.itemOrd (PySem.W.keyToks (k c)) (PySem.W.keyToks (k b)) = true from x] at h2; cases h2
    · rw [show PyProof.Rows.lexLt PyProof.Rows.itemOrd (PySem.W.keyToks (k b)) (PySem.W.keyToks (k a)) = true from x] at h1; cases h1
theorem dLe_total {β : Type} (k : β → PySem.PyData) (a b : β) : (dLe k a b || dLe k b a) = true := by
  unfold dLe PySem.W.dataLt
  cases h : PyProof.Rows.lexLt PyProof.Rows.itemOrd (PySem.W.keyToks (k b)) (PySem.W.keyToks (k a)) with
  | false => rfl
  | true =>
    cases h2 : PyProof.Rows.lexLt PyProof.Rows.itemOrd (PySem.W.keyToks (k a)) (PySem.W.keyToks (k b)) with
    | false => rfl
    | true =>
      have := (PyProof.Rows.listOrd PyProof.Rows.itemOrd).trans _ _ _ h h2
      rw [(PyProof.Rows.listOrd PyProof.Rows.itemOrd).irrefl] at this
      cases this
theorem sort_data_eq {β : Type} (k : β → PySem.PyData) (xs : List β) : xs.mergeSort (PySem.W.dataLe false k) = isort (dLe k) xs := merge_isort (dLe_trans k) (dLe_total k) xs
end Pl

-- PL11
namespace Pl
open PySem PySem.Spec L2

section
variable {X : Cx} {z : Bz} {Wx : WX} {tg iter elt : Expr}
/-- within a comprehension -/
abbrev InB (X : Cx) (scope : Scope) (J : Cx → Prop) : Prop := ∀ (s : Shared) (H : Hp) (C : Addr) (cl : List (Str × Addr)) (fp : List Addr), J (X.blk s H scope (compEnvC scope cl C X.env) fp)
theorem pe_weak {m : Bool} {us vs : List Nat} {fi : FI} {gt : GT} {tt : FT} {fe : FE} {e : Expr} (h : PE X e (tLc (tI z Wx fi) (tG z us gt) (tT z W0 tt) (tE z W0 fe) vs)) (hu : ∀ i ∈ us, i ∈ vs) : PE X e (tE z Wx (fComp m vs fi gt tt fe)) :=
  pe_of h fun _ _ _ => te_comp hu
theorem pd_comp {m : Bool} {us : List Nat} {fi : FI} {gt : GT} {tt : FT} {fe : FE} {ifs : List Expr} {scope : Scope} {own : List (Str × Nat)} {pos : Pos} (hc : X.calm = true) (hN : X.N.Nodup) (hi : PI X tg iter (tI z Wx fi)) (ok : BlkOk X.N X.env.scope scope own)
    (hg : InB X scope fun Y => PG Y tg (tG z us gt)) (ht : InB X scope fun Y => PTs Y ifs (tT z W0 tt)) (he : InB X scope fun Y => PE Y elt (tE z W0 fe)) (hu : ∀ i ∈ us, i ∈ own.map (·.2)) (hs : ∀ x, foldedSetIterable iter X.env x = pure x := by intro _; rfl) :
    PE X (.ListComp elt [⟨tg, iter, ifs, 0⟩] scope pos) (tE z Wx (fComp m (own.map (·.2)) fi gt tt fe)) := pe_weak (pe_lc hc hN hi ok hg ht he hs) hu
/-- name = [..] -/
theorem pd_setComp {m : Bool} {i : Nat} {y : Str} {py : Pos} {us : List Nat} {fi : FI} {gt : GT} {tt : FT} {fe : FE} {ifs : List Expr} {scope : Scope} {own : List (Str × Nat)} {pos spos : Pos} (hc : X.calm = true) (hN : X.N.Nodup) (hy : X.N[i]? = some y) (hyl : X.env.scope.names.lookup y = some .local)
    (hsw : swapsWith (.ListComp elt [⟨tg, iter, ifs, 0⟩] scope pos) (some (.Name y py)) spos.line X.env = pure true) (hi : PI X tg iter (tI z Wx fi)) (ok : BlkOk X.N X.env.scope scope own)
    (hg : InB X scope fun Y => PG Y tg (tG z us gt)) (ht : InB X scope fun Y => PTs Y ifs (tT z W0 tt)) (he : InB X scope fun Y => PE Y elt (tE z W0 fe)) (hu : ∀ i ∈ us, i ∈ own.map (·.2)) (hs : ∀ x, foldedSetIterable iter X.env x = pure x := by intro _; rfl) :
    PS X (.Assign [.Name y py] (.ListComp elt [⟨tg, iter, ifs, 0⟩] scope pos) spos) (tS z Wx (gSet i (fComp m (own.map (·.2)) fi gt tt fe))) :=
  ps_of (ps_setLc hc hN hy hyl hsw hi ok hg ht he hs) fun D σ H h => te_comp hu (ta_set h)

def gAbs : GL := fun xs M => match xs with
  | [a] => match asInt a with
    | some i => some (.p (.int (if i < 0 then -i else i)), M)
    | none => none
  | _ => none
def gI2L (f : Int → Int → Int) : GL := fun xs M => match xs with
  | [a, b] => match asInt a, asInt b with
    | some i, some j => some (.p (.int (f i j)), M)
    | _, _ => none
  | _ => none
def gMin2 : GL := gI2L fun i j => if j < i then j else i
def gMax2 : GL := gI2L fun i j => if j > i then j else i
theorem cr_abs : CallR X (.builtin "abs") (rLD z gAbs) := callR_of call_abs fun xs H Q ⟨W, M, es, ok, r, e, M', hg, hq⟩ => by
  unfold gAbs at hg
  split at hg
  · rename_i a
    split at hg
    · rename_i i hi
      cases hg
      cases r with | cons r1 r2 => cases r2; exact ⟨i, by rw [asInt_ok r1 hi], hq W H _ (.refl ok) (.p (.int _))⟩
    · cases hg
  · cases hg
theorem i2_split {f : Int → Int → Int} {W : Wd} {M M' : Store} {vs : List V} {es : List E} {e : E} (r : REs z W vs es) (h : gI2L f es M = some (e, M')) : ∃ i j, vs = [.int i, .int j] ∧ e = .p (.int (f i j)) ∧ M' = M := by
  unfold gI2L at h
  split at h
  · rename_i a b
    split at h
    · rename_i i j hi hj
      cases h
      cases r with | cons r1 r2 => cases r2 with | cons r2 r3 => cases r3; exact ⟨i, j, by rw [asInt_ok r1 hi, asInt_ok r2 hj], rfl, rfl⟩
    · cases h
  · cases h
theorem cr_min2 (hc : X.calm = true) : CallR X (.builtin "min") (rLD z gMin2) := callR_of (call_min2 hc) fun xs H Q ⟨W, M, es, ok, r, e, M', hg, hq⟩ => by
  obtain ⟨i, j, rfl, rfl, rfl⟩ := i2_split r hg
  exact ⟨i, j, rfl, hq W H _ (.refl ok) (.p (.int _))⟩
theorem cr_max2 (hc : X.calm = true) : CallR X (.builtin "max") (rLD z gMax2) := callR_of (call_max2 hc) fun xs H Q ⟨W, M, es, ok, r, e, M', hg, hq⟩ => by
  obtain ⟨i, j, rfl, rfl, rfl⟩ := i2_split r hg
  exact ⟨i, j, rfl, hq W H _ (.refl ok) (.p (.int _))⟩
/-- what has a length (but dicts and sets) -/
def lenE (M : Store) : E → Option Nat
  | .p (.str s) => if s.length ≤ 16777216 then some s.length else none
  | .p (.lst ds) => some ds.length
  | .p (.scr ds) => some ds.length
  | .p (.tup ds) => some ds.length
  | .r k => match M[k]? with
    | some (some (.lst es)) => some es.length
    | _ => none
  | _ => none
def gLen : GL := fun xs M => match xs with
  | [a] => match lenE M a with
    | some n => some (.p (.int n), M)
    | none => none
  | _ => none
theorem rvs_len2 {F : Hp} {vs : List V} {ds : List PD} (h : RVs z F vs ds) : vs.length = ds.length := rvs_len h
theorem cr_len (F : Fits X z) : CallR X (.builtin "len") (rLD z gLen) := callR_of call_len fun xs H Q ⟨W, M, es, ok, r, e, M', hg, hq⟩ => by
  unfold gLen at hg
  split at hg
  · rename_i a
    split at hg
    · rename_i n hn
      cases hg
      cases r with
      | cons r1 r2 =>
        cases r2
        refine ⟨_, n, rfl, ?_, hq W H _ (.refl ok) (.p (.int _))⟩
        unfold lenE at hn
        split at hn
        · rename_i s
          split at hn
          · rename_i hl
            cases hn
            cases r1 with | p r1 => cases r1; exact ⟨by rw [sizeLine_eq]; exact hl, rfl⟩
          · cases hn
        · cases hn
          cases r1 with | p r1 => cases r1 with | lst e1 l1 r1 => exact .inl ⟨_, .inl (.of (ok.same _ _ e1)), (rvs_len r1).symm⟩
        · cases hn
          cases r1 with | p r1 => cases r1 with | scr e1 l1 r1 => exact .inl ⟨_, F.K ▸ (Ext.of ok.same).sqL e1, (rvs_len r1).symm⟩
        · cases hn
          cases r1 with | p r1 => cases r1 with | tup e1 l1 r1 => exact .inr ⟨_, F.K ▸ (Ext.of ok.same).sqT e1, (rvs_len r1).symm⟩
        · rename_i k
          split at hn
          · rename_i es hM
            cases hn
            cases r1 with | r ha =>
            obtain ⟨b, e1, e2, vs, e3, e4, e5⟩ := ok.cell k _ hM
            rw [ha] at e1; cases e1
            exact .inl ⟨_, .inl (.of e3), (res_len e5).symm⟩
          · cases hn
        · cases hn
    · cases hg
  · cases hg

/-- the items of a list, a tuple, the script -/
def seqE0 (M : Store) : E → Option (List E)
  | .p (.scr ds) => some (ds.map .p)
  | .p (.tup ds) => some (ds.map .p)
  | e => asLst M e
theorem seqE0_ok {W : Wd} {M : Store} {H : Hp} {v : V} {e : E} {es : List E} (ok : StoreOk z W M H) (r : RE z W v e) (h : seqE0 M e = some es) : ∃ a vs, v = .ref a ∧ (SqL z.K H a vs ∨ SqT z.K H a vs) ∧ vs.length ≤ sizeLine ∧ REs z W vs es := by
  unfold seqE0 at h
  split at h
  · cases h
    cases r with | p r => cases r with | scr e1 l1 r1 => exact ⟨_, _, rfl, .inl ((Ext.of ok.same).sqL e1), l1, rvs_res r1⟩
  · cases h
    cases r with | p r => cases r with | tup e1 l1 r1 => exact ⟨_, _, rfl, .inr ((Ext.of ok.same).sqT e1), l1, rvs_res r1⟩
  · obtain ⟨a, vs, e1, e2, e3, e4⟩ := asLst_ok ok r h
    exact ⟨a, vs, e1, .inl (.inl (.of e2)), e3, e4⟩
def gListOf (m : Bool) : GL := fun xs M => match xs with
  | [a] => match seqE0 M a with
    | some es => mkLst m es M
    | none => none
  | _ => none
theorem cr_listOf (F : Fits X z) {m : Bool} : CallR X (.type "list") (rLD z (gListOf m)) := callR_of call_list_of fun xs H Q ⟨W, M, es, ok, r, e, M', hg, hq⟩ => by
  unfold gListOf at hg
  split at hg
  · rename_i a
    split at hg
    · rename_i es2 h2
      cases r with
      | cons r1 r2 =>
        cases r2
        obtain ⟨p, vs, rfl, h3, h4, h5⟩ := seqE0_ok ok r1 h2
        exact ⟨p, vs, rfl, F.K ▸ h3, fun l hl => mkLst_ok ok hg h5 h4 hl hq⟩
    · cases hg
  · cases hg
def gTupOf : GL := fun xs M => match xs with
  | [.p (.tup ds)] => some (.p (.tup ds), M)
  | [a] => match asLst M a with
    | some es => mkTup es M
    | none => match a with
      | .p (.scr ds) => some (.p (.tup ds), M)
      | _ => none
  | _ => none
theorem cr_tupOf (F : Fits X z) : CallR X (.type "tuple") (rLD z gTupOf) := callR_of call_tuple_of fun xs H Q ⟨W, M, es, ok, r, e, M', hg, hq⟩ => by
  unfold gTupOf at hg
  split at hg
  · rename_i ds
    cases hg
    cases r with
    | cons r1 r2 =>
      cases r2
      cases r1 with | p r1 =>
      have r1' := r1
      cases r1 with | tup e1 l1 r2 => exact ⟨_, _, rfl, .inr ⟨F.K ▸ (Ext.of ok.same).sqT e1, hq W H _ (.refl ok) (.p r1')⟩⟩
  · rename_i a _
    split at hg
    · rename_i es2 h2
      cases r with
      | cons r1 r2 =>
        cases r2
        obtain ⟨p, vs, rfl, h3, h4, h5⟩ := asLst_ok ok r1 h2
        exact ⟨p, vs, rfl, .inl ⟨.inl (.of h3), fun l hl => mkTup_ok ok hg h5 h4 hl hq⟩⟩
    · split at hg
      · rename_i ds
        cases hg
        cases r with
        | cons r1 r2 =>
          cases r2
          cases r1 with | p r1 => cases r1 with | scr e1 l1 r1 =>
          rename_i ys _
          refine ⟨_, ys, rfl, .inl ⟨F.K ▸ (Ext.of ok.same).sqL e1, fun l hl => ?_⟩⟩
          have s := newF ok hl (.tup ys)
          exact hq _ _ _ s (.p (.tup (SqT.of upd_same) l1 (r1.ext s.w.ext)))
      · cases hg
  · cases hg
end
end Pl

-- PL12
namespace Pl
open PySem PySem.Spec L2

theorem ins_mapK {α β : Type} {la : α → α → Bool} {lb : β → β → Bool} (f : α → β) (h : ∀ a b, lb (f a) (f b) = la a b) (x : α) : ∀ ys : List α, (ins la x ys).map f = ins lb (f x) (ys.map f)
  | [] => rfl
  | y :: ys => by
    unfold ins
    rw [List.map_cons]
    show _ = if lb (f x) (f y) = true then f x :: f y :: ys.map f else f y :: ins lb (f x) (ys.map f)
    rw [h]
    split
    · rfl
    · rw [List.map_cons, ins_mapK f h x ys]
theorem isort_mapK {α β : Type} {la : α → α → Bool} {lb : β → β → Bool} (f : α → β) (h : ∀ a b, lb (f a) (f b) = la a b) : ∀ xs : List α, (isort la xs).map f = isort lb (xs.map f)
  | [] => rfl
  | x :: xs => by
    show (ins la x (isort la xs)).map f = ins lb (f x) (isort lb (xs.map f))
    rw [ins_mapK f h, isort_mapK f h xs]
def pyKeys (M : Store) : List E → Option (List (E × PyData))
  | [] => some []
  | e :: es => match toPyE M e, pyKeys M es with
    | some k, some ks => some ((e, k) :: ks)
    | _, _ => none
def isTup1 : PyData → Bool
  | .tuple (_ :: _) => true
  | _ => false
def notTup : PyData → Bool
  | .none => false
  | .tuple _ => false
  | _ => true
def sortable (ks : List PyData) : Bool := ks.all isTup1 || ks.all notTup
def alikeAll : List PyData → Bool
  | [] => true
  | k :: ks => ks.all (fun j => PySem.W.alike k j && PySem.W.alike j k) && PySem.W.alike k k && alikeAll ks
theorem alikeAll_ok : ∀ {ks : List PyData}, alikeAll ks = true → PySem.W.AllAlike ks
  | [], _ => fun d hd => absurd hd (by simp)
  | k :: ks, h => by
    unfold alikeAll at h
    simp only [Bool.and_eq_true, List.all_eq_true] at h
    obtain ⟨⟨h1, h2⟩, h3⟩ := h
    intro d hd d' hd'
    rcases List.mem_cons.mp hd with e1 | m1 <;> rcases List.mem_cons.mp hd' with e2 | m2
    · rw [e1, e2]; exact h2
    · rw [e1]; exact (h1 _ m2).1
    · rw [e2]; exact (h1 _ m1).2
    · exact alikeAll_ok h3 d m1 d' m2
theorem sortable_ok {ks : List PyData} (h : sortable ks = true) : PySem.W.Sortable ks := by
  unfold sortable at h
  rcases Bool.or_eq_true _ _ |>.mp h with h | h
  · refine .inl fun d hd => ?_
    have := List.all_eq_true.mp h d hd
    unfold isTup1 at this
    split at this
    · exact ⟨_, _, rfl⟩
    · cases this
  · refine .inr fun d hd => ?_
    have := List.all_eq_true.mp h d hd
    unfold notTup at this
    split at this
    · cases this
    · cases this
    · rename_i h1 h2
      exact ⟨h1, fun xs e => h2 xs e⟩
def sortE (ks : List (E × PyData)) : List (E × PyData) := isort (dLe (·.2)) ks
def sortOk (ks : List PyData) : Bool := alikeAll ks && sortable ks && ks.all fun k => decide (k.depth ≤ 60)
def gSorted0 (m : Bool) (es : List E) (M : Store) : Option (E × Store) := match pyKeys M es with
  | some ks => if sortOk (ks.map (·.2)) = true then mkLst m ((sortE ks).map (·.1)) M else none
  | none => none
def gSorted (m : Bool) : GL := fun xs M => match xs with
  | [a] => match asLst M a with
    | some es => gSorted0 m es M
    | none => none
  | _ => none
/-- value, reading, key -/
abbrev Tri := V × E × PyData
theorem tri_of {z : Bz} {W : Wd} {M : Store} : ∀ {vs : List V} {es : List E} {ks : List (E × PyData)}, REs z W vs es → pyKeys M es = some ks → ∃ bs : List Tri, bs.map (·.1) = vs ∧ bs.map (·.2) = ks ∧ ∀ b ∈ bs, RE z W b.1 b.2.1 ∧ toPyE M b.2.1 = some b.2.2
  | _, _, _, .nil, h => by cases h; exact ⟨[], rfl, rfl, by simp⟩
  | _, _, _, .cons (a := v) (b := e) r rs, h => by
    unfold pyKeys at h
    split at h
    · rename_i k ks h1 h2
      cases h
      obtain ⟨bs, e1, e2, e3⟩ := tri_of rs h2
      refine ⟨(v, e, k) :: bs, by simp [e1], by simp [e2], fun b hb => ?_⟩
      rcases List.mem_cons.mp hb with rfl | hb
      · exact ⟨r, h1⟩
      · exact e3 b hb
    · cases h
theorem res_mem {z : Bz} {W : Wd} : ∀ {bs : List Tri}, (∀ b ∈ bs, RE z W b.1 b.2.1) → REs z W (bs.map (·.1)) (bs.map (·.2.1))
  | [], _ => .nil
  | b :: bs, h => .cons (h b List.mem_cons_self) (res_mem fun c hc => h c (List.mem_cons_of_mem _ hc))
theorem each_of {H : Hp} {R : Value → Tri → Prop} : ∀ {bs : List Tri} {its : List Value}, Vals (bs.map (·.1)) its → (∀ b ∈ bs, ∀ u, RelV b.1 u → R u b) → PySem.W.EachIs R its bs
  | [], _, h, _ => by
    have h : Vals [] _ := h
    cases h; exact .nil
  | b :: bs, its, h, k => by
    have h : Vals (b.1 :: bs.map (·.1)) its := h
    cases h with
    | cons r rs => exact .cons (k b List.mem_cons_self _ r) (each_of (H := H) rs fun c hc => k c (List.mem_cons_of_mem _ hc))
theorem vals_each : ∀ {out : List Value} {bs : List Tri}, PySem.W.EachIs (fun u (b : Tri) => RelV b.1 u) out bs → Vals (bs.map (·.1)) out
  | _, _, .nil => .nil
  | _, _, .cons r rs => .cons r (vals_each rs)
section
variable {X : Cx} {z : Bz} {Wx : WX}
theorem cr_sorted (F : Fits X z) (hu : X.A.units + 64 < cLine) {m : Bool} : CallR X (.builtin "sorted") (rLD z (gSorted m)) := by
  intro pins s σ H xs us Q I rs ⟨W, M, es, ok, r, e, M', hg, hq⟩
  unfold gSorted at hg
  split at hg
  rotate_left
  · cases hg
  rename_i a
  split at hg
  rotate_left
  · cases hg
  rename_i es ha
  unfold gSorted0 at hg
  split at hg
  rotate_left
  · cases hg
  rename_i ks hk
  split at hg
  rotate_left
  · cases hg
  rename_i hok
  cases r with | cons r1 r2 =>
  cases r2
  obtain ⟨p, vs, rfl, h1, h2, h3⟩ := asLst_ok ok r1 ha
  obtain ⟨u, rfl, ru⟩ := vals1 rs
  obtain rfl : u = Value.ref p := ru
  obtain ⟨its, rv, pl, hz⟩ := I.list (SqL.of h1)
  obtain ⟨bs, rfl, rfl, hb⟩ := tri_of h3 hk
  unfold sortOk at hok
  simp only [Bool.and_eq_true, List.all_eq_true, decide_eq_true_eq] at hok
  obtain ⟨⟨o1, o2⟩, o3⟩ := hok
  have mm : (bs.map (·.2)).map (·.2) = bs.map fun b : Tri => b.2.2 := by rw [List.map_map]; rfl
  rw [mm] at o1 o2 o3
  have hlen : bs.length ≤ sizeLine := by rw [List.length_map] at h2; exact h2
  refine PySem.W.sorted_data (R := fun u (b : Tri) => RelV b.1 u) (enc := fun b : Tri => b.2.2) pl.isList (each_of (H := H) rv fun b _ u q => q) (each_of (H := H) rv fun b hb2 u q => Dp.reads I b.2.2 b.1 u (F.K ▸ (hb b hb2).1.dp ok (hb b hb2).2) q)
    (alikeAll_ok o1) (sortable_ok o2) hlen (fun b hb2 => ?_) fun out ol eo => ?_
  · have := o3 _ (List.mem_map.mpr ⟨b, hb2, rfl⟩)
    omega
  · rw [sort_data_eq] at eo
    have rvs := vals_each eo
    obtain ⟨c, hc⟩ := PyProof.Rows.sortedAll_at s.heap its out.toArray
    have hn : H (s.heap.objs.size + 1) = none := I.hok.fresh (Nat.le_succ _)
    have pm := isort_perm (dLe fun b : Tri => b.2.2) bs
    have hls : ((isort (dLe fun b : Tri => b.2.2) bs).map (·.1)).length ≤ sizeLine := by rw [List.length_map, pm.length_eq]; exact hlen
    refine ⟨.ref (s.heap.objs.size + 1), _, I.laid (t' := s.toks) (o := .lst ((isort (dLe fun b : Tri => b.2.2) bs).map (·.1))) (h' := PyProof.Rows.sortedAll s.heap its out.toArray) (fun _ _ => PyProof.Rows.sortedAll_old) (Nat.le_succ _) ⟨hls, out, c, rvs, hc⟩, rfl, ?_⟩
    refine mkLst_ok ok hg (es := _) ?_ hls hn hq
    have e1 : sortE (bs.map (·.2)) = (isort (dLe fun b : Tri => b.2.2) bs).map (·.2) := (isort_mapK (la := dLe fun b : Tri => b.2.2) (lb := dLe fun b : E × PyData => b.2) (fun b : Tri => b.2) (fun _ _ => rfl) bs).symm
    rw [e1, List.map_map]
    exact res_mem fun b hb2 => (hb b (pm.mem_iff.mp hb2)).1
end
end Pl

-- PL13
namespace Pl
open PySem PySem.Spec L2

/-- a type's name, or the c-th class -/
inductive Tg where
  | b (n : String) | c (i : Nat)
  deriving DecidableEq, Inhabited
def tgV (z : Bz) : Tg → Value
  | .b n => .type n
  | .c i => .ref (z.ca i)
/-- the classes: which are of instances, which are errors; who is below whom -/
structure CT where
  ins : Nat → Bool
  exc : Nat → Bool
  sub : Tg → Tg → Option Bool
structure InsC (K : PySem.W.Frag) (C : Addr) : Prop where
  cl : Cls K C
  ha : PySem.W.findIn K (.ref C) "__class__" = some (some (.builtin "object.__class__"))
  hn : PySem.W.specialIn K (.builtin "object.__class__") "__get__" = some (some (.builtin "getset_descriptor.__get__"))
  ht : PySem.W.takesIn K (.builtin "object.__class__") = some true
  hm : PySem.W.mroIn K C (.type "object") = some true
structure CTok (z : Bz) (ct : CT) : Prop where
  ins : ∀ c, ct.ins c = true → InsC z.K (z.ca c)
  exc : ∀ c, ct.exc c = true → ExcC z.K (z.ca c)
  sub : ∀ t u b, ct.sub t u = some b → PySem.W.kitOne z.K (tgV z t) (tgV z u) = some b
def tagP (ct : CT) : PD → Option Tg
  | .non => some (.b "NoneType")
  | .bl _ => some (.b "bool")
  | .int _ => some (.b "int")
  | .str _ => some (.b "str")
  | .lst _ => some (.b "list")
  | .scr _ => some (.b "list")
  | .tup _ => some (.b "tuple")
  | .dic _ => some (.b "dict")
  | .ins c _ => if ct.ins c = true then some (.c c) else none
  | .exn c [] => if ct.exc c = true then some (.c c) else none
  | _ => none
def tagE (ct : CT) (M : Store) : E → Option Tg
  | .p d => tagP ct d
  | .r k => match M[k]? with
    | some (some (.lst _)) => some (.b "list")
    | some (some (.dic _)) => some (.b "dict")
    | some (some (.dcN _)) => some (.b "dict")
    | some (some (.ins c _)) => if ct.ins c = true then some (.c c) else none
    | _ => none
  | _ => none
/-- a class as a value -/
def asTg : PD → Option Tg
  | .ty n => some (.b n)
  | .cls c => some (.c c)
  | _ => none
def asTgs : List PD → Option (List Tg)
  | [] => some []
  | d :: ds => match asTg d, asTgs ds with
    | some t, some ts => some (t :: ts)
    | _, _ => none
def isAny (ct : CT) (t : Tg) : List Tg → Option Bool
  | [] => some false
  | u :: us => match ct.sub t u with
    | some true => some true
    | some false => isAny ct t us
    | none => none
def gIsi (ct : CT) : GL := fun xs M => match xs with
  | [a, .p (.tup ds)] => match tagE ct M a, asTgs ds with
    | some t, some us => match isAny ct t us with
      | some b => some (.p (.bl b), M)
      | none => none
    | _, _ => none
  | [a, .p d] => match tagE ct M a, asTg d with
    | some t, some u => match ct.sub t u with
      | some b => some (.p (.bl b), M)
      | none => none
    | _, _ => none
  | _ => none
theorem tg_val {z : Bz} {F : Hp} {v : V} {d : PD} {t : Tg} {u : Value} (r : RV z F v d) (h : asTg d = some t) (ru : RelV v u) : u = tgV z t := by
  unfold asTg at h
  split at h
  · cases h; cases r; exact ru
  · cases h; cases r; exact ru
  · cases h
theorem tgs_val {z : Bz} {F : Hp} : ∀ {vs : List V} {ds : List PD} {ts : List Tg} {us : List Value}, RVs z F vs ds → asTgs ds = some ts → Vals vs us → us = ts.map (tgV z)
  | _, _, _, _, .nil, h, r => by cases h; cases r; rfl
  | _, _, _, _, .cons r rs, h, ru => by
    unfold asTgs at h
    split at h
    · rename_i t ts h1 h2
      cases h
      cases ru with
      | cons q qs => rw [tg_val r h1 q, tgs_val rs h2 qs]; rfl
    · cases h
theorem isAny_ok {z : Bz} {ct : CT} (T : CTok z ct) {t : Tg} : ∀ {us : List Tg} {b : Bool}, isAny ct t us = some b → PySem.W.kitAny z.K (tgV z t) (us.map (tgV z)) = some b
  | [], b, h => by cases h; rfl
  | u :: us, b, h => by
    unfold isAny at h
    split at h
    · rename_i e
      cases h
      exact kitAny_cons (T.sub _ _ _ e) (fun q => by cases q) fun _ => rfl
    · rename_i e
      exact kitAny_cons (T.sub _ _ _ e) (fun _ => isAny_ok T h) fun q => by cases q
    · cases h
section
variable {X : Cx} {z : Bz} {Wx : WX} {ct : CT}
theorem kitE (F : Fits X z) (T : CTok z ct) {pins : List (Addr × Obj)} {s : Shared} {σ : L2.St} {H : Hp} {W : Wd} {M : Store} {x : V} {u : Value} {e : E} {t : Tg} (I : Inv X pins σ H s) (ok : StoreOk z W M H) (re : RE z W x e) (rx : RelV x u) (h : tagE ct M e = some t) :
    ∃ P : Heap → Prop, PySem.W.KitX X.K u (tgV z t) P ∧ P s.heap ∧ u ≠ .builtin "__main__.__loader__#opaque" := by
  have insK : ∀ {a : Addr} {c : Nat} {dx : Addr} {fs : List (Str × V)}, H a = some (.ins (z.ca c) dx fs) → ct.ins c = true → ∃ P : Heap → Prop, PySem.W.KitX X.K (.ref a) (.ref (z.ca c)) P ∧ P s.heap ∧ Value.ref a ≠ .builtin "__main__.__loader__#opaque" := fun {a c dx fs} e hc => by
    have q := T.ins c hc
    rw [F.K] at q
    exact kit_of (x := .ref a) I rfl (.base (.ins e q.cl q.ha q.hn q.ht q.hm))
  unfold tagE at h
  split at h
  · rename_i d
    cases re with | p r =>
    unfold tagP at h
    split at h
    · cases h; cases r; exact kit_of I rx (.base .non)
    · cases h; cases r; exact kit_of I rx (.base (.bl _))
    · cases h; cases r; exact kit_of I rx (.base (.int _))
    · cases h; cases r; exact kit_of I rx (.base (.str _))
    · cases h; cases r with | lst e1 l1 r1 => exact kit_of I rx (.base (.lst (ok.same _ _ e1)))
    · cases h
      cases r with | scr e1 l1 r1 =>
      rcases (F.K ▸ (Ext.of ok.same).sqL e1 : SqL X.K H _ _) with (e | ⟨o, e⟩) | ⟨o, its, n, e, hc, _⟩
      · exact kit_of I rx (.base (.lst e))
      · exact kit_of I rx (.base (.frz e))
      · exact kit_of I rx (.kList e hc)
    · cases h
      cases r with | tup e1 l1 r1 =>
      rcases (F.K ▸ (Ext.of ok.same).sqT e1 : SqT X.K H _ _) with (e | ⟨o, e⟩) | ⟨o, its, n, e, hc, _⟩
      · exact kit_of I rx (.base (.tup e))
      · exact kit_of I rx (.fTuple e)
      · exact kit_of I rx (.kTuple e hc)
    · cases h; cases r with | dic e1 l1 r1 => exact kit_of I rx (.fDict (ok.same _ _ e1))
    · rename_i c fs
      split at h
      · rename_i hc
        cases h
        cases r with | ins e1 r1 =>
        cases (show u = Value.ref _ from rx)
        exact insK (ok.same _ _ e1) hc
      · cases h
    · rename_i c
      split at h
      · rename_i hc
        cases h
        have C := T.exc c hc
        rw [F.K] at C
        cases r with
        | exn0 e1 =>
          cases (show u = Value.ref _ from rx)
          obtain ⟨⟨oe, vs, ho, hz, hv⟩, _, _⟩ := I.hok _ _ (ok.same _ _ e1)
          refine ⟨_, PySem.W.handS_kitx_exc (ox := oe) C.hg C.hk C.hs C.hd C.ha C.hn C.ht C.hm, ?_, fun z => nomatch z⟩
          obtain ⟨oc, od, oda, osl⟩ := oe
          obtain ⟨q1, q2⟩ := hz
          dsimp only at q1 q2 hv
          subst q1 q2 hv
          exact ⟨ho, rfl, rfl, trivial⟩
        | exn e1 e2 nn r1 => exact absurd rfl nn
      · cases h
    · cases h
  · rename_i k
    split at h
    · rename_i es hM
      cases h
      cases re with | r ha =>
      obtain ⟨b, q1, q2, vs, q3, q4, q5⟩ := ok.cell k _ hM
      rw [ha] at q1; cases q1
      exact kit_of I rx (.base (.lst q3))
    · rename_i es hM
      cases h
      cases re with | r ha =>
      obtain ⟨b, q1, q2, vs, q3, q4, q5⟩ := ok.cell k _ hM
      rw [ha] at q1; cases q1
      exact kit_of I rx (.base (.dK q3))
    · rename_i es hM
      cases h
      cases re with | r ha =>
      obtain ⟨b, q1, q2, L, q3, q4, q5⟩ := ok.cell k _ hM
      rw [ha] at q1; cases q1
      cases (show u = Value.ref _ from rx)
      obtain ⟨⟨xs, _, _, _, o, es, ep, h1, h2, _⟩, _, _⟩ := I.hok _ _ q3
      exact ⟨_, PySem.W.kitx_dict, ⟨o, h1, h2.1⟩, fun z => nomatch z⟩
    · rename_i c fs hM
      split at h
      · rename_i hc
        cases h
        cases re with | r ha =>
        obtain ⟨b, q1, q2, dx, vs, q3, q4, q5⟩ := ok.cell k _ hM
        rw [ha] at q1; cases q1
        cases (show u = Value.ref _ from rx)
        exact insK q3 hc
      · cases h
    · cases h
  · cases h
theorem cr_isi (F : Fits X z) (T : CTok z ct) : CallR X (.builtin "isinstance") (rLD z (gIsi ct)) := by
  intro pins s σ H xs us Q I rs ⟨W, M, es, ok, r, e, M', hg, hq⟩
  unfold gIsi at hg
  split at hg
  · rename_i a ds
    split at hg
    rotate_left
    · cases hg
    rename_i t ts ht hts
    split at hg
    rotate_left
    · cases hg
    rename_i b hb
    cases hg
    cases r with | cons ra r =>
    cases r with | cons rt r =>
    cases r
    obtain ⟨u1, u2, rfl, r1, r2⟩ := vals2 rs
    obtain ⟨P, Z, p, hx⟩ := kitE F T I ok ra r1 ht
    cases rt with | p rt =>
    cases rt with | tup e1 l1 rr =>
    cases (show u2 = Value.ref _ from r2)
    obtain ⟨its, rv, ⟨o, ho, hc, n, hd⟩, _⟩ := I.tuple (F.K ▸ (Ext.of ok.same).sqT e1)
    have e3 := tgs_val rr hts rv
    subst e3
    obtain ⟨oc, od, dt, sl⟩ := o
    simp only at hc hd
    subst hc hd
    exact PySem.W.kia_tup Z I.kIn p ho (F.K ▸ isAny_ok T hb) hx fun tk => ⟨.bl b, H, I.tok tk, rfl, hq W H _ (.refl ok) (.p (.bl _))⟩
  · rename_i a d _
    split at hg
    rotate_left
    · cases hg
    rename_i t u ht hu
    split at hg
    rotate_left
    · cases hg
    rename_i b hb
    cases hg
    cases r with | cons ra r =>
    cases r with | cons rt r =>
    cases r
    obtain ⟨u1, u2, rfl, r1, r2⟩ := vals2 rs
    obtain ⟨P, Z, p, hx⟩ := kitE F T I ok ra r1 ht
    cases rt with | p rt =>
    rw [tg_val rt hu r2]
    exact PySem.W.kia_one Z I.kIn p (F.K ▸ T.sub _ _ _ hb) hx fun tk => ⟨.bl b, H, I.tok tk, rfl, hq W H _ (.refl ok) (.p (.bl _))⟩
  · cases hg

def rngP (a b : Int) : List PD := (List.range (b - a).toNat).map fun i => .int (a + (i : Nat))
theorem rngP_rv {F : Hp} (a b : Int) : RVs z F (rgV a b) (rngP a b) := by
  unfold rgV rngP
  induction List.range (b - a).toNat with
  | nil => exact .nil
  | cons k ks ih => exact .cons (.int _) ih
def okRg (a b : Int) : Bool := okR a && okR b && decide ((b - a).toNat ≤ 2 ^ 24)
theorem okRg_ok {a b : Int} (h : okRg a b = true) : RgOk a b := by
  unfold okRg at h
  simp only [Bool.and_eq_true, decide_eq_true_eq] at h
  obtain ⟨⟨h1, h2⟩, h3⟩ := h
  exact ⟨(okR_ok h1).1, (okR_ok h1).2, (okR_ok h2).1, (okR_ok h2).2, h3⟩
def fTupRg (f : FE) : FE := fun ρ M => bnd (f ρ M) fun x M1 => match asInt x with
  | some n => if okRg 0 n = true then some (.inr (.p (.tup (rngP 0 n))), M1) else none
  | none => none
theorem pd_tupRg {f : FE} {a : Expr} {p p2 pos pos2 : Pos} (hc : X.calm = true) (hg : Gl X "tuple") (hm : X.mg "tuple" = none) (hg2 : Gl X "range") (hm2 : X.mg "range" = none) (ha : PE X a (tE z Wx f))
    (na : starEach [a] X.env = (false, eval a X.env) :: starEach [] X.env := by rfl) (na2 : starEach [.Call (.Name "range" p2) [a] [] pos2] X.env = (false, eval (.Call (.Name "range" p2) [a] [] pos2) X.env) :: starEach [] X.env := by rfl) :
    PE X (.Call (.Name "tuple" p) [.Call (.Name "range" p2) [a] [] pos2] [] pos) (tE z Wx (fTupRg f)) :=
  pe_of (pe_tupRg hc hg hm (prg_1 hg2 hm2 ha na) na2) fun σ H Q ⟨W, M, ρ, ok, env, r, hr, po⟩ => by
    refine seqE ok env hr po.exc fun e1 M1 W1 H1 v1 s1 q1 hr1 => ?_
    split at hr1
    · rename_i n hn
      split at hr1
      · rename_i hk
        cases hr1
        refine ⟨n, asInt_ok q1 hn, okRg_ok hk, fun q hq => ?_⟩
        have s2 := newF s1.ok hq (.tup (rgV 0 n))
        refine po _ _ _ (s1.trans s2) (.p (.tup (SqT.of upd_same) ?_ (rngP_rv 0 n)))
        rw [rgV_length, sizeLine_eq]
        have := (okRg_ok hk).2.2.2.2
        simpa using this
      · cases hr1
    · cases hr1

def asInts : List PD → Option (List Int)
  | [] => some []
  | .int i :: ds => match asInts ds with
    | some is => some (i :: is)
    | none => none
  | _ :: _ => none
theorem asInts_vals {F : Hp} : ∀ {vs : List V} {ds : List PD} {is : List Int}, RVs z F vs ds → asInts ds = some is → vs = is.map V.int
  | _, _, _, .nil, h => by cases h; rfl
  | _, _, _, .cons (d := d) r rs, h => by
    unfold asInts at h
    split at h
    · rename_i he; cases he
    · rename_i he
      cases he
      split at h
      · rename_i is h2
        cases h
        cases r
        rw [asInts_vals rs h2]; rfl
      · cases h
    · cases h
def gSetT : GL := fun xs M => match xs with
  | [.p (.tup ds)] => match asInts ds with
    | some ks => if ks.length < 1000 then some (.p (.iset ks), M) else none
    | none => none
  | _ => none
theorem cr_setT (F : Fits X z) (hc : X.calm = true) : CallR X (.type "set") (rLD z gSetT) := by
  intro pins s σ H xs us Q I rs ⟨W, M, es, ok, r, e, M', hg, hq⟩
  unfold gSetT at hg
  split at hg
  rotate_left
  · cases hg
  rename_i ds
  split at hg
  rotate_left
  · cases hg
  rename_i ks hk
  split at hg
  rotate_left
  · cases hg
  rename_i hl
  cases hg
  cases r with | cons ra r =>
  cases r
  obtain ⟨u, rfl, ru⟩ := vals1 rs
  cases ra with | p ra =>
  cases ra with | tup e1 l1 rr =>
  cases (show u = Value.ref _ from ru)
  obtain ⟨its, rv, pt, _⟩ := I.tuple (F.K ▸ (Ext.of ok.same).sqT e1)
  have ev := asInts_vals rr hk
  subst ev
  refine L2.call_set_tupI ks (I.ok.hd hc) pt ?_ (by unfold scanBound; omega) fun h' tk c R1 hcn k => ?_
  · have : its.toArray.toList = its := rfl
    rw [this]
    exact ints_of_vals rv
  · have hn : H s.heap.objs.size = none := I.hok.fresh (Nat.le_refl _)
    refine ⟨.ref s.heap.objs.size, _, I.laid (t' := tk) (o := SetO X.w s.heap.objs.size (fun j => decide (j ∈ ks)) c) k (Nat.le_refl _) (setO_new R1), rfl, ?_⟩
    refine hq _ _ _ (newF ok hn _ (fun ps q => by unfold SetO at q; cases q)) (.p (.iset (S := fun j => decide (j ∈ ks)) (n := c) ?_ (fun k => by simp) hcn))
    rw [F.w]
    exact upd_same
/-- strictly rising -/
def uins (i : Int) : List Int → List Int
  | [] => [i]
  | j :: js => if i < j then i :: j :: js else if i = j then j :: js else j :: uins i js
def usort : List Int → List Int
  | [] => []
  | i :: is => uins i (usort is)
theorem uins_mem (i k : Int) : ∀ {js : List Int}, k ∈ uins i js ↔ k = i ∨ k ∈ js
  | [] => by simp [uins]
  | j :: js => by
    unfold uins
    split
    · simp
    · split
      · rename_i e
        subst e
        simp
      · rw [List.mem_cons, uins_mem i k, List.mem_cons]
        constructor
        · rintro (h | h | h)
          · exact .inr (.inl h)
          · exact .inl h
          · exact .inr (.inr h)
        · rintro (h | h | h)
          · exact .inr (.inl h)
          · exact .inl h
          · exact .inr (.inr h)
theorem usort_mem (k : Int) : ∀ {is : List Int}, k ∈ usort is ↔ k ∈ is
  | [] => by simp [usort]
  | i :: is => by
    show k ∈ uins i (usort is) ↔ _
    rw [uins_mem, usort_mem k, List.mem_cons]
theorem uins_up (i : Int) : ∀ {js : List Int}, js.Pairwise (· < ·) → (uins i js).Pairwise (· < ·)
  | [], _ => by simp [uins]
  | j :: js, h => by
    unfold uins
    obtain ⟨h1, h2⟩ := List.pairwise_cons.mp h
    split
    · rename_i hl
      refine List.pairwise_cons.mpr ⟨fun k hk => ?_, h⟩
      rcases List.mem_cons.mp hk with e | hk
      · omega
      · have := h1 k hk; omega
    · split
      · exact h
      · refine List.pairwise_cons.mpr ⟨fun k hk => ?_, uins_up i h2⟩
        rcases (uins_mem i k).mp hk with e | hk
        · omega
        · exact h1 k hk
theorem usort_up : ∀ is : List Int, (usort is).Pairwise (· < ·)
  | [] => .nil
  | i :: is => uins_up i (usort_up is)
theorem up_eq : ∀ {a b : List Int}, a.Pairwise (· < ·) → b.Pairwise (· < ·) → (∀ k, k ∈ a ↔ k ∈ b) → a = b
  | [], [], _, _, _ => rfl
  | [], b :: bs, _, _, h => absurd ((h b).mpr List.mem_cons_self) (by simp)
  | a :: as, [], _, _, h => absurd ((h a).mp List.mem_cons_self) (by simp)
  | a :: as, b :: bs, ha, hb, h => by
    obtain ⟨a1, a2⟩ := List.pairwise_cons.mp ha
    obtain ⟨b1, b2⟩ := List.pairwise_cons.mp hb
    have e : a = b := by
      rcases List.mem_cons.mp ((h a).mp List.mem_cons_self) with q | q
      · exact q
      · rcases List.mem_cons.mp ((h b).mpr List.mem_cons_self) with q2 | q2
        · exact q2.symm
        · have := b1 _ q; have := a1 _ q2; omega
    subst e
    rw [up_eq a2 b2 fun k => ?_]
    constructor
    · intro hk
      rcases List.mem_cons.mp ((h k).mp (List.mem_cons_of_mem _ hk)) with q | q
      · have := a1 k hk; omega
      · exact q
    · intro hk
      rcases List.mem_cons.mp ((h k).mpr (List.mem_cons_of_mem _ hk)) with q | q
      · have := b1 k hk; omega
      · exact q
def gSortI (m : Bool) : GL := fun xs M => match xs with
  | [.p (.iset ks)] => if ks.length < 64 then mkLst m ((usort ks).map fun k => .p (.int k)) M else none
  | _ => none
theorem res_ints {W : Wd} : ∀ ks : List Int, REs z W (ks.map V.int) (ks.map fun k => .p (.int k))
  | [] => .nil
  | k :: ks => .cons (.p (.int k)) (res_ints ks)
theorem uins_len (i : Int) : ∀ js : List Int, (uins i js).length ≤ js.length + 1
  | [] => by simp [uins]
  | j :: js => by
    unfold uins
    split
    · simp
    · split
      · simp
      · have := uins_len i js
        simp; omega
theorem usort_len : ∀ is : List Int, (usort is).length ≤ is.length
  | [] => by simp [usort]
  | i :: is => by
    have h1 := uins_len i (usort is)
    have h2 := usort_len is
    show (uins i (usort is)).length ≤ _
    simp; omega
theorem cr_sortI (F : Fits X z) (hc : X.calm = true) {m : Bool} : CallR X (.builtin "sorted") (rLD z (gSortI m)) := callR_of (cr_sortedSet hc) fun xs H Q ⟨W, M, es, ok, r, e, M', hg, hq⟩ => by
  unfold gSortI at hg
  split at hg
  rotate_left
  · cases hg
  rename_i ks
  split at hg
  rotate_left
  · cases hg
  rename_i hl
  cases r with | cons ra r =>
  cases r
  cases ra with | p ra =>
  cases ra with | @iset a S n _ e1 hS hn =>
  refine ⟨a, S, n, rfl, F.w ▸ ok.same _ _ e1, by omega, fun ns p up mem len hp => ?_⟩
  have e2 : ns = usort ks := up_eq up (usort_up ks) fun k => by rw [mem, hS, usort_mem]
  subst e2
  refine mkLst_ok ok hg (res_ints _) ?_ hp hq
  rw [List.length_map, sizeLine_eq]
  have := usort_len ks
  omega
end
end Pl

-- PL14
namespace Pl
open PySem PySem.Spec L2

def asKey : E → Option Key
  | .p (.int i) => some (.inl i)
  | .p (.str s) => some (.inr s)
  | _ => none
theorem asKey_ok {z : Bz} {W : Wd} {v : V} {e : E} {k : Key} (r : RE z W v e) (h : asKey e = some k) : v = kV k := by
  unfold asKey at h
  split at h
  · cases h; cases r with | p r => cases r; rfl
  · cases h; cases r with | p r => cases r; rfl
  · cases h
def getD {α : Type} : List (Key × α) → Key → Option α
  | [], _ => none
  | (k, v) :: r, j => if k = j then some v else getD r j
def setD {α : Type} : List (Key × α) → Key → α → List (Key × α)
  | [], j, x => [(j, x)]
  | (k, v) :: r, j, x => if k = j then (k, x) :: r else (k, v) :: setD r j x
theorem setD_len {α : Type} (j : Key) (x : α) : ∀ r : List (Key × α), (setD r j x).length ≤ r.length + 1
  | [] => by simp [setD]
  | (k, v) :: r => by
    unfold setD
    split
    · simp
    · have := setD_len j x r
      simp; omega
/-- the keys of a dict, each once -/
def keysOk {α : Type} : List (Key × α) → Bool
  | [] => true
  | (k, _) :: r => !(r.any fun p => decide (p.1 = k)) && keysOk r
theorem find_rel {R : V → E → Prop} {j : Key} : ∀ {vs : List (Key × V)} {es : List (Key × E)}, Paired (fun p q => p.1 = q.1 ∧ R p.2 q.2) vs es → (getD es j = none → valV vs j = none) ∧ ∀ e, getD es j = some e → ∃ v, valV vs j = some v ∧ R v e
  | _, _, .nil => ⟨fun _ => rfl, fun e h => by cases h⟩
  | (k, v) :: vs, (k2, e) :: es, .cons h t => by
    obtain ⟨h1, h2⟩ := h
    have h1 : k = k2 := h1
    subst h1
    obtain ⟨i1, i2⟩ := find_rel (j := j) t
    refine ⟨fun q => ?_, fun e' q => ?_⟩
    · unfold getD at q
      split at q
      · cases q
      · rename_i n; rw [valV_neg n]; exact i1 q
    · unfold getD at q
      split at q
      · rename_i n; cases q; exact ⟨v, valV_pos n, h2⟩
      · rename_i n
        obtain ⟨v', q1, q2⟩ := i2 e' q
        exact ⟨v', by rw [valV_neg n]; exact q1, q2⟩
theorem getD_setD {α : Type} (j : Key) (x : α) (k : Key) : ∀ es : List (Key × α), getD (setD es j x) k = if k = j then some x else getD es k
  | [] => by
    unfold setD getD
    by_cases e : k = j
    · rw [if_pos e, if_pos e.symm]
    · rw [if_neg e, if_neg (fun q => e q.symm)]; rfl
  | (k2, v) :: r => by
    unfold setD
    split
    · rename_i e
      subst e
      unfold getD
      by_cases e : k = k2
      · rw [if_pos e, if_pos e.symm]
      · rw [if_neg e, if_neg (fun q => e q.symm), if_neg (fun q => e q.symm)]
    · rename_i n
      unfold getD
      rw [getD_setD j x k r]
      by_cases e : k2 = k
      · rw [if_pos e, if_neg (fun q => n (e.trans q)), if_pos e]
      · rw [if_neg e, if_neg e]
/-- putK on both sides, keys each once -/
theorem put_rel {R : V → E → Prop} {j : Key} {v : V} {e : E} (r : R v e) : ∀ {vs : List (Key × V)} {es : List (Key × E)}, Paired (fun p q => p.1 = q.1 ∧ R p.2 q.2) vs es → keysOk es = true → Paired (fun p q => p.1 = q.1 ∧ R p.2 q.2) (putK vs j v) (setD es j e)
  | _, _, .nil, _ => .cons ⟨rfl, r⟩ .nil
  | (k, v0) :: vs, (k2, e0) :: es, .cons h t, hk => by
    obtain ⟨h1, h2⟩ := h
    have h1 : k = k2 := h1
    subst h1
    unfold keysOk at hk
    simp only [Bool.and_eq_true, Bool.not_eq_true'] at hk
    by_cases c : k = j
    · subst c
      have e1 : putK ((k, v0) :: vs) k v = (k, v) :: vs.map (fun kv => if kv.1 = k then (kv.1, v) else kv) := by
        unfold putK
        rw [if_pos (by simp)]
        simp
      rw [e1]
      unfold setD
      rw [if_pos rfl]
      refine .cons ⟨rfl, r⟩ ?_
      have no : ∀ p ∈ vs, p.1 ≠ k := by
        have := hk.1
        intro p hp q
        obtain ⟨qe, hq1, hq2⟩ : ∃ qe ∈ es, qe.1 = p.1 := by
          clear hk this e1
          induction t with
          | nil => cases hp
          | cons a b ih =>
            rcases List.mem_cons.mp hp with rfl | hp
            · exact ⟨_, List.mem_cons_self, a.1.symm⟩
            · obtain ⟨qe, m, ee⟩ := ih hp
              exact ⟨qe, List.mem_cons_of_mem _ m, ee⟩
        rw [List.any_eq_false] at this
        have := this qe hq1
        simp [hq2, q] at this
      have e2 : vs.map (fun kv => if kv.1 = k then (kv.1, v) else kv) = vs := by
        conv => rhs; rw [← List.map_id vs]
        exact List.map_congr_left fun p hp => by rw [if_neg (no p hp)]; rfl
      rw [e2]
      exact t
    · have e1 : putK ((k, v0) :: vs) j v = (k, v0) :: putK vs j v := by
        unfold putK
        rw [List.any_cons]
        simp only [c, decide_false, Bool.false_or]
        split
        · simp [c]
        · simp
      rw [e1]
      unfold setD
      rw [if_neg c]
      exact .cons ⟨rfl, h2⟩ (put_rel r t hk.2)
section
variable {X : Cx} {z : Bz} {Wx : WX}

/-- what a dict holds: a cell, or one that never changes -/
def asDic (M : Store) : E → Option (List (Key × E))
  | .p (.dic ds) => some (ds.map fun p => (p.1, .p p.2))
  | .r k => match M[k]? with
    | some (some (.dic es)) => some es
    | _ => none
  | _ => none
theorem rvk_rek {W : Wd} : ∀ {vs : List (Key × V)} {ds : List (Key × PD)}, RVk z W.F vs ds → REk z W vs (ds.map fun p => (p.1, .p p.2))
  | _, _, .nil => .nil
  | _, _, .cons r t => .cons ⟨rfl, .p r⟩ (rvk_rek t)
theorem asDic_ok {W : Wd} {M : Store} {H : Hp} {v : V} {e : E} {es : List (Key × E)} (ok : StoreOk z W M H) (r : RE z W v e) (h : asDic M e = some es) : ∃ a vs, v = .ref a ∧ Rd H a (.dK vs) ∧ vs.length ≤ sizeLine ∧ REk z W vs es := by
  unfold asDic at h
  split at h
  · cases h
    cases r with | p r => cases r with | dic e1 l1 r1 => exact ⟨_, _, rfl, .inr ⟨_, ok.same _ _ e1⟩, l1, rvk_rek r1⟩
  · rename_i k
    split at h
    · rename_i es' hM
      cases h
      cases r with | r ha =>
      obtain ⟨b, e1, e2, vs, e3, e4, e5⟩ := ok.cell k _ hM
      rw [ha] at e1; cases e1
      exact ⟨_, _, rfl, .of e3, e4, e5⟩
    · cases h
  · cases h
def gDGet : G2 := fun d y M => match asDic M d, asKey y with
  | some es, some k => match getD es k with
    | some e => some (e, M)
    | none => none
  | _, _ => none
theorem pd_dget {fd fy : FE} {o i : Expr} {pos : Pos} (hu : X.A.units + 64 < cLine) (ho : PE X o (tE z Wx fd)) (hi : PE X i (tE z Wx fy)) (hs : NoSl i) : PE X (.Subscript o i pos) (tE z Wx (fBin gDGet fd fy)) :=
  pe_of (pe_dget (by omega) ho hi hs) fun σ H Q ⟨W, M, ρ, ok, env, r, hr, po⟩ => by
    refine seqE ok env hr po.exc fun e1 M1 W1 H1 v1 s1 q1 hr1 => ?_
    refine seqE s1.ok (env.w s1.w) hr1 (po.exc.step s1) fun e2 M2 W2 H2 v2 s2 q2 hr2 => ?_
    obtain ⟨e, M', he, rfl⟩ := lft_some hr2
    unfold gDGet at he
    split at he
    · rename_i es k h1 h2
      split at he
      · rename_i e' h3
        cases he
        obtain ⟨a, vs, rfl, q3, _, q4⟩ := asDic_ok s2.ok (s2.w.re q1) h1
        obtain ⟨v, q5, q6⟩ := (find_rel q4).2 _ h3
        exact ⟨a, v, rfl, .inl ⟨vs, k, q3, asKey_ok q2 h2, q5.symm⟩, po W2 H2 v (s1.trans s2) q6⟩
      · cases he
    · cases he
def gDIn (b : Bool) : G2 := fun y d M => match asDic M d, asKey y with
  | some es, some k => some (.p (.bl ((getD es k).isSome == b)), M)
  | _, _ => none
theorem din_split {W : Wd} {M M' : Store} {H : Hp} {v2 v1 : V} {e1 e2 e : E} {b : Bool} (ok : StoreOk z W M H) (q1 : RE z W v1 e1) (q2 : RE z W v2 e2) (h : gDIn b e1 e2 M = some (e, M')) : ∃ a o, v2 = .ref a ∧ DGet H a v1 o ∧ e = .p (.bl (o.isSome == b)) ∧ M' = M := by
  unfold gDIn at h
  split at h
  · rename_i es k h1 h2
    cases h
    obtain ⟨a, vs, rfl, q3, _, q4⟩ := asDic_ok ok q2 h1
    refine ⟨a, valV vs k, rfl, .inl ⟨vs, k, q3, asKey_ok q1 h2, rfl⟩, ?_, rfl⟩
    cases h3 : getD es k with
    | none => rw [(find_rel q4).1 h3]; rfl
    | some e' =>
      obtain ⟨v, q5, _⟩ := (find_rel q4).2 _ h3
      rw [q5]; rfl
  · cases h

def gDPut (fd fy fv : FE) : FS := fun ρ M => stx (fv ρ M) ρ fun v M1 => stx (fd ρ M1) ρ fun d M2 => stx (fy ρ M2) ρ fun y M3 => match d, asKey y with
  | .r n, some k => match M3[n]? with
    | some (some (.dic es)) => if es.length < 16777216 ∧ keysOk es = true then some (.nx ρ, M3.set n (some (.dic (setD es k v)))) else none
    | _ => none
  | _, _ => none
theorem setDic {W : Wd} {M : Store} {H : Hp} {n : Nat} {a : Addr} {es : List (Key × E)} {k : Key} {e : E} {v : V} (ok : StoreOk z W M H) (hM : M[n]? = some (some (.dic es))) (ha : W.α[n]? = some a) (hk : keysOk es = true) (hl : es.length < 16777216) (r : RE z W v e) :
    ∃ vs, H a = some (.dK vs) ∧ vs.length < sizeLine ∧ Step z W H W (M.set n (some (.dic (setD es k e)))) (upd H a (.dK (putK vs k v))) := by
  obtain ⟨b, e1, e2, vs, e3, e4, e5⟩ := ok.cell n _ hM
  rw [ha] at e1; cases e1
  have l1 : vs.length < sizeLine := by rw [sizeLine_eq, PySem.Paired.length e5]; exact hl
  refine ⟨vs, e3, l1, setC ok hM ha (fun dx q => by cases q) (fun dx q => by rw [e3] at q; cases q) ⟨_, upd_same, ?_, put_rel r e5 hk⟩⟩
  have := length_putK vs k v
  omega
theorem pd_dput {fd fy fv : FE} {o i value : Expr} {pos pos' : Pos} (hu : X.A.units + 64 < cLine) (ho : PE X o (tE z Wx fd)) (hi : PE X i (tE z Wx fy)) (hv : PE X value (tE z Wx fv)) (hs : swapsWith value (some (.Subscript o i pos')) pos.line X.env = pure false := by rfl) :
    PS X (.Assign [.Subscript o i pos'] value pos) (tS z Wx (gDPut fd fy fv)) := ps_of (ps_dput (by omega) ho hi hv hs) fun D σ H ⟨W, M, ρ, ok, env, r, hr, po⟩ =>
  stE ok env hr po fun v1 M1 W1 H1 x1 s1 q1 hr1 => stE s1.ok (env.w s1.w) hr1 (po.step s1) fun d M2 W2 H2 x2 s2 q2 hr2 => stE s2.ok ((env.w s1.w).w s2.w) hr2 ((po.step s1).step s2) fun y M3 W3 H3 x3 s3 q3 hr3 => by
    split at hr3
    · rename_i n k hk
      split at hr3
      · rename_i es hM
        split at hr3
        · rename_i hc
          cases hr3
          have q2' := s3.w.re q2
          cases q2' with | r ha =>
          obtain ⟨vs, h1, h2, st⟩ := setDic (k := k) s3.ok hM ha hc.2 hc.1 (s3.w.re (s2.w.re q1))
          exact ⟨_, _, rfl, .inl ⟨vs, k, h1, asKey_ok q3 hk, h2, rfl⟩, po _ _ σ (((s1.trans s2).trans s3).trans st) (((env.w s1.w).w s2.w).w (s3.w) |>.w st.w)⟩
        · cases hr3
      · cases hr3
    · cases hr3

abbrev FPs := Env → Store → Rs (List (Key × E))
def fpNil : FPs := fun _ M => some (.inr [], M)
def fpCons (fk fv : FE) (fr : FPs) : FPs := fun ρ M => bnd (fk ρ M) fun k M1 => bnd (fv ρ M1) fun v M2 => match asKey k with
  | some k => bnd (fr ρ M2) fun r M3 => some (.inr ((k, v) :: r), M3)
  | none => none
def mkDic : List (Key × E) → List (Key × E) := fun l => l.foldl (fun acc p => setD acc p.1 p.2) []
def distinct (l : List (Key × E)) : Bool := keysOk l && decide (l.length ≤ 15)
/-- {k: v, ..}: a cell; the keys are unlike -/
def fDict (fp : FPs) : FE := fun ρ M => bnd (fp ρ M) fun l M1 => if distinct l = true then some (.inr (.r M1.length), M1 ++ [some (.dic l)]) else none
def PostP (z : Bz) (W : Wd) (H : Hp) (r : Sum Xn (List (Key × E)) × Store) (Q : List (Key × V) → Hp → Prop) (Xq : XK) : Prop :=
  match r with
  | (.inr es, M') => ∀ W' H' vs, Step z W H W' M' H' → REk z W' vs es → Q vs H'
  | (.inl x, M') => ∀ W' H' cls d, Step z W H W' M' H' → RX z W'.F H' cls d x → Xq cls d H'
/-- the pairs of a display, judged -/
inductive PDp (X : Cx) (z : Bz) (Wx : WX) (pos : Pos) : List (Option Expr) → List Expr → FPs → List (TE × TE) → Prop
  | nil : PDp X z Wx pos [] [] fpNil []
  | cons {k v : Expr} {ks : List (Option Expr)} {vs : List Expr} {fk fv : FE} {fr : FPs} {ts : List (TE × TE)} : PE X k (tE z Wx fk) → PE X v (tE z Wx fv) → PDp X z Wx pos ks vs fr ts → PDp X z Wx pos (some k :: ks) (v :: vs) (fpCons fk fv fr) ((tE z Wx fk, tE z Wx fv) :: ts)
theorem PDp.pps {pos : Pos} {ks : List (Option Expr)} {vs : List Expr} {fp : FPs} {ts : List (TE × TE)} (h : PDp X z Wx pos ks vs fp ts) : PPs X pos ks vs ts := by
  induction h with
  | nil => exact pps_nil
  | cons h1 h2 _ ih => exact pps_cons h1 h2 ih
/-- the reading: the dict at p, still empty, stands beside -/
theorem PDp.reads {pos : Pos} {ks : List (Option Expr)} {vs : List Expr} {fp : FPs} {ts : List (TE × TE)} (h : PDp X z Wx pos ks vs fp ts) {β : Type} {p : Addr} {o : HO} (hno : ¬ OddO o) {σ : L2.St} {H : Hp} {W : Wd} {M : Store} {ρ : Env} {Q : List (V × V) → Hp → Prop} {k : List (Key × E) → Store → Rs β} {r : Sum Xn β × Store}
    (ok : StoreOk z W M H) (env : EnvOk z W ρ σ) (hp : H p = some o) (hF : W.F p = none) (hα : p ∉ W.α) (hr : bnd (fp ρ M) k = some r) (hx : ExcOk z W H r fun c d H' => Wx c d σ H')
    (hk : ∀ W' M' H' (kvs : List (Key × V)) es, Step z W H W' M' H' → H' p = some o → W'.F p = none → p ∉ W'.α → REk z W' kvs es → k es M' = some r → Q (kvs.map fun kv => (kV kv.1, kv.2)) H') : tPairs ts σ H Q := by
  induction h generalizing H W M Q k with
  | nil => exact hk W M H [] [] (.refl ok) hp hF hα .nil hr
  | @cons ke ve ks vs fk fv fr ts h1 h2 _ ih =>
    have hr : bnd (bnd (fk ρ M) fun k M1 => bnd (fv ρ M1) fun v M2 => match asKey k with
      | some k => bnd (fr ρ M2) fun r M3 => some (.inr ((k, v) :: r), M3)
      | none => none) k = some r := hr
    have assoc : ∀ {α β γ : Type} (x : Rs α) (f : α → Store → Rs β) (g : β → Store → Rs γ), bnd (bnd x f) g = bnd x fun a M => bnd (f a M) g := fun x f g => by
      match x with
      | none => rfl
      | some (.inl _, _) => rfl
      | some (.inr _, _) => rfl
    rw [assoc] at hr
    refine seqE ok env hr hx fun e1 M1 W1 H1 v1 s1 q1 hr1 => ?_
    rw [assoc] at hr1
    refine seqE s1.ok (env.w s1.w) hr1 (hx.step s1) fun e2 M2 W2 H2 v2 s2 q2 hr2 => ?_
    have b1 := s1.beside hF hα hp hno
    have b2 := s2.beside b1.1 b1.2.1 b1.2.2 hno
    split at hr2
    · rename_i kk hkk
      rw [assoc] at hr2
      refine ih s2.ok ((env.w s1.w).w s2.w) b2.2.2 b2.1 b2.2.1 hr2 ((hx.step s1).step s2) fun W' M' H' kvs es st hp' hF' hα' rr hr3 => ?_
      have := hk W' M' H' ((kk, v2) :: kvs) ((kk, e2) :: es) ((s1.trans s2).trans st) hp' hF' hα' (.cons ⟨rfl, st.w.re q2⟩ rr) hr3
      rw [List.map_cons] at this
      rw [asKey_ok q1 hkk]
      exact this
    · cases hr2
theorem merge_distinct : ∀ (l acc : List (Key × V)), (acc ++ l).map (·.1) |>.Nodup → mergeK acc l = acc ++ l
  | [], acc, _ => by simp [mergeK]
  | p :: l, acc, h => by
    show mergeK (putK acc p.1 p.2) l = _
    have e : putK acc p.1 p.2 = acc ++ [p] := by
      unfold putK
      rw [if_neg]
      intro q
      obtain ⟨x, hx, hq⟩ := List.any_eq_true.mp q
      have hq : x.1 = p.1 := by simpa using hq
      rw [List.map_append, List.map_cons] at h
      have := (List.nodup_append.mp h).2.2 x.1 (List.mem_map.mpr ⟨x, hx, rfl⟩) p.1 List.mem_cons_self
      exact this hq
    rw [e, merge_distinct l (acc ++ [p]) (by rw [List.append_assoc]; exact h), List.append_assoc]
    rfl
theorem keys_nodup : ∀ {l : List (Key × E)}, keysOk l = true → (l.map (·.1)).Nodup
  | [], _ => .nil
  | (k, v) :: r, h => by
    unfold keysOk at h
    simp only [Bool.and_eq_true, Bool.not_eq_true'] at h
    refine List.nodup_cons.mpr ⟨fun q => ?_, keys_nodup h.2⟩
    obtain ⟨x, hx, hq⟩ := List.mem_map.mp q
    have := List.any_eq_false.mp h.1 x hx
    simp [hq] at this
theorem rek_keys {W : Wd} : ∀ {vs : List (Key × V)} {es : List (Key × E)}, REk z W vs es → vs.map (·.1) = es.map (·.1)
  | _, _, .nil => rfl
  | _, _, .cons h t => by rw [List.map_cons, List.map_cons, h.1, rek_keys t]
theorem pd_dict {pos : Pos} {keys : List (Option Expr)} {values : List Expr} {fp : FPs} {ts : List (TE × TE)} (h : PDp X z Wx pos keys values fp ts) (hall : keys.all (·.isSome) = true := by rfl) (hl : keys.length = values.length := by rfl) (h0 : keys ≠ [] := by exact List.cons_ne_nil _ _) (h15 : keys.length ≤ 15 := by decide) :
    PE X (.Dict keys values pos) (tE z Wx (fDict fp)) := pe_of (pe_disp h.pps hall hl h0 h15) fun σ H Q ⟨W, M, ρ, ok, env, r, hr, po⟩ p hp => by
  have s0 := (Step.refl ok).side (o := .dK []) hp (ok.none_F hp) (ok.notin hp) (fun a q => by rw [hp] at q; cases q) ⟨fun ps q => by (rw [hp] at q; cases q), fun c q e => by (rw [hp] at e; cases e)⟩
  refine h.reads (p := p) (o := .dK []) (by rintro (⟨_, q⟩ | ⟨_, _, q⟩) <;> first | cases q | (unfold LamX.CodeO at q; cases q)) s0.ok env upd_same (ok.none_F hp) (ok.notin hp) hr (po.exc.step s0) fun W' M' H' kvs es st hp' hF' hα' rr hr1 => ?_
  split at hr1
  · rename_i hd
    cases hr1
    unfold distinct at hd
    simp only [Bool.and_eq_true, decide_eq_true_eq] at hd
    have hle : kvs.length = es.length := PySem.Paired.length rr
    refine ⟨hp', kvs, rfl, by omega, ?_⟩
    have em : mergeK [] kvs = kvs := merge_distinct kvs [] (by rw [List.nil_append, rek_keys rr]; exact keys_nodup hd.1)
    rw [em]
    have st2 := (s0.trans st).side (o := .dK kvs) hp hF' hα' (fun a q => by rw [hp'] at q; cases q) ⟨fun ps q => by (rw [hp'] at q; cases q), fun c q e => by (rw [hp'] at e; unfold LamX.CodeO at e; cases e)⟩
    have w : WExt W' ⟨W'.F, W'.α ++ [p]⟩ := ⟨.of (.refl _), [p], rfl⟩
    refine po _ _ _ (st2.adoptC (c := .dic es) hp hF' hα' (by rw [upd_same]; exact fun q => by cases q) ⟨kvs, upd_same, by rw [sizeLine_eq]; omega, w.rek rr⟩ (odd_dK upd_same)) (.r ?_)
    show (W'.α ++ [p])[M'.length]? = some p
    rw [st.ok.len, List.getElem?_append_right (Nat.le_refl _)]
    simp
  · cases hr1
/-- {} -/
def fDict0 : FE := fun _ M => some (.inr (.r M.length), M ++ [some (.dic [])])
theorem pd_dict0 {pos : Pos} : PE X (.Dict [] [] pos) (tE z Wx fDict0) := pe_of pe_dnewK fun σ H Q ⟨W, M, ρ, ok, env, r, hr, po⟩ p hp => by
  cases hr
  refine po _ _ _ (newC (c := .dic []) ok hp ⟨[], upd_same, Nat.zero_le _, .nil⟩) (.r ?_)
  show (W.α ++ [p])[M.length]? = some p
  rw [ok.len, List.getElem?_append_right (Nat.le_refl _)]
  simp

abbrev GM := E → List E → Store → Option (E × Store)
def rMD (z : Bz) (g : GM) : V → List V → Hp → VK → Prop := fun x xs H Q => ∃ W M e es, StoreOk z W M H ∧ RE z W x e ∧ REs z W xs es ∧ ∃ e' M', g e es M = some (e', M') ∧ ∀ W' H' v, Step z W H W' M' H' → RE z W' v e' → Q v H'
def isL (M : Store) (e : E) : Bool := (asLst M e).isSome
def fBM (t : Store → E → Bool) (g : GM) (fo : FE) (fa : FA) : FE := fun ρ M => bnd (fo ρ M) fun o M1 => if t M1 o = true then bnd (fa ρ M1) fun xs M2 => lft (g o xs M2) else none
theorem mtR_of {id : String} {r r' : V → List V → Hp → VK → Prop} (h : MtR X id r) (w : ∀ x xs H Q, r' x xs H Q → r x xs H Q) : MtR X id r' := fun pins s σ H x xs v us Q I rx rs q => h pins s σ H x xs v us Q I rx rs (w x xs H Q q)
theorem pd_bm {T id : String} {name : Str} {t : Store → E → Bool} {g : GM} {fo : FE} {fa : FA} {o e : Expr} {es : List Expr} {apos cpos : Pos} (pa : PlainAttrs T) (slot : Slot T name id) (hty : typeOf (.builtin id) = pure (.type "method_descriptor")) (hm : MtR X id (rMD z g))
    (ht : ∀ W M H v e, StoreOk z W M H → RE z W v e → t M e = true → tyV X.K T v H) (ho : PE X o (tE z Wx fo)) (ha : PA X (e :: es) (tA z Wx fa))
    (hbase : attributeBase o name X.env (eval o X.env) = eval o X.env := by rfl)
    (hfew : ((backTo cpos (starEach (e :: es) X.env)).all (fun x => !x.1) && (backToKw cpos (keywordEach [] X.env)).all (fun x => x.1.isSome)
      && decide ((e :: es).length + ([] : List Keyword).length + (if ([] : List Keyword).isEmpty then 0 else 1) < 30)) = true := by rfl)
    (hline : (apos.endLine == cpos.line) = true := by rfl) (hs : starEach (e :: es) X.env = (false, eval e X.env) :: starEach es X.env := by rfl) (hplain : (backTo cpos (starEach es X.env)).any (·.1) = false := by rfl) :
    PE X (.Call (.Attribute o name apos) (e :: es) [] cpos) (tE z Wx (fBM t g fo fa)) := pe_of (pe_bm pa slot hty hm ho ha hbase hfew hline hs hplain) fun σ H Q ⟨W, M, ρ, ok, env, r, hr, po⟩ => by
  refine seqE ok env hr po.exc fun e1 M1 W1 H1 v1 s1 q1 hr1 => ?_
  split at hr1
  · rename_i hc
    refine ⟨ht W1 M1 H1 v1 e1 s1.ok q1 hc, ?_⟩
    refine seqA s1.ok (env.w s1.w) hr1 (po.exc.step s1) fun e2 M2 W2 H2 v2 s2 q2 hr2 => ?_
    obtain ⟨e, M', he, rfl⟩ := lft_some hr2
    exact ⟨W2, M2, e1, e2, s2.ok, s2.w.re q1, q2, e, M', he, fun W' H' v s q => po W' H' v ((s1.trans s2).trans s) q⟩
  · cases hr1
theorem isL_ty {W : Wd} {M : Store} {H : Hp} {v : V} {e : E} (ok : StoreOk z W M H) (r : RE z W v e) (h : isL M e = true) : tyV X.K "list" v H := by
  obtain ⟨es, he⟩ := Option.isSome_iff_exists.mp h
  obtain ⟨a, vs, rfl, h1, _⟩ := asLst_ok ok r he
  exact .inl ⟨rfl, vs, .inl (.of h1)⟩
theorem setLst {W : Wd} {M : Store} {H : Hp} {n : Nat} {a : Addr} {es es' : List E} {vs' : List V} (ok : StoreOk z W M H) (hM : M[n]? = some (some (.lst es))) (ha : W.α[n]? = some a) (hl : vs'.length ≤ sizeLine) (r : REs z W vs' es') :
    ∃ vs, H a = some (.lst vs) ∧ REs z W vs es ∧ Step z W H W (M.set n (some (.lst es'))) (upd H a (.lst vs')) := by
  obtain ⟨b, e1, e2, vs, e3, e4, e5⟩ := ok.cell n _ hM
  rw [ha] at e1; cases e1
  exact ⟨vs, e3, e5, setC ok hM ha (fun dx q => by cases q) (fun dx q => by rw [e3] at q; cases q) ⟨_, upd_same, hl, r⟩⟩
theorem cellL {W : Wd} {M : Store} {H : Hp} {n : Nat} {a : Addr} {es : List E} (ok : StoreOk z W M H) (hM : M[n]? = some (some (.lst es))) (ha : W.α[n]? = some a) : ∃ vs, H a = some (.lst vs) ∧ REs z W vs es ∧ vs.length ≤ sizeLine := by
  obtain ⟨b, e1, e2, vs, e3, e4, e5⟩ := ok.cell n _ hM
  rw [ha] at e1; cases e1
  exact ⟨vs, e3, e5, e4⟩
def gApp : GM := fun o xs M => match o, xs with
  | .r n, [y] => match M[n]? with
    | some (some (.lst es)) => if es.length < 16777216 then some (.p .non, M.set n (some (.lst (es ++ [y])))) else none
    | _ => none
  | _, _ => none
theorem mt_app : MtR X "list.append" (rMD z gApp) := mtR_of mt_append fun x xs H Q ⟨W, M, e, es, ok, re, rs, e', M', hg, hq⟩ => by
  unfold gApp at hg
  split at hg
  · rename_i n y
    split at hg
    · rename_i es hM
      split at hg
      · rename_i hl
        cases hg
        cases re with | r ha =>
        cases rs with | cons r1 r2 =>
        cases r2
        obtain ⟨vs, h1, h2, h3⟩ := cellL ok hM ha
        have hl2 : vs.length < sizeLine := by rw [sizeLine_eq, res_len h2]; exact hl
        obtain ⟨vs', h4, _, st⟩ := setLst (vs' := vs ++ [_]) ok hM ha (by rw [List.length_append, List.length_singleton]; omega) (paired_app h2 (.cons r1 .nil))
        rw [h1] at h4; cases h4
        exact ⟨_, vs, _, rfl, rfl, h1, hl2, hq _ _ _ st (.p .non)⟩
      · cases hg
    · cases hg
  · cases hg
theorem pd_append {fo : FE} {fa : FA} {o e : Expr} {apos cpos : Pos} (ho : PE X o (tE z Wx fo)) (ha : PA X [e] (tA z Wx fa)) (hbase : attributeBase o "append" X.env (eval o X.env) = eval o X.env := by rfl)
    (hfew : ((backTo cpos (starEach [e] X.env)).all (fun x => !x.1) && (backToKw cpos (keywordEach [] X.env)).all (fun x => x.1.isSome)
      && decide (([e] : List Expr).length + ([] : List Keyword).length + (if ([] : List Keyword).isEmpty then 0 else 1) < 30)) = true := by rfl)
    (hline : (apos.endLine == cpos.line) = true := by rfl) (hs : starEach [e] X.env = (false, eval e X.env) :: starEach [] X.env := by rfl) (hplain : (backTo cpos (starEach [] X.env)).any (·.1) = false := by rfl) :
    PE X (.Call (.Attribute o "append" apos) [e] [] cpos) (tE z Wx (fBM isL gApp fo fa)) :=
  pd_bm PySem.F.plainAttrs_list PySem.F.slot_list_append PySem.F.type_list_append mt_app (fun _ _ _ _ _ => isL_ty) ho ha hbase hfew hline hs hplain
/-- xs.pop(0) -/
def gPop0 : GM := fun o xs M => match o, xs with
  | .r n, [.p (.int 0)] => match M[n]? with
    | some (some (.lst (e :: es))) => some (e, M.set n (some (.lst es)))
    | _ => none
  | _, _ => none
theorem mt_pop0 : MtR X "list.pop" (rMD z gPop0) := mtR_of mt_popAt fun x xs H Q ⟨W, M, e, es, ok, re, rs, e', M', hg, hq⟩ => by
  unfold gPop0 at hg
  split at hg
  · rename_i n
    split at hg
    · rename_i e0 es hM
      cases hg
      cases re with | r ha =>
      cases rs with | cons r1 r2 =>
      cases r2
      cases r1 with | p r1 =>
      cases r1
      obtain ⟨vs, h1, h2, h3⟩ := cellL ok hM ha
      cases h2 with
      | @cons v _ vs _ h2 h4 =>
        rw [List.length_cons] at h3
        obtain ⟨vs', h5, _, st⟩ := setLst (vs' := vs) ok hM ha (by omega) h4
        rw [h1] at h5; cases h5
        refine ⟨_, v :: vs, 0, 0, v, rfl, rfl, h1, by decide, by decide, ?_, rfl, hq _ _ _ st h2⟩
        unfold seqIndex?
        simp
    · cases hg
  · cases hg
theorem pd_pop0 {fo : FE} {fa : FA} {o e : Expr} {apos cpos : Pos} (ho : PE X o (tE z Wx fo)) (ha : PA X [e] (tA z Wx fa)) (hbase : attributeBase o "pop" X.env (eval o X.env) = eval o X.env := by rfl)
    (hfew : ((backTo cpos (starEach [e] X.env)).all (fun x => !x.1) && (backToKw cpos (keywordEach [] X.env)).all (fun x => x.1.isSome)
      && decide (([e] : List Expr).length + ([] : List Keyword).length + (if ([] : List Keyword).isEmpty then 0 else 1) < 30)) = true := by rfl)
    (hline : (apos.endLine == cpos.line) = true := by rfl) (hs : starEach [e] X.env = (false, eval e X.env) :: starEach [] X.env := by rfl) (hplain : (backTo cpos (starEach [] X.env)).any (·.1) = false := by rfl) :
    PE X (.Call (.Attribute o "pop" apos) [e] [] cpos) (tE z Wx (fBM isL gPop0 fo fa)) :=
  pd_bm PySem.F.plainAttrs_list PySem.F.slot_list_pop PySem.F.type_list_pop mt_pop0 (fun _ _ _ _ _ => isL_ty) ho ha hbase hfew hline hs hplain
end
end Pl

-- PL15
namespace Pl
open PySem PySem.Spec L2

section
variable {X : Cx} {pins : List (Addr × Obj)} {σ : L2.St} {H : Hp} {s : Shared} {a : Addr}
/-- what is new since the def was entered -/
structure NewAt (X : Cx) (pins : List (Addr × Obj)) (a : Addr) : Prop where
  s0 : X.s_0.heap.get? a = none
  loc : a ≠ X.env.locals
  cel : ∀ x c, X.env.cells.lookup x = some c → c ≠ a
  pin : ∀ p ∈ X.pn ++ pins, p.1 ≠ a
/-- an object that stands untracked is tracked from now on -/
theorem Inv.track {o : HO} (I : Inv X pins σ H s) (n : NewAt X pins a) (na : H a = none) (ho : ObjOk X.prog X.w (upd H a o) s.heap a o) : Inv X pins σ (upd H a o) s := by
  have up : ∀ {b : Addr} {u : HO}, H b = some u → upd H a o b = some u := fun {b u} q => by rw [upd_ne (ne_of_none q na)]; exact q
  have un : ∀ {b : Addr}, b ≠ a → H b = none → upd H a o b = none := fun {b} h q => by rw [upd_ne h]; exact q
  have hok : HOk X.prog X.w (upd H a o) s.heap := fun b u q => by
    by_cases e : b = a
    · subst e
      rw [upd_same] at q
      cases q
      exact ho
    · rw [upd_ne e] at q
      exact (I.hok b u q).stay (fun _ _ _ r => r) (fun _ r => up r) fun _ _ r => up r
  have old : ∀ b v, X.s_0.heap.get? b = some v → b ≠ a := fun b v q e => by rw [e, n.s0] at q; cases q
  have base : Un X.fs X.ex X.H_0 (upd H a o) X.s_0.heap s.heap := ⟨I.base.keep, I.base.slot, fun b v q r t => un (old b v q) (I.base.free b v q r t), I.base.there, fun b xs q => up (I.base.tups b xs q), fun b v u q => up (I.base.frzs b v u q), fun b ps q => by
    obtain ⟨more, e⟩ := I.base.tbls b ps q
    exact ⟨more, up e⟩⟩
  exact { I with base := base, free := un n.loc.symm I.free, freeC := fun x c e => un (n.cel x c e) (I.freeC x c e), pin := fun p hp => ⟨(I.pin p hp).1, un (n.pin p hp) (I.pin p hp).2.1, (I.pin p hp).2.2⟩, hok := hok }
/-- an exception's address is new -/
theorem newAt_of {B : Heap} (I : Inv X pins σ H s) (hex : X.ex = []) (hs : X.stack = X.env :: X.outer) (hf : X.env.frame = some X.env.locals) (g : ∀ b o, s.heap.get? b = some o → b ∉ frs X.stack → B.get? b = some o) (ba : B.get? a = none) (nf : a ∉ frs X.stack) : NewAt X pins a := by
  have no : ∀ o, s.heap.get? a = some o → False := fun o q => by
    have := g a o q nf
    rw [ba] at this; cases this
  have el : frs X.stack = X.env.locals :: X.fs := by rw [hs]; simp [frs, hf]
  refine ⟨?_, fun e => nf (by rw [el, e]; exact List.mem_cons_self), fun x c q e => ?_, fun p hp e => ?_⟩
  · cases q : X.s_0.heap.get? a with
    | none => rfl
    | some o =>
      obtain ⟨o', e⟩ := I.base.there a o q (by rw [hex]; simp)
      exact (no o' e).elim
  · obtain ⟨v, o, ho, _⟩ := I.cell x c q
    rw [e] at ho
    exact no o ho
  · have := (I.pin p hp).1
    rw [e] at this
    exact no _ this
end

section
variable {X : Cx} {x n y : Str} {c : Value} {i j : Nat} {body : List Stmt} {np pos pos' py pn' ps : Pos} {tb : WX → TS} {Wout : WX}
/-- what is wished of the body's exceptions -/
def wKeep (K : PySem.W.Frag) (c : Value) (i j : Nat) (Wout : WX) (D : Ends) : WX := fun cls d σ H =>
  ∃ b, PySem.W.exmOne K cls c = some b ∧ (b = true → ∀ a, H a = none → D.nx (((σ.set i (some (.ref a))).set j (some (.ref a))).set i none) (upd H a (ExK cls d a))) ∧ (b = false → Wout cls d σ H)
theorem exK_ok {P : Program} {w : World} {H : Hp} {h : Heap} {a : Addr} {cls : Value} {d : Option Addr} {oe : Obj} {vs : Array Value} (e : h.get? a = some oe) (z : Zc cls d oe) (q : oe.data = .fields vs) : ObjOk P w H h a (ExK cls d a) :=
  ⟨⟨oe, vs, e, z, q⟩, ⟨oe, e⟩, fun _ _ ⟨o, v, q, r⟩ k => ⟨o, v, k o q, r⟩⟩
theorem ps_keep (hex : X.ex = []) (hs : X.stack = X.env :: X.outer) (hf : X.env.frame = some X.env.locals) (hN : X.N.Nodup) (hi : X.N[i]? = some n) (hj : X.N[j]? = some y) (hln : X.env.kindOf n = some .local) (hly : X.env.scope.names.lookup y = some .local) (hc : Names X x c) (tk : Takes X Wout)
    (hb : ∀ (W : WX) (pn : List (Addr × Obj)) (xe : Value → Shared → Prop), Takes (X.tr pn xe) W → PassesOwn (model X.prog X.w) X.A X.env xe → PSs (X.tr pn xe) body (tb W))
    (hd1 : (n == ("__debug__" : Str)) = false := by decide) (hd2 : (n == ("__classdict__" : Str)) = false := by decide)
    (hsw : ∀ a pn, swapsWith (.Name n pn') (some (.Name y py)) ps.line (X.suite a pn).env = pure false := by intro _ _; rfl) :
    PS X (.Try body [.ExceptHandler (some (.Name x np)) (some n) [.Assign [.Name y py] (.Name n pn') ps] pos'] [] [] pos) (fun D σ H => tb (wKeep X.K c i j Wout D) D σ H) := by
  refine ⟨fun pins s σ H D I wish => ?_⟩
  have xok := I.ok
  have frames : X.A.frames = some (X.env :: X.outer) := hs ▸ xok.frames
  have nLoc : Loc X.env.scope n := .inl hln
  refine wpAny_Try_except ?_
  have run := (hb (wKeep X.K c i j Wout D) (X.pn ++ pins) (fun e t1 => wpAny (model X.prog X.w) X.A (noteFrame e X.env) (fun _ t2 => wpAny (model X.prog X.w) X.A (setFlight e none) (fun _ t3 =>
    wpAny (model X.prog X.w) X.A (handleBy e X.env [.ExceptHandler (some (.Name x np)) (some n) [.Assign [.Name y py] (.Name n pn') ps] pos']) (SP X pins D) X.xe t3) X.xe t2) X.xe t1) (fun u t0 air => ?_) PassesOwn.looking).run [] s σ H D (I.toTry _) wish
  · refine wpAny_mono run (fun f t done => ?_) fun _ _ z => z
    cases f with
    | next => obtain ⟨σ1, H1, J, q⟩ := done; exact wpAny_execs_nil ⟨σ1, H1, J.ofTry xok, q⟩
    | brk => obtain ⟨σ1, H1, J, q⟩ := done; exact ⟨σ1, H1, J.ofTry xok, q⟩
    | cont => obtain ⟨σ1, H1, J, q⟩ := done; exact ⟨σ1, H1, J.ofTry xok, q⟩
    | ret u => obtain ⟨v, σ1, H1, J, r, q⟩ := done; exact ⟨v, σ1, H1, J.ofTry xok, r, q⟩
  obtain ⟨a, G, tI, pinsI, σ1, H1, cls, d, rfl, JI, ground, upI, skyI, free, osI, bareI, b, isb, wYes, wNo⟩ := air
  have J0 : L2.Inv X pins σ1 H1 tI := JI.ofTry xok
  have sky0 : Sky G (X.env :: X.outer) a (Zc cls d) X.env.locals t0.heap := hs ▸ skyI
  show wpAny (model X.prog X.w) X.A (noteFrame (.ref a) X.env) _ _ _
  refine Sky.land Zc.steady frames hf sky0 fun hp1 held1 upA => ?_
  have J1 : L2.Inv X pins σ1 H1 { t0 with heap := hp1 } := J0.landed ground held1.1 (upI.trans upA) osI bareI
  obtain ⟨oe1, ws1, got1, kind1, fld1⟩ := held1.there
  have notFrame : a ∉ frs (X.env :: X.outer) := fun hm => by
    have ff : hp1.FunFrames G (X.env :: X.outer) := held1.2.2.1
    obtain ⟨_, o', e', bad⟩ := ff.mem hm
    rw [got1] at e'; cases e'
    exact bad _ fld1
  have nL : a ≠ X.env.locals := fun z => notFrame (List.mem_filterMap.mpr ⟨X.env, List.mem_cons_self, by rw [hf, z]⟩)
  have nF : a ∉ X.fs := fun hm => by
    obtain ⟨e, he, q⟩ := List.mem_filterMap.mp hm
    exact notFrame (List.mem_filterMap.mpr ⟨e, List.mem_cons_of_mem _ he, q⟩)
  have isNew : NewAt X pins a := newAt_of J0 hex hs hf ground held1.2.1 (by rw [hs]; exact notFrame)
  have S1 := J1.suite got1 fld1 free nL nF
  refine wpAny_handleBy_cons (codeAny_handlers_test ?_) (by intro q; cases q)
  have tyA : PySem.W.Looks (model X.prog X.w) hp1 (typeOf (.ref a)) cls := fun A Q E s k q => wpAny_typeOf_ref (k _ _ got1) (by rw [kind1.1]; exact q)
  have isA := PySem.W.exm_one (M := model X.prog X.w) (J1.kIn) tyA isb
  have clause : ∀ {Q : Value → Shared → Prop} {E : Value → Shared → Prop}, Q c { t0 with heap := hp1 } → wpAny (model X.prog X.w) (X.A.mark (some (.ref a))) (eval (.Name x np) X.env) Q E { t0 with heap := hp1 } := fun {Q E} q => by
    obtain ⟨hg, hdbg, hm | ⟨hm, hv, hnn⟩⟩ := hc
    · exact ld_glob (X := X.suite a ((a, oe1) :: (X.pn ++ pins))) S1 hg hm q hdbg
    · exact ld_blt (X := X.suite a ((a, oe1) :: (X.pn ++ pins))) S1 hg hm hv q hnn hdbg
  refine clause (isA.here ?_)
  cases b with
  | true =>
    refine codeAny_handlers_suite_as ?_
    refine HandSPX.lands_againZ held1 fun hp2 held2 upB => ?_
    have J2 : L2.Inv X pins σ1 H1 { t0 with heap := hp2 } := J0.landed ground held2.1 ((upI.trans upA).trans upB) osI bareI
    obtain ⟨oe2, ws2, got2, kind2, fld2⟩ := held2.there
    have S2 := J2.suite got2 fld2 free nL nF
    refine store_ok (X := X.suite a ((a, oe2) :: (X.pn ++ pins))) (v := .ref a) S2 hN hi nLoc rfl (fun t5 S5 => ?_) (.inr hln)
    have asg : PSs (X.suite a ((a, oe2) :: (X.pn ++ pins))) [.Assign [.Name y py] (.Name n pn') ps] (tAsg (tVar i) (gName j)) :=
      pss_one (ps_set hN hj (.inl hly) (pe_var hi (.inl hln) hd1 hd2) (hsw _ _) (.inr hly))
    have len1 : i < σ1.length := by
      have := J2.len
      rw [this]
      exact (List.getElem?_eq_some_iff.mp hi).1
    refine wpAny_mono (asg.run [] t5 _ H1 { nx := fun σ2 H2 => σ2 = (σ1.set i (some (.ref a))).set j (some (.ref a)) ∧ H2 = H1, rt := fun _ _ => False } S5 ?_) (fun f t6 done => ?_) fun _ _ z => z.elim
    · exact ⟨.ref a, List.getElem?_set_self len1, rfl, rfl⟩
    cases f with
    | brk => obtain ⟨_, _, _, q⟩ := done; exact q.elim
    | cont => obtain ⟨_, _, _, q⟩ := done; exact q.elim
    | ret u => obtain ⟨_, _, _, _, _, q⟩ := done; exact q.elim
    | next =>
      obtain ⟨σ6, H6, S6, rfl, rfl⟩ := done
      refine gone_ok (X := X.suite a ((a, oe2) :: (X.pn ++ pins))) S6 hN hi hln fun t7 S7 => ?_
      have got7 : t7.heap.get? a = some oe2 := (S7.pin (a, oe2) (List.mem_append_left _ List.mem_cons_self)).1
      have J7 : L2.Inv X pins _ H6 t7 := S7.unsuite xok
      exact ⟨_, _, Inv.track J7 isNew free (exK_ok got7 kind2 fld2), wYes rfl a free⟩
  | false =>
    show wpAny _ X.A (handleBy (.ref a) X.env []) _ _ _
    refine wpAny_handleBy_nil ?_
    obtain ⟨_, _, _, oe, vs, T, oT, ts', he, hz, hd, h1, hr⟩ := id held1
    unfold PySem.passOn
    refine wpAny_bind (wpAny_field he hd h1 ?_)
    rw [if_neg (by simp)]
    have last : wpAny (model X.prog X.w) X.A (setFlight (.ref a) X.env.frame) (fun _ t4 => wpAny (model X.prog X.w) X.A (throw (.ref a) : Sem Flow) (SP X pins D) X.xe t4) X.xe { t0 with heap := hp1 } := by
      rw [hf]
      refine HandSPX.setFlight_upZ held1 fun hp4 held4 upC => wpAny_throw (tk _ _ ?_)
      exact ⟨a, G, tI, pins, σ1, H1, cls, d, rfl, J0, ground, (upI.trans upA).trans upC, .inr (.inr (by rw [hs]; exact held4)), free, osI, bareI, wNo rfl⟩
    first
      | exact wpAny_bind (wpAny_pure (wpAny_bind last))
      | exact wpAny_bind last
end
end Pl

-- PL16
namespace Pl
open PySem PySem.Spec L2

section
variable {X : Cx} {z : Bz} {Wx : WX}
/-- what an own error class must say to be raised by X('..') -/
structure RaiseC (K : PySem.W.Frag) (C : Addr) (bmB : List Value) (B newId initId : String) : Prop where
  F : ExcBaseFacts B newId initId bmB
  q : PySem.W.excIn K C bmB newId = true
  k : PySem.W.keepIn K (.ref C) = true
  h1 : PySem.W.subIn K (.ref C) (.type "BaseException") = some true
  h2 : PySem.W.typeIn K (.ref C) = some (.type "type")
def gRaise (c : Nat) : FS := fun ρ M => some (.xn ⟨c, []⟩ ρ, M)
theorem pd_raise {c : Nat} {x m : Str} {jj : Nat} {p p2 pos pos2 : Pos} {bmB : List Value} {B newId initId : String} (F : Fits X z) (R : RaiseC X.K (z.ca c) bmB B newId initId) (hc : X.calm = true) (tk : Takes X Wx) (gC : X.mg x = some (.ref (z.ca c))) (hg : Gl X x)
    (hdb : (x == ("__debug__" : Str)) = false := by decide) : PS X (.Raise (some (.Call (.Name x p) [.Constant (.str m) jj p2] [] pos)) none pos2) (tS z Wx (gRaise c)) :=
  ps_of (ps_raise hc tk (pmk_own R.F R.q gC R.k (raises_own R.h1 R.h2) hg hdb)) fun D σ H ⟨W, M, ρ, ok, env, r, hr, po⟩ => by
    cases hr
    exact po W H σ _ _ (.refl ok) env ⟨rfl, .inl ⟨rfl, rfl⟩⟩
/-- try: g / except C as n: y = n -/
def gKeep (i j : Nat) (catch_ : Nat → Option Bool) (g : FS) : FS := fun ρ M => match g ρ M with
  | some (.xn x ρ', M') => match catch_ x.c with
    | some true => some (.nx ((ρ'.set j (some (.p (.exn x.c x.fs)))).set i none), M')
    | some false => some (.xn x ρ', M')
    | none => none
  | r => r
theorem pd_keep {x n y : Str} {c : Value} {i j : Nat} {body : List Stmt} {np pos pos' py pn' ps : Pos} {g : FS} {catch_ : Nat → Option Bool} (F : Fits X z) (hcatch : ∀ k b, catch_ k = some b → PySem.W.exmOne X.K (.ref (z.ca k)) c = some b) (hij : i ≠ j)
    (hex : X.ex = []) (hs : X.stack = X.env :: X.outer) (hf : X.env.frame = some X.env.locals) (hN : X.N.Nodup) (hi : X.N[i]? = some n) (hj : X.N[j]? = some y) (hln : X.env.kindOf n = some .local) (hly : X.env.scope.names.lookup y = some .local) (hc : Names X x c) (tk : Takes X Wx)
    (hb : ∀ (W : WX) (pn : List (Addr × Obj)) (xe : Value → Shared → Prop), Takes (X.tr pn xe) W → PassesOwn (model X.prog X.w) X.A X.env xe → PSs (X.tr pn xe) body (tS z W g))
    (hd1 : (n == ("__debug__" : Str)) = false := by decide) (hd2 : (n == ("__classdict__" : Str)) = false := by decide)
    (hsw : ∀ a pn, swapsWith (.Name n pn') (some (.Name y py)) ps.line (X.suite a pn).env = pure false := by intro _ _; rfl) :
    PS X (.Try body [.ExceptHandler (some (.Name x np)) (some n) [.Assign [.Name y py] (.Name n pn') ps] pos'] [] [] pos) (tS z Wx (gKeep i j catch_ g)) :=
  ps_of (ps_keep (tb := fun W => tS z W g) hex hs hf hN hi hj hln hly hc tk hb hd1 hd2 hsw) fun D σ H ⟨W, M, ρ, ok, env, r, hr, po⟩ => by
    show tS z _ g D σ H
    unfold gKeep at hr
    split at hr
    · rename_i x ρ' M' e1
      refine ⟨W, M, ρ, ok, env, _, e1, fun W1 H1 σ1 cls d st env1 rx => ?_⟩
      split at hr
      · rename_i hcx
        cases hr
        refine ⟨true, rx.1 ▸ hcatch _ _ hcx, fun _ a na => ?_, fun q => by cases q⟩
        have s2 := newF st.ok na (ExK cls d a) (fun ps q => by unfold ExK at q; cases q)
        have rv : RV z (upd W1.F a (ExK cls d a)) (.ref a) (.exn x.c x.fs) := by
          obtain ⟨e2, e3⟩ := rx
          subst e2
          rcases e3 with ⟨e4, e5⟩ | ⟨dd, vs, e4, e5, e6, e7⟩
          · rw [e4, e5]
            exact .exn0 upd_same
          · subst e5
            have nd : dd ≠ a := ne_of_none (st.ok.same _ _ e6) na
            exact .exn upd_same (by rw [upd_ne nd]; exact e6) e4 (e7.ext s2.w.ext)
        have e9 : (((σ1.set i (some (V.ref a))).set j (some (.ref a))).set i none) = ((σ1.set j (some (.ref a))).set i none) := by
          rw [List.set_comm (some (V.ref a)) (some (V.ref a)) hij, List.set_set]
        rw [e9]
        exact po _ _ _ (st.trans s2) (((env1.w s2.w).set (.p rv) j).unset i)
      · rename_i hcx
        cases hr
        refine ⟨false, rx.1 ▸ hcatch _ _ hcx, fun q => by (cases q), fun _ => po W1 H1 σ1 cls d st env1 rx⟩
      · cases hr
    · rename_i hn
      refine ⟨W, M, ρ, ok, env, r, hr, ?_⟩
      obtain ⟨fl, M'⟩ := r
      cases fl with
      | xn x ρ' => exact absurd hr (hn x ρ' M')
      | nx ρ1 => exact po
      | rt e => exact po
      | bk ρ1 => exact po
      | ct ρ1 => exact po
end
end Pl

-- PL17
namespace Pl
open PySem PySem.Spec L2 LamX

section
variable {z : Bz} {W : Wd} {M : Store} {H H1 : Hp}
/-- the tables grew -/
theorem stepN (ok : StoreOk z W M H) (x : ExtN H H1) (t : Tabs z.T H1) : Step z W H W M H1 := by
  have at_ : ∀ a, a ∈ W.α → ∀ o, H a = some o → H1 a = some o := fun a ha o q => x a o q fun ps e => ok.nta a ha o (.inl ⟨ps, e⟩) q
  refine ⟨.refl _, ⟨[], by simp, by simp⟩, ⟨fun a o q => x a o (ok.same a o q) fun ps e => ok.ntb a ps (e ▸ q), ok.len, ok.nd, fun a ha n => ?_, fun k c q => ?_, t, ok.ntb, fun a ha o ho q => ?_⟩, fun _ _ q => .inl q, fun a o q _ ht => x a o q ht, fun a _ _ q => x a _ q fun ps e => by cases e⟩
  · cases q : H a with
    | none => exact ok.live a ha q
    | some o => rw [at_ a ha o q] at n; cases n
  · obtain ⟨a, e1, e2, e3⟩ := ok.cell k c q
    exact ⟨a, e1, e2, e3.mono ⟨.of (.refl _), [], by simp⟩ (fun o q => at_ a (List.mem_of_getElem? e1) o q) fun dx q => x dx _ q fun ps e => by cases e⟩
  · cases q2 : H a with
    | none => exact ok.live a ha q2
    | some u =>
      have := at_ a ha u q2
      rw [q] at this
      cases this
      exact ok.nta a ha o ho q2
/-- a code object is known -/
theorem addCode {c' : Addr} {q : Str} (ok : StoreOk z W M H) (h : H c' = some (CodeO c' q)) : ∃ W', Step z W H W' M H ∧ W'.F c' = some (CodeO c' q) ∧ W'.α = W.α := by
  cases e : W.F c' with
  | some o =>
    have := ok.same _ _ e
    rw [h] at this
    cases this
    exact ⟨W, .refl ok, e, rfl⟩
  | none =>
    have nα : c' ∉ W.α := fun m => ok.nta c' m _ (.inr ⟨c', q, rfl⟩) h
    have w : WExt W ⟨upd W.F c' (CodeO c' q), W.α⟩ := ⟨.of (same_upd e), [], by simp⟩
    refine ⟨⟨upd W.F c' (CodeO c' q), W.α⟩, ⟨same_upd e, ⟨[], by simp, by simp⟩, ⟨fun b u k => ?_, ok.len, ok.nd, ok.live, fun j c k => ?_, ok.tabs, fun b ps k => ?_, ok.nta⟩, fun b u k => ?_, fun _ _ k _ _ => k, fun _ _ _ k => k⟩, upd_same, rfl⟩
    · have k : upd W.F c' (CodeO c' q) b = some u := k
      by_cases eb : b = c'
      · subst eb; rw [upd_same] at k; cases k; exact h
      · rw [upd_ne eb] at k; exact ok.same b u k
    · obtain ⟨a, e1, e2, e3⟩ := ok.cell j c k
      have na : a ≠ c' := fun ea => nα (ea ▸ List.mem_of_getElem? e1)
      exact ⟨a, e1, by show upd W.F c' _ a = none; rw [upd_ne na]; exact e2, e3.mono w (fun _ q => q) fun _ q => q⟩
    · have k : upd W.F c' (CodeO c' q) b = some (.tbl ps) := k
      by_cases eb : b = c'
      · rw [eb, upd_same] at k; exact codeO_ne ps (Option.some.inj k)
      · rw [upd_ne eb] at k; exact ok.ntb b ps k
    · have k : upd W.F c' (CodeO c' q) b = some u := k
      by_cases eb : b = c'
      · subst eb; rw [upd_same] at k; cases k; exact .inr (.inr (.inr ⟨q, rfl⟩))
      · rw [upd_ne eb] at k; exact .inl k
def capE : Sum PD Nat → E
  | .inl d => .p d
  | .inr k => .r k
/-- the maker's slots that the lambda knows -/
def capEnv (n : Nat) : List Nat → List (Sum PD Nat) → Env
  | i :: ix, c :: cs => (capEnv n ix cs).set i (some (capE c))
  | _, _ => List.replicate n none
theorem EnvOk.at_ {ρ : Env} {σ : L2.St} (h : EnvOk z W ρ σ) {i : Nat} {v : V} {e : E} (hv : σ[i]? = some (some v)) (r : RE z W v e) : EnvOk z W (ρ.set i (some e)) σ := by
  refine ⟨by simp [h.1], fun j e' q => ?_⟩
  by_cases hj : i = j
  · subst hj
    by_cases hl : i < ρ.length
    · rw [List.getElem?_set_self hl] at q
      cases q
      exact ⟨v, hv, r⟩
    · rw [List.getElem?_eq_none (by simpa using hl)] at q; cases q
  · rw [List.getElem?_set_ne hj] at q
    exact h.2 j e' q
theorem capEnv_ok {σ : L2.St} {n : Nat} (hn : σ.length = n) {ix : List Nat} {cs : List (Sum PD Nat)} (h : Caps z W σ ix cs) : EnvOk z W (capEnv n ix cs) σ := by
  induction h with
  | nil =>
    refine ⟨by simp [capEnv, hn], fun j e q => ?_⟩
    have := List.mem_of_getElem? q
    unfold capEnv at this
    rw [List.mem_replicate] at this
    cases this.2
  | p h1 h2 _ ih => exact ih.at_ h1 (.p h2)
  | r h1 h2 _ ih => exact ih.at_ h1 (.r h2)
/-- what the lambda takes along -/
def capsOf (ρ : Env) : List Nat → Option (List (Sum PD Nat))
  | [] => some []
  | i :: ix => match ρ[i]?, capsOf ρ ix with
    | some (some (.p d)), some cs => some (.inl d :: cs)
    | some (some (.r k)), some cs => some (.inr k :: cs)
    | _, _ => none
theorem capsOf_ok {ρ : Env} {σ : L2.St} (h : EnvOk z W ρ σ) : ∀ {ix : List Nat} {cs : List (Sum PD Nat)}, capsOf ρ ix = some cs → Caps z W σ ix cs
  | [], cs, q => by cases q; exact .nil
  | i :: ix, cs, q => by
    unfold capsOf at q
    split at q
    · rename_i d cs h1 h2
      cases q
      obtain ⟨v, e1, e2⟩ := h.2 _ _ h1
      cases e2 with | p e2 => exact .p e1 e2 (capsOf_ok h h2)
    · rename_i k cs h1 h2
      cases q
      obtain ⟨v, e1, e2⟩ := h.2 _ _ h1
      cases e2 with | r e2 => exact .r e1 e2 (capsOf_ok h h2)
    · cases q
end
/-- x(): the lambda at slot i runs; it is the one of f, c', made over σ; n: the maker's slots, fb: its body -/
def fWork (i n : Nat) (f c' : Addr) (q : Str) (σ : L2.St) (fb : FE) : FE := fun ρ M => match ρ[i]? with
  | some (some (.fn f1 c1 q1 σ1 ix cs)) => if f1 = f ∧ c1 = c' ∧ q1 = q ∧ σ1 = σ then fb (capEnv n ix cs) M else none
  | _ => none
section
variable {X : Cx} {z : Bz} {pins : List (Addr × Obj)} {σ : L2.St} {H : Hp} {s : Shared}
/-- the context of a def called from X at s -/
abbrev calleeCx (X : Cx) (Ng : List Str) (qg : Str) (sg : Scope) (g : Addr) (cdg : Value) (s : Shared) (H : Hp) (E : XK) : Cx := cxOf (L2.CX X.prog X.w) X.prog X.w X.K X.mg X.base Ng qg sg g cdg X.A X.stack s H E
theorem pd_work {Ng : List Str} {qg : Str} {sg : Scope} {g f c' : Addr} {cdg pm ctv : Value} {params : Arguments} {body : Expr} {scope : Scope} {k i n : Nat} {a : Str} {pn : List (Addr × Obj)} {xe : Value → Shared → Prop} {Wg : WX} {Eg : XK} {fb : FE} {p1 p2 : Pos}
    (I : Inv X pins σ H s) (hσ : σ.length = n) (L : LamS X.env.scope scope) (obj : s.heap.get? f = some (PySem.W.kla_obj "<lambda>" (X.env.qual ++ "<lambda>") params body scope (cloFrom X.env.cells scope.names []) pm c' ctv)) (fresh : H f = none) (nfr : f ∉ frs X.stack)
    (binds : bindArgs (PySem.W.kla_fn "<lambda>" (X.env.qual ++ "<lambda>") params body scope (cloFrom X.env.cells scope.names []) pm (.ref c') ctv) ⟨[], []⟩ = pure [])
    (tk : Takes ((calleeCx X Ng qg sg g cdg s H Eg).tr pn xe) Wg) (room : Room (k + 1) (X.A.deeper (PyProof.Rows.envOfC qg sg s.heap.objs.size g cdg)))
    (hbody : ∀ (A : Around) (outer : List PySem.Env) (s : Shared) (H : Hp) (E : XK), Room k (A.deeper (lamEnv X scope s.heap.objs.size f c')) → PE (lamCx X A outer s H E scope f c') body (tE z (fun cls d _ H => E cls d H) fb))
    (hN : Ng[i]? = some a) (hv : Vis sg a) (hd : (a == ("__debug__" : Str)) = false := by decide) (hcd : (a == ("__classdict__" : Str)) = false := by decide) :
    PE ((calleeCx X Ng qg sg g cdg s H Eg).tr pn xe) (.Call (.Name a p1) [] [] p2) (tE z Wg (fWork i n f c' (X.env.qual ++ "<lambda>") σ fb)) := by
  refine ⟨fun pinsG sG σG HG Q IG wish => ?_⟩
  obtain ⟨WG, M, ρ, ok, env, r, hr, po⟩ := wish
  unfold fWork at hr
  split at hr
  rotate_left
  · cases hr
  rename_i f1 c1 q1 σ1 ix cs hρ
  split at hr
  rotate_left
  · cases hr
  rename_i same
  obtain ⟨rfl, rfl, rfl, rfl⟩ := same
  obtain ⟨vf, atf, isf⟩ := env.2 _ _ hρ
  cases isf with | fn known caps =>
  have told : tE z (fun cls d _ H' => Wg cls d σG H') fb σ1 HG Q := ⟨WG, M, capEnv n ix cs, ok, capEnv_ok hσ caps, r, hr, po⟩
  refine wpAny_Call_Name_kw (thn ((pe_var (pos := p1) (i := i) hN hv hd hcd).run pinsG sG σG HG (fun v H1 => v = .ref f1 ∧ H1 = HG) IG ⟨_, atf, rfl, rfl⟩) fun u s1 ⟨v, H1, I1, r1, ev, eH⟩ => ?_)
  subst ev
  subst eH
  obtain rfl : u = Value.ref f1 := r1
  have there := I1.base.keep f1 _ obj fresh nfr (fun m => nomatch (show f1 ∈ ([] : List Addr) from m))
  refine PySem.W.callWith_F0 ⟨_, _, _, _, there⟩ ?_
  have grown : Un (frs X.stack) [] H H1 s.heap s1.heap := I1.base
  obtain ⟨⟨oc, vs, t, hoc, hdc, hvc⟩, _, _⟩ := I1.hok c1 _ (ok.same _ _ known)
  have ran : codeAny (model X.prog X.w) (X.A.deeper (PyProof.Rows.envOfC qg sg s.heap.objs.size g cdg)) (.call (.ref f1) ⟨[], []⟩) (CR (L2.CX X.prog X.w) (PyProof.Rows.envOfC qg sg s.heap.objs.size g cdg :: X.stack) X.prog X.w H1 s1 Q (fun cls d H' => Wg cls d σG H')) s1 := by
    refine PySem.W.kla_callFunE room.depth there rfl L.co L.gen rfl ⟨c1, oc, vs, t, rfl, hoc, hdc, hvc⟩ ?_
    rw [binds]
    refine wpAny_pure (wpAny_newFunctionEnv (fun y hy => (L.own y hy).2) (fun y hy => absurd hy (by simp)) (fun h1 ns sb => ⟨I1.nolimit.fresh _ sb, ?_⟩) L.kind)
    show codeAny _ _ (.expr body (lamEnv X scope s1.heap.objs.size f1 c1)) _ _
    have J := lam_start2 (E := fun cls d H' => Wg cls d σG H') (f := f1) (c' := c1) (tk := s1.toks + ([] : List (Str × Value)).length) I L I1.env0 room.hd grown ns fun b o e => sb.extBut b o (Nat.ne_of_lt (Heap.lt_size e)) (Heap.get?_push_of_some _ e)
    refine PySem.W.kla_codeExpr (wpAny_mono ((hbody _ _ s1 H1 _ (room.deeper _)).run [] _ _ H1 Q J told) (fun v s' done => ?_) fun _ _ x => x)
    obtain ⟨w', H', J', rv, q⟩ := done
    exact ⟨w', H', J'.os, J'.bare, J'.base, J'.hok, rv, q⟩
  refine wpAny_call (codeAny_mono ran fun res s' done => ?_)
  cases res with
  | error e => exact tk e s' (XE.of_call I1 (fun cls d H' h => h) done)
  | ok fl =>
    cases fl with
    | ret u => exact I1.after done
    | next => exact done.elim
    | brk => exact done.elim
    | cont => exact done.elim
/-- x(lambda: body): post tells what x answers, by what the lambda does -/
def fLam (n : Nat) (ix : List Nat) (fb : FE) (post : Rs E → Rs E) : FE := fun ρ M => match capsOf ρ ix with
  | some cs => post (fb (capEnv n ix cs) M)
  | none => none
theorem pd_lamcall {Wx : WX} {x a : Str} {g c P : Addr} {k n : Nat} {pg : Arguments} {bg : List Stmt} {sg : Scope} {dV kV doc pm cdv ct oc : Value} {an od : Option Addr} {osl : Array (Option Value)} {Ng : List Str}
    {params : Arguments} {body : Expr} {scope : Scope} {fb : FE} {post : Rs E → Rs E} {ix : List Nat} {gB : Addr → Addr → L2.St → FS} {p lpos pos : Pos} (F : Fits X z) (hn : X.N.length = n) (hg : Gl X x) (hm : X.mg x = some (.ref g)) (hk : PySem.W.keepIn X.K (.ref g) = true)
    (lk : X.K.lookup g = some ⟨oc, od, .func (PySem.W.fnOf x x pg bg sg dV kV doc pm an cdv ct), osl⟩) (hcg : PySem.W.codeIn X.K cdv x = true) (hb : L2.Binds X.K (PySem.W.fnOf x x pg bg sg dV kV doc pm an cdv ct) [a] []) (Sg : FnScope Ng [a] sg) (hNg : Ng[0]? = some a) (hva : Vis sg a)
    (hcallee : ∀ (f c' : Addr) (s : Shared) (H : Hp) (σ : L2.St) (E : XK), (∀ pn xe Wg p1 p2, Takes ((calleeCx X Ng x sg g cdv s H E).tr pn xe) Wg → PE ((calleeCx X Ng x sg g cdv s H E).tr pn xe) (.Call (.Name a p1) [] [] p2) (tE z Wg (fWork 0 n f c' (X.env.qual ++ "<lambda>") σ fb))) →
      Room (k + 1) (calleeCx X Ng x sg g cdv s H E).A → ∀ Wg, Takes (calleeCx X Ng x sg g cdv s H E) Wg → PSs (calleeCx X Ng x sg g cdv s H E) bg (tS z Wg (gB f c' σ)))
    (hpost : ∀ cs M r, post (fb (capEnv n ix cs) M) = some r → ∀ f c' σ, fnOf Ng.length (gB f c' σ) [.fn f c' (X.env.qual ++ "<lambda>") σ ix cs] M = some r)
    (TB : TabB X.base X.mg c P) (hcode : X.env.code = .ref c) (hmT : (P, X.env.qual ++ "<lambda>") ∈ z.T) (hu : ∀ p ∈ z.T, p.1 = P → p.2 = X.env.qual ++ "<lambda>") (hr : Room (k + 2) X.A) (L : LamS X.env.scope scope) (hdef : defaultsOf params X.env = ([], []))
    (hbind : ∀ (q : Str) (cl : List (Str × Addr)) (pm cv ctv : Value), bindArgs (PySem.W.kla_fn "<lambda>" q params body scope cl pm cv ctv) ⟨[], []⟩ = pure [])
    (hbody : ∀ (A : Around) (outer : List PySem.Env) (s : Shared) (H : Hp) (E : XK) (f c' : Addr), Room k (A.deeper (lamEnv X scope s.heap.objs.size f c')) → PE (lamCx X A outer s H E scope f c') body (tE z (fun cls d _ H => E cls d H) fb)) (tk : Takes X Wx)
    (hdb : (x == ("__debug__" : Str)) = false := by decide) (hd : (a == ("__debug__" : Str)) = false := by decide) (hcd : (a == ("__classdict__" : Str)) = false := by decide) :
    PE X (.Call (.Name x p) [.Lambda params body scope lpos] [] pos) (tE z Wx (fLam n ix fb post)) := by
  refine ⟨fun pins s σ H Q I wish => ?_⟩
  obtain ⟨W, M, ρ, ok, env, r, hr', po⟩ := wish
  unfold fLam at hr'
  split at hr'
  rotate_left
  · cases hr'
  rename_i cs hcs
  have len : σ.length = n := I.len.trans hn
  refine wpAny_Call_Name_kw (ld_glob I hg hm ?_ hdb)
  refine PySem.W.callWith_K (h₀ := X.base) I.ok.mod.kin hk ?_ (by rfl) (by rfl)
  show wpAny _ _ (spliced ((false, eval (.Lambda params body scope lpos) X.env) :: backTo pos (starEach [] X.env))) _ _ s
  refine Calls.spliced_cons (lam_make2 I TB hcode hmT hu ok.tabs hdef (L.has I.ok) fun f c' pm' ctv H1 s' I1 eN T1 hf hfn hfr hco => ?_)
  refine Calls.spliced_nil ⟨I1.kIn, ?_⟩
  have s1 := stepN ok eN T1
  obtain ⟨W2, s2, known, _⟩ := addCode s1.ok hco
  have s12 := s1.trans s2
  have caps : Caps z W2 σ ix cs := s12.w.caps (capsOf_ok env hcs)
  have ran : codeAny (model X.prog X.w) X.A (.call (.ref g) ⟨[.ref f], []⟩) (CR (L2.CX X.prog X.w) X.stack X.prog X.w H1 s' Q (fun cls d H' => Wx cls d σ H')) s' := by
    refine run_ofS (N := Ng) (ps := [a]) (us := [.ref f]) (vs := [.ref f]) lk hcg Sg hr I1.env0 (hb s' [.ref f] I1.kIn rfl) (.cons rfl .nil) rfl fun room => ?_
    refine ⟨_, hcallee f c' s' H1 σ (fun cls d H' => Wx cls d σ H') (fun pn xe Wg p1 p2 tkg => pd_work I1 len L hf hfn hfr (hbind _ _ _ _ _) tkg room (fun A outer s H E rm => hbody A outer s H E f c' rm) hNg hva hd hcd) room _ (takes_of rfl rfl rfl rfl), ?_⟩
    have hfn' := hpost cs M r hr' f c' σ
    refine ⟨W2, M, _, s12.ok, env_start (es := [.fn f c' (X.env.qual ++ "<lambda>") σ ix cs]) (.cons (.fn known caps) .nil), ?_⟩
    unfold fnOf at hfn'
    split at hfn'
    · rename_i ρ' M' e
      cases hfn'
      exact ⟨_, e, fun W' H' σ' st _ => po W' H' .non (s12.trans st) (.p .non)⟩
    · rename_i v M' e
      cases hfn'
      exact ⟨_, e, fun W' H' v st q => po W' H' v (s12.trans st) q⟩
    · rename_i v ρ' M' e
      cases hfn'
      exact ⟨_, e, fun W' H' σ' c d st _ q => po W' H' c d (s12.trans st) q⟩
    · cases hfn'
  refine wpAny_call (codeAny_mono ran fun res s2 done => ?_)
  cases res with
  | error e => exact tk e s2 (XE.of_call I1 (fun cls d H' h => h) done)
  | ok fl =>
    cases fl with
    | ret u => exact I1.after done
    | next => exact done.elim
    | brk => exact done.elim
    | cont => exact done.elim
end
end Pl

-- PL18
namespace Pl
open PySem PySem.Spec L2

mutual
theorem RV.nk {X : Cx} {pins : List (Addr × Obj)} {σ : L2.St} {z : Bz} {F H : Hp} {s : Shared} (I : Inv X pins σ H s) (hK : z.K = X.K) (sm : Same F H) : ∀ {v : V} {d : PD} {k : NestedKey} {u : Value}, RV z F v d → nkOf d = some k → RelV v u → NestedIs s.heap k u
  | _, _, k, u, .non, h, r => by cases h; cases (show u = Value.none from r); exact .none
  | _, _, k, u, .bl b, h, r => by cases h; cases (show u = Value.bool b from r); exact .bool rfl
  | _, _, k, u, .int i, h, r => by cases h; obtain ⟨t, rfl⟩ := (show ∃ t, u = Value.int i t from r); exact .int i t
  | _, _, k, u, .str y, h, r => by cases h; obtain ⟨t, rfl⟩ := (show ∃ t, u = Value.str y t from r); exact .text y t
  | _, _, k, u, .tup (ds := ds) e l rs, h, r => by
    unfold nkOf at h
    split at h
    · rename_i ks hk
      cases h
      cases (show u = Value.ref _ from r)
      obtain ⟨its, rv, ⟨o, ho, hc, n, hd⟩, _⟩ := I.tuple (hK ▸ (Ext.of sm).sqT e)
      exact .tup ho hc hd (RVs.nk I hK sm rs hk rv)
    · cases h
  | _, _, k, u, .lst _ _ _, h, r => by cases h
  | _, _, k, u, .scr _ _ _, h, r => by cases h
  | _, _, k, u, .dic _ _ _, h, r => by cases h
  | _, _, k, u, .set _ _ _, h, r => by cases h
  | _, _, k, u, .iset _ _ _, h, r => by cases h
  | _, _, k, u, .ins _ _, h, r => by cases h
  | _, _, k, u, .exn0 _, h, r => by cases h
  | _, _, k, u, .exn _ _ _ _, h, r => by cases h
  | _, _, k, u, .ty _, h, r => by cases h
  | _, _, k, u, .cls _, h, r => by cases h
theorem RVs.nk {X : Cx} {pins : List (Addr × Obj)} {σ : L2.St} {z : Bz} {F H : Hp} {s : Shared} (I : Inv X pins σ H s) (hK : z.K = X.K) (sm : Same F H) : ∀ {vs : List V} {ds : List PD} {ks : List NestedKey} {us : List Value}, RVs z F vs ds → nksOf ds = some ks → Vals vs us → NestedAll s.heap ks us
  | _, _, ks, us, .nil, h, r => by cases h; cases r; exact .nil
  | _, _, ks, us, .cons r rs, h, ru => by
    unfold nksOf at h
    split at h
    · rename_i k ks h1 h2
      cases h
      cases ru with
      | cons q qs => exact .cons (RV.nk I hK sm r h1 q) (RVs.nk I hK sm rs h2 qs)
    · cases h
end
def getN : List (NestedKey × E) → NestedKey → Option E
  | [], _ => none
  | (k, v) :: r, j => if k = j then some v else getN r j
def setN : List (NestedKey × E) → NestedKey → E → List (NestedKey × E)
  | [], j, x => [(j, x)]
  | (k, v) :: r, j, x => if k = j then (k, x) :: r else (k, v) :: setN r j x
theorem setN_len (j : NestedKey) (x : E) : ∀ r : List (NestedKey × E), (setN r j x).length ≤ r.length + 1
  | [] => by simp [setN]
  | (k, v) :: r => by
    unfold setN
    split
    · simp
    · have := setN_len j x r
      simp; omega
section
variable {X : Cx} {z : Bz} {Wx : WX} {pins : List (Addr × Obj)} {σ : L2.St} {H : Hp} {s : Shared} {W : Wd} {M : Store}
/-- three lists that go together: what the heap says, without tokens, as data -/
def Tri3 (z : Bz) (W : Wd) (x : NestedKey × Addr × Value) (l : NestedKey × Addr × V) (e : NestedKey × E) : Prop := l.1 = x.1 ∧ l.2.1 = x.2.1 ∧ RelV l.2.2 x.2.2 ∧ NestR z W l e
inductive All3 (z : Bz) (W : Wd) : List (NestedKey × Addr × Value) → List (NestedKey × Addr × V) → List (NestedKey × E) → Prop
  | nil : All3 z W [] [] []
  | cons {x l e xs ls es} : Tri3 z W x l e → All3 z W xs ls es → All3 z W (x :: xs) (l :: ls) (e :: es)
theorem all3_of : ∀ {xs : List (NestedKey × Addr × Value)} {ls : List (NestedKey × Addr × V)} {es : List (NestedKey × E)}, Paired (fun l x => l.1 = x.1 ∧ l.2.1 = x.2.1 ∧ RelV l.2.2 x.2.2) ls xs → Paired (NestR z W) ls es → All3 z W xs ls es
  | _, _, _, .nil, q => by cases q; exact .nil
  | _, _, _, .cons h t, q => by
    cases q with
    | cons h2 t2 => exact .cons ⟨h.1, h.2.1, h.2.2, h2⟩ (all3_of t t2)
theorem all3_left : ∀ {xs : List (NestedKey × Addr × Value)} {ls : List (NestedKey × Addr × V)} {es : List (NestedKey × E)}, All3 z W xs ls es → Paired (fun l x => l.1 = x.1 ∧ l.2.1 = x.2.1 ∧ RelV l.2.2 x.2.2) ls xs ∧ Paired (NestR z W) ls es
  | _, _, _, .nil => ⟨.nil, .nil⟩
  | _, _, _, .cons h t => ⟨.cons ⟨h.1, h.2.1, h.2.2.1⟩ (all3_left t).1, .cons h.2.2.2 (all3_left t).2⟩
theorem all3_get {k : NestedKey} : ∀ {xs : List (NestedKey × Addr × Value)} {ls : List (NestedKey × Addr × V)} {es : List (NestedKey × E)}, All3 z W xs ls es → (getN es k = none → atKey xs k = none) ∧ ∀ e, getN es k = some e → ∃ b u v, atKey xs k = some (b, u) ∧ RelV v u ∧ RE z W v e
  | _, _, _, .nil => ⟨fun _ => rfl, fun e h => by cases h⟩
  | x :: xs, l :: ls, (k2, e) :: es, .cons h t => by
    obtain ⟨h1, h2, h3, h4, h5, h6⟩ := h
    have ek : x.1 = k2 := h1.symm.trans h4
    obtain ⟨i1, i2⟩ := all3_get (k := k) t
    by_cases c : k2 = k
    · have hx : atKey (x :: xs) k = some x.2 := by unfold atKey; rw [List.find?_cons, decide_eq_true (ek.trans c)]; rfl
      refine ⟨fun q => ?_, fun e' q => ?_⟩
      · unfold getN at q; rw [if_pos c] at q; cases q
      · unfold getN at q; rw [if_pos c] at q; cases q
        exact ⟨x.2.1, x.2.2, l.2.2, hx, h3, h6⟩
    · have hx : atKey (x :: xs) k = atKey xs k := by unfold atKey; rw [List.find?_cons, decide_eq_false (fun q => c (ek.symm.trans q))]
      refine ⟨fun q => ?_, fun e' q => ?_⟩
      · unfold getN at q; rw [if_neg c] at q; rw [hx]; exact i1 q
      · unfold getN at q; rw [if_neg c] at q; rw [hx]; exact i2 e' q
theorem all3_miss {k : NestedKey} {b : Addr} {v : V} {u : Value} {e : E} (r : RelV v u) (kf : KeyF z W.F k b) (re : RE z W v e) : ∀ {xs : List (NestedKey × Addr × Value)} {ls : List (NestedKey × Addr × V)} {es : List (NestedKey × E)}, All3 z W xs ls es → getN es k = none → All3 z W (xs ++ [(k, b, u)]) (ls ++ [(k, b, v)]) (setN es k e)
  | _, _, _, .nil, _ => .cons ⟨rfl, rfl, r, rfl, kf, re⟩ .nil
  | x :: xs, l :: ls, (k2, e0) :: es, .cons h t, hm => by
    unfold getN at hm
    split at hm
    · cases hm
    · rename_i c
      unfold setN
      rw [if_neg c]
      exact .cons h (all3_miss r kf re t hm)
theorem all3_put {k : NestedKey} {v : V} {u : Value} {e : E} (r : RelV v u) (re : RE z W v e) : ∀ {xs : List (NestedKey × Addr × Value)} {ls : List (NestedKey × Addr × V)} {es : List (NestedKey × E)}, All3 z W xs ls es → (xs.map (·.1)).Nodup → (getN es k).isSome = true → ∃ ls', All3 z W (xs.map (putAt k u)) ls' (setN es k e) ∧ ls'.length = ls.length
  | _, _, _, .nil, _, hm => by cases hm
  | x :: xs, l :: ls, (k2, e0) :: es, .cons h t, nd, hm => by
    obtain ⟨h1, h2, h3, h4, h5, h6⟩ := h
    have ek : x.1 = k2 := h1.symm.trans h4
    rw [List.map_cons] at nd
    obtain ⟨n1, n2⟩ := List.nodup_cons.mp nd
    by_cases c : k2 = k
    · subst c
      have e1 : (x :: xs).map (putAt k2 u) = (x.1, x.2.1, u) :: xs := by
        rw [List.map_cons]
        have e2 : xs.map (putAt k2 u) = xs := by
          conv => rhs; rw [← List.map_id xs]
          refine List.map_congr_left fun y hy => ?_
          unfold putAt
          rw [if_neg]
          · rfl
          · intro q
            exact n1 (ek.symm ▸ q ▸ List.mem_map.mpr ⟨y, hy, rfl⟩)
        rw [e2]
        unfold putAt
        rw [if_pos ek]
      rw [e1]
      unfold setN
      rw [if_pos rfl]
      exact ⟨(l.1, l.2.1, v) :: ls, .cons ⟨h1, h2, r, h4, h5, re⟩ t, rfl⟩
    · unfold getN at hm
      rw [if_neg c] at hm
      obtain ⟨ls', q1, q2⟩ := all3_put r re t n2 hm
      have e1 : (x :: xs).map (putAt k u) = x :: xs.map (putAt k u) := by
        rw [List.map_cons]
        congr 1
        unfold putAt
        rw [if_neg (fun q => c (ek.symm.trans q))]
      rw [e1]
      unfold setN
      rw [if_neg c]
      exact ⟨l :: ls', .cons ⟨h1, h2, h3, h4, h5, h6⟩ q1, by simp [q2]⟩
theorem all3_is (F : Fits X z) (I : Inv X pins σ H s) (ok : StoreOk z W M H) : ∀ {xs : List (NestedKey × Addr × Value)} {ls : List (NestedKey × Addr × V)} {es : List (NestedKey × E)}, All3 z W xs ls es → ∀ x ∈ xs, (nestedKind X.prog X.w).is s.heap x.1 x.2.1
  | _, _, _, .nil, x, hx => by cases hx
  | _, _, _, .cons h t, x, hx => by
    rcases List.mem_cons.mp hx with q | q
    · subst q
      obtain ⟨q1, q2, q3, q4, ⟨d, d1, d2, d3⟩, q6⟩ := h
      refine ⟨?_, by rw [← q1]; exact d3⟩
      rw [← q1]
      exact d1.nk I F.K ok.same d2 (by rw [q2]; rfl)
    · exact all3_is F I ok t x q
/-- what stands at the cell n -/
theorem nest_at (F : Fits X z) (I : Inv X pins σ H s) (ok : StoreOk z W M H) {n : Nat} {a : Addr} {es : List (NestedKey × E)} (hM : M[n]? = some (some (.dcN es))) (ha : W.α[n]? = some a) :
    ∃ L xs, H a = some (NestD z.prog z.w a L) ∧ L.length ≤ sizeLine ∧ All3 z W xs L es ∧ (a == sysModules) = false ∧ s.heap.DictOfH (nestedKind X.prog X.w) a xs := by
  obtain ⟨b, e1, e2, L, e3, e4, e5⟩ := ok.cell n _ hM
  rw [ha] at e1; cases e1
  obtain ⟨⟨xs, p1, p2, p3, o, es', ep, h1, h2, h3, h4⟩, _, _⟩ := I.hok a _ e3
  have A := all3_of p1 e5
  refine ⟨L, xs, e3, e4, A, p2, o, es', ep, h1, h2, h3, by rw [← F.prog, ← F.w]; exact h4, fun x hx => ?_, p3⟩
  exact all3_is F I ok A x hx

def asNk : E → Option NestedKey
  | .p (.tup ds) => match nkOf (.tup ds) with
    | some k => if k.depth ≤ 8 then some k else none
    | none => none
  | _ => none
theorem asNk_ok (F : Fits X z) (I : Inv X pins σ H s) (ok : StoreOk z W M H) {v : V} {e : E} {k : NestedKey} {u : Value} (r : RE z W v e) (h : asNk e = some k) (ru : RelV v u) : ∃ b, v = .ref b ∧ u = .ref b ∧ KeyF z W.F k b ∧ (nestedKind X.prog X.w).is s.heap k b := by
  unfold asNk at h
  split at h
  · rename_i ds
    split at h
    · rename_i k' hk
      split at h
      · rename_i hd
        cases h
        cases r with | p r =>
        have r0 := r
        cases r with | tup e1 l1 rr =>
        cases (show u = Value.ref _ from ru)
        exact ⟨_, rfl, rfl, ⟨_, r0, hk, hd⟩, r0.nk I F.K ok.same hk rfl, hd⟩
      · cases h
    · cases h
  · cases h
def atN (M : Store) : E → Option (List (NestedKey × E))
  | .r n => match M[n]? with
    | some (some (.dcN es)) => some es
    | _ => none
  | _ => none
theorem atN_ok {e : E} {es : List (NestedKey × E)} (h : atN M e = some es) : ∃ n, e = .r n ∧ M[n]? = some (some (.dcN es)) := by
  unfold atN at h
  split at h
  · rename_i n
    split at h
    · rename_i es' hM; cases h; exact ⟨n, rfl, hM⟩
    · cases h
  · cases h
def gNIn (b : Bool) : G2 := fun y d M => match atN M d, asNk y with
  | some es, some k => some (.p (.bl ((getN es k).isSome == b)), M)
  | _, _ => none
theorem isSome_key {k : NestedKey} {xs : List (NestedKey × Addr × Value)} {ls : List (NestedKey × Addr × V)} {es : List (NestedKey × E)} (A : All3 z W xs ls es) : (atKey xs k).isSome = (getN es k).isSome := by
  cases h : getN es k with
  | none => rw [(all3_get A).1 h]; rfl
  | some e => obtain ⟨b, u, v, q, _⟩ := (all3_get A).2 e h; rw [q]; rfl
theorem valueAt_key {k : NestedKey} {xs : List (NestedKey × Addr × Value)} : (valueAt (pairsH xs) k).isSome = (atKey xs k).isSome := by
  rw [valueAt_pairsH]
  cases atKey xs k <;> rfl
theorem op_nIn (F : Fits X z) (hu : X.A.units + 64 < cLine) : OpR X (compareOp .In) (r2D z (gNIn true)) := by
  intro pins s σ H x y v u Q I rx ry ⟨W, M, a, b, ok, ra, rb, e, M', hg, hq⟩
  unfold gNIn at hg
  split at hg
  · rename_i es k h1 h2
    cases hg
    obtain ⟨n, rfl, hM⟩ := atN_ok h1
    obtain ⟨kb, rfl, rfl, _, isk⟩ := asNk_ok F I ok ra h2 rx
    cases rb with | r ha =>
    cases (show u = Value.ref _ from ry)
    obtain ⟨L, xs, e3, _, A, hd, D⟩ := nest_at F I ok hM ha
    refine in_keyed (knd := nestedKind X.prog X.w) (kvs := pairsH xs) (by show X.A.in1.units + 8 < cLine; simp only [Around.in1_units]; omega) isk hd ⟨xs, D, rfl⟩ ?_
    refine ⟨.bl ((getN es k).isSome == true), H, I.tok _, ?_, hq W H _ (.refl ok) (.p (.bl _))⟩
    show _ = Value.bool _
    rw [valueAt_key, isSome_key A]
    simp
  · cases hg
theorem op_nNotIn (F : Fits X z) (hu : X.A.units + 64 < cLine) : OpR X (compareOp .NotIn) (r2D z (gNIn false)) := by
  intro pins s σ H x y v u Q I rx ry ⟨W, M, a, b, ok, ra, rb, e, M', hg, hq⟩
  unfold gNIn at hg
  split at hg
  · rename_i es k h1 h2
    cases hg
    obtain ⟨n, rfl, hM⟩ := atN_ok h1
    obtain ⟨kb, rfl, rfl, _, isk⟩ := asNk_ok F I ok ra h2 rx
    cases rb with | r ha =>
    cases (show u = Value.ref _ from ry)
    obtain ⟨L, xs, e3, _, A, hd, D⟩ := nest_at F I ok hM ha
    refine notIn_keyed (knd := nestedKind X.prog X.w) (kvs := pairsH xs) (by show X.A.in1.units + 8 < cLine; simp only [Around.in1_units]; omega) isk hd ⟨xs, D, rfl⟩ ?_
    refine ⟨.bl ((getN es k).isSome == false), H, I.tok _, ?_, hq W H _ (.refl ok) (.p (.bl _))⟩
    show _ = Value.bool _
    rw [valueAt_key, isSome_key A]
    cases (getN es k).isSome <;> rfl
  · cases hg
theorem samebut_keep {a : Addr} {h h' : Heap} (sb : Heap.SameBut a h h') : ∀ b u, b ≠ a → h.get? b = some u → h'.get? b = some u := fun b u nb q => (sb.2 b nb).trans q
/-- the cell is written -/
theorem nest_set (F : Fits X z) (I : Inv X pins σ H s) (ok : StoreOk z W M H) {n : Nat} {a b : Addr} {es : List (NestedKey × E)} {k : NestedKey} {v : V} {u : Value} {e : E} {h' : Heap} {t' : Nat} {L : List (NestedKey × Addr × V)} {xs : List (NestedKey × Addr × Value)}
    (hM : M[n]? = some (some (.dcN es))) (ha : W.α[n]? = some a) (hH : H a = some (NestD z.prog z.w a L)) (hl : L.length < sizeLine) (A : All3 z W xs L es) (hd : (a == sysModules) = false) (nd : (xs.map (·.1)).Nodup) (kf : KeyF z W.F k b) (re : RE z W v e) (ru : RelV v u)
    (D : h'.DictOfH (nestedKind X.prog X.w) a (storedH xs k b u)) (sb : Heap.SameBut a s.heap h') :
    ∃ H', Inv X pins σ H' { s with heap := h', toks := t' } ∧ Step z W H W (M.set n (some (.dcN (setN es k e)))) H' := by
  obtain ⟨ls', A', ll⟩ : ∃ ls', All3 z W (storedH xs k b u) ls' (setN es k e) ∧ ls'.length ≤ L.length + 1 := by
    cases hg : getN es k with
    | none =>
      rw [storedH_new ((all3_get A).1 hg)]
      exact ⟨_, all3_miss ru kf re A hg, by simp⟩
    | some e0 =>
      obtain ⟨b0, u0, v0, q, _, _⟩ := (all3_get A).2 e0 hg
      rw [storedH_old q]
      obtain ⟨ls', q1, q2⟩ := all3_put ru re A nd (by rw [hg]; rfl)
      exact ⟨ls', q1, by omega⟩
  obtain ⟨o, es', ep, h1, h2, h3, h4, h5, h6⟩ := D
  obtain ⟨p1, p2⟩ := all3_left A'
  have new : ObjOk X.prog X.w (upd H a (NestD z.prog z.w a ls')) h' a (NestD z.prog z.w a ls') := by
    refine ⟨⟨_, p1, hd, h6, o, es', ep, h1, h2, h3, by rw [F.prog, F.w]; exact h4⟩, ⟨o, h1⟩, fun g1 g2 ⟨ys, q1, q2, q3, o', es2, ep2, q4, q5⟩ k => ⟨ys, q1, q2, q3, o', es2, ep2, k _ q4, q5⟩⟩
  refine ⟨_, I.write (x := a) (e := a) (by rw [hH]; exact trivial) (.inl rfl) (samebut_keep sb) ⟨o, h1⟩ new, ?_⟩
  refine setC ok hM ha (fun dx q => ?_) (fun dx q => by (rw [hH] at q; cases q)) ⟨ls', upd_same, by omega, p2⟩ ?_
  · unfold NestD at q; cases q
  · rintro (⟨_, q⟩ | ⟨_, _, q⟩)
    · unfold NestD at q; cases q
    · exact nest_ne q
def putNk (ρ : Env) (v d y : E) (M3 : Store) : Option (Fl × Store) := match d, asNk y with
  | .r n, some k => match M3[n]? with
    | some (some (.dcN es)) => if es.length < 16777216 then some (.nx ρ, M3.set n (some (.dcN (setN es k v)))) else none
    | _ => none
  | _, _ => none
def gNPut (fd fy fv : FE) : FS := fun ρ M => stx (fv ρ M) ρ fun v M1 => stx (fd ρ M1) ρ fun d M2 => stx (fy ρ M2) ρ fun y M3 => putNk ρ v d y M3
theorem pd_nput {fd fy fv : FE} {o i value : Expr} {pos pos' : Pos} (F : Fits X z) (hu : X.A.units + 64 < cLine) (ho : PE X o (tE z Wx fd)) (hi : PE X i (tE z Wx fy)) (hv : PE X value (tE z Wx fv)) (hs : swapsWith value (some (.Subscript o i pos')) pos.line X.env = pure false := by rfl) :
    PS X (.Assign [.Subscript o i pos'] value pos) (tS z Wx (gNPut fd fy fv)) := by
  refine ⟨fun pins s σ H D I ⟨W, M, ρ, ok, env, r, hr, po⟩ => ?_⟩
  refine wpAny_Assign_Subscript (thn (hv.run pins s σ H (fun v H1 => ∃ M1 W1 e, Step z W H W1 M1 H1 ∧ RE z W1 v e ∧ (stx (fd ρ M1) ρ fun d M2 => stx (fy ρ M2) ρ fun y M3 => putNk ρ e d y M3) = some r) I (stE ok env hr po fun e M1 W1 H1 v s1 q1 hr1 => ⟨M1, W1, e, s1, q1, hr1⟩)) fun uv s1 ⟨v, H1, I1, rv, M1, W1, e, st1, q1, hr1⟩ => ?_) hs
  refine thn (ho.run pins s1 σ H1 (fun x H2 => ∃ M2 W2 d, Step z W1 H1 W2 M2 H2 ∧ RE z W2 x d ∧ (stx (fy ρ M2) ρ fun y M3 => putNk ρ e d y M3) = some r) I1 (stE st1.ok (env.w st1.w) hr1 (po.step st1) fun d M2 W2 H2 x s2 q2 hr2 => ⟨M2, W2, d, s2, q2, hr2⟩)) fun ux s2 ⟨x, H2, I2, rx, M2, W2, d, st2, q2, hr2⟩ => ?_
  refine thn (hi.run pins s2 σ H2 (fun y H3 => ∃ M3 W3 ey, Step z W2 H2 W3 M3 H3 ∧ RE z W3 y ey ∧ putNk ρ e d ey M3 = some r) I2 (stE st2.ok ((env.w st1.w).w st2.w) hr2 ((po.step st1).step st2) fun ey M3 W3 H3 y s3 q3 hr3 => ⟨M3, W3, ey, s3, q3, hr3⟩)) fun uy s3 ⟨y, H3, I3, ry, M3, W3, ey, st3, q3, hr3⟩ => ?_
  unfold putNk at hr3
  split at hr3
  rotate_left
  · cases hr3
  rename_i n k hk _
  split at hr3
  rotate_left
  · cases hr3
  rename_i es hM
  split at hr3
  rotate_left
  · cases hr3
  rename_i hc
  cases hr3
  have q2' := st3.w.re q2
  cases q2' with | r ha =>
  cases (show ux = Value.ref _ from rx)
  obtain ⟨L, xs, e3, hl, A, hd, DD⟩ := nest_at F I3 st3.ok hM ha
  obtain ⟨kb, rfl, rfl, kf, isk⟩ := asNk_ok F I3 st3.ok q3 hk ry
  have ll : L.length = es.length := PySem.Paired.length (all3_left A).2
  have lx : L.length = xs.length := PySem.Paired.length (all3_left A).1
  obtain ⟨_, _, _, _, _, _, _, _, nd⟩ := id DD
  have hl2 : L.length < sizeLine := by rw [sizeLine_eq]; omega
  refine wpAny_setItem_heap (knd := nestedKind X.prog X.w) (hsz := by rw [sizeLine_eq]; omega) (by show X.A.in1.units + 8 < cLine; simp only [Around.in1_units]; omega) isk DD fun h' D' sb => ?_
  obtain ⟨H', I', st⟩ := nest_set (t' := s3.toks + (nestedKind X.prog X.w).draws k) F I3 st3.ok hM ha e3 hl2 A hd nd kf (st3.w.re (st2.w.re q1)) rv D' sb
  exact ⟨σ, H', I', po _ _ σ (((st1.trans st2).trans st3).trans st) (((env.w st1.w).w st2.w).w st3.w |>.w st.w)⟩
/-- {}, to be a dict with such keys -/
def fDictN0 : FE := fun _ M => some (.inr (.r M.length), M ++ [some (.dcN [])])
theorem nest_new (F : Fits X z) (I : Inv X pins σ H s) (ok : StoreOk z W M H) : ∃ (H' : Hp) (W' : Wd), Inv X pins σ H' { s with heap := s.heap.push { cls := .type "dict", data := .dict #[] } } ∧ Step z W H W' (M ++ [some (.dcN [])]) H' ∧ W'.α[M.length]? = some s.heap.objs.size := by
  have hn : H s.heap.objs.size = none := I.hok.fresh (Nat.le_refl _)
  have new : ObjOk X.prog X.w (upd H s.heap.objs.size (NestD z.prog z.w s.heap.objs.size [])) (s.heap.push { cls := .type "dict", data := .dict #[] }) s.heap.objs.size (NestD z.prog z.w s.heap.objs.size []) := by
    refine ⟨⟨[], .nil, ?_, List.nodup_nil, _, #[], 0, Heap.get?_push_size _ rfl, ⟨rfl, rfl, rfl⟩, rfl, rfl⟩, ⟨_, Heap.get?_push_size _ rfl⟩, fun g1 g2 ⟨ys, q1, q2, q3, o', es2, ep2, q4, q5⟩ k => ⟨ys, q1, q2, q3, o', es2, ep2, k _ q4, q5⟩⟩
    exact beq_eq_false_iff_ne.mpr (Ne.symm (Nat.ne_of_lt I.big))
  refine ⟨_, ⟨W.F, W.α ++ [s.heap.objs.size]⟩, I.laid (t' := s.toks) (fun _ _ q => Heap.get?_push_of_some _ q) (Nat.le_refl _) new, newC (c := .dcN []) ok hn ⟨[], upd_same, Nat.zero_le _, .nil⟩ ?_, ?_⟩
  · rintro (⟨_, q⟩ | ⟨_, _, q⟩)
    · unfold NestD at q; cases q
    · exact nest_ne q
  · show (W.α ++ [_])[M.length]? = _
    rw [ok.len, List.getElem?_append_right (Nat.le_refl _)]
    simp
theorem pd_dictN0 {pos : Pos} (F : Fits X z) : PE X (.Dict [] [] pos) (tE z Wx fDictN0) := by
  refine ⟨fun pins s σ H Q I ⟨W, M, ρ, ok, env, r, hr, po⟩ => ?_⟩
  cases hr
  obtain ⟨H', W', I', st, at_⟩ := nest_new F I ok
  exact wpAny_Dict_empty ⟨.ref s.heap.objs.size, H', I', rfl, po W' H' _ st (.r at_)⟩
/-- {k: v}: the cell is there, empty, while key and value are made -/
def putN1 (n : Nat) (k v : E) (M : Store) : Option (E × Store) := match asNk k, M[n]? with
  | some k, some (some (.dcN [])) => some (.r n, M.set n (some (.dcN [(k, v)])))
  | _, _ => none
def fDictN1 (fk fv : FE) : FE := fun ρ M => bnd (fk ρ (M ++ [some (.dcN [])])) fun k M1 => bnd (fv ρ M1) fun v M2 => lft (putN1 M.length k v M2)
theorem pd_dictN1 {pos : Pos} {fk fv : FE} {ke ve : Expr} (F : Fits X z) (hu : X.A.units + 64 < cLine) (hk : PE X ke (tE z Wx fk)) (hv : PE X ve (tE z Wx fv)) : PE X (.Dict [some ke] [ve] pos) (tE z Wx (fDictN1 fk fv)) := by
  refine ⟨fun pins s σ H Q I ⟨W, M, ρ, ok, env, r, hr, po⟩ => ?_⟩
  obtain ⟨H0, W0', I0, st0, at0⟩ := nest_new F I ok
  rw [arm_eval_Dict, zip_pairTrees [some ke] [ve] X.env pos rfl rfl, dictDisplay_pairs (pairTrees [some ke] [ve] X.env pos) (by intro q; cases q) (by show 1 < _; decide)]
  refine wpAny_bind (wpAny_standAt (wpAny_bind (wpAny_subDictH (knd := nestedKind X.prog X.w) (by show X.A.units + 8 < cLine; omega) (by show 1 ≤ 15; decide) ?_)))
  have wish : tPairs [(tE z Wx fk, tE z Wx fv)] σ H0 fun ps H2 => ∃ W2 M2 k v kx vx, ps = [(kx, vx)] ∧ Step z W H W2 M2 H2 ∧ W2.α[M.length]? = some s.heap.objs.size ∧ RE z W2 kx k ∧ RE z W2 vx v ∧ lft (putN1 M.length k v M2) = some r := by
    refine seqE st0.ok (env.w st0.w) hr (po.exc.step st0) fun k M1 W1 H1 kx s1 q1 hr1 => ?_
    refine seqE s1.ok ((env.w st0.w).w s1.w) hr1 ((po.exc.step st0).step s1) fun v M2 W2 H2 vx s2 q2 hr2 => ?_
    exact ⟨W2, M2, k, v, kx, vx, rfl, (st0.trans s1).trans s2, s2.w.at (s1.w.at at0), s2.w.re q1, q2, hr2⟩
  refine wpAny_mono ((pps_cons hk hv pps_nil).run pins _ σ H0 _ I0 wish) (fun vs s1 done => ?_) fun _ _ x => x
  obtain ⟨ps, H2, I2, rel, W2, M2, k, v, kx, vx, rfl, st, atn, rk, rv, hf⟩ := done
  obtain ⟨e, M', hp, rfl⟩ := lft_some hf
  unfold putN1 at hp
  split at hp
  rotate_left
  · cases hp
  rename_i nk hnk hM
  cases hp
  cases rel with | cons r1 r2 =>
  cases r2
  rename_i uw
  obtain ⟨uk, uv⟩ := uw
  obtain ⟨L, xs, e3, hl, A, hd, DD⟩ := nest_at F I2 st.ok hM atn
  cases A
  obtain ⟨kb, rfl, e4, kf, isk⟩ := asNk_ok F I2 st.ok rk hnk r1.1
  have e4 : uk = .ref kb := e4
  subst e4
  refine ⟨[(nk, kb, uv)], ⟨rfl, rfl, isk, trivial⟩, DD, fun h' tk D' sb => wpAny_pure ?_⟩
  obtain ⟨H', I', st'⟩ := nest_set (t' := tk) F I2 st.ok hM atn e3 (by show 0 < sizeLine; rw [sizeLine_eq]; decide) .nil hd List.nodup_nil kf rv r1.2 D' sb
  exact ⟨.ref s.heap.objs.size, H', I', rfl, po W2 H' _ (st.trans st') (.r atn)⟩
end
end Pl

-- PL19
namespace Pl
open PySem PySem.Spec L2

section
variable {X : Cx} {z : Bz} {Wx : WX}
theorem te_cF {v : V} {d : PD} {σ : L2.St} {H : Hp} {Q : VK} (rv : ∀ F, RV z F v d) (h : tE z Wx (fC d) σ H Q) : tC v σ H Q := te_c rv h
/-- a built-in type by its name -/
theorem pd_ty {x : Str} {n : String} {pos : Pos} (hg : Gl X x) (hm : X.mg x = none) (hv : bootBuiltins x = some (.type n) := by rfl) (hn : x ≠ "__name__" := by decide) (hd : (x == ("__debug__" : Str)) = false := by decide) : PE X (.Name x pos) (tE z Wx (fC (.ty n))) :=
  pe_of (pe_bltn (v := .ty n) hg hm hv rfl hn hd) fun _ _ _ => te_c fun _ => .ty n
/-- a class by its name -/
theorem pd_cls {x : Str} {c : Nat} {pos : Pos} (hg : Gl X x) (hm : X.mg x = some (.ref (z.ca c))) (hd : (x == ("__debug__" : Str)) = false := by decide) : PE X (.Name x pos) (tE z Wx (fC (.cls c))) :=
  pe_of (pe_glob (v := .ref (z.ca c)) hg hm rfl hd) fun _ _ _ => te_c fun _ => .cls c
/-- a number of the module -/
theorem pd_gint {x : Str} {i : Int} {pos : Pos} (hg : Gl X x) (hm : ∃ t, X.mg x = some (.int i t)) (hd : (x == ("__debug__" : Str)) = false := by decide) : PE X (.Name x pos) (tE z Wx (fC (.int i))) := by
  obtain ⟨t, hm⟩ := hm
  exact pe_of (pe_glob (v := .int i) hg hm ⟨t, rfl⟩ hd) fun _ _ _ => te_c fun _ => .int i
theorem pd_gstr {x y : Str} {pos : Pos} (hg : Gl X x) (hm : ∃ t, X.mg x = some (.str y t)) (hd : (x == ("__debug__" : Str)) = false := by decide) : PE X (.Name x pos) (tE z Wx (fC (.str y))) := by
  obtain ⟨t, hm⟩ := hm
  exact pe_of (pe_glob (v := .str y) hg hm ⟨t, rfl⟩ hd) fun _ _ _ => te_c fun _ => .str y

def tPK (X : Cx) (kws : List Keyword) (z : Bz) (Wx : WX) (f : FA) : Prop := PK X kws (tA z Wx f)
theorem pk_of {kws : List Keyword} {t t' : TA} (h : PK X kws t) (w : ∀ σ H Q, t' σ H Q → t σ H Q) : PK X kws t' := ⟨fun pos pins s σ H Q I q => h.run pos pins s σ H Q I (w σ H Q q)⟩
theorem pdk_nil : PK X [] (tA z Wx fNil) := pk_of pk_nil fun _ _ _ => ta_nil
theorem pdk_cons {fa : FE} {fr : FA} {e : Expr} {nm : Option Str} {kpos : Pos} {kws : List Keyword} (ha : PE X e (tE z Wx fa)) (hr : PK X kws (tA z Wx fr)) : PK X (⟨nm, e, kpos⟩ :: kws) (tA z Wx (fCons fa fr)) := pk_of (pk_cons ha hr) fun _ _ _ => ta_cons
/-- f(k = v, ..): it raises nothing -/
def fCallK (n : Nat) (ff : FF) (fa : FA) : FE := fun ρ M => bnd (fa ρ M) fun xs M1 => if xs.length = n then match ff xs M1 with
    | some (.inr e, M2) => some (.inr e, M2)
    | _ => none
  else none
theorem pd_callK0 {k : Nat} {f : Addr} {fd : FuncData} {ps ks : List Str} {n : Nat} {ff : FF} {x : Str} {p pos : Pos} {kws : List Keyword} {fa : FA} (F : FnOk X.prog X.w X.K X.mg X.base (L2.CX X.prog X.w) k f fd ps (spD z n ff)) (hr : Room k X.A) (hg : Gl X x) (hm : X.mg x = some (.ref f)) (hk : PySem.W.keepIn X.K (.ref f) = true)
    (hb : KBinds X.K fd ps ks (fun us ws => us ++ ws) (fun vs zs => vs ++ zs)) (tk : Takes X Wx) (hkw : PK X kws (tA z Wx fa)) (hall : (backToKw pos (keywordEach kws X.env)).all (·.1.isSome) = true := by rfl) (hks : (backToKw pos (keywordEach kws X.env)).filterMap (·.1) = ks := by rfl)
    (hdb : (x == ("__debug__" : Str)) = false := by decide) (hpl : (backToKw pos (keywordEach kws X.env)).any (·.1.isNone) = false := by rfl) : PE X (.Call (.Name x p) [] kws pos) (tE z Wx (fCallK n ff fa)) := by
  refine ⟨fun pins s σ H Q I ⟨W, M, ρ, ok, env, r, hr2, po⟩ => ?_⟩
  refine wpAny_Call_Name_kw (ld_glob I hg hm ?_ hdb)
  refine PySem.W.callWith_KW0 (h₀ := X.base) I.ok.mod.kin hk hall ?_ hpl
  have wish : tA z Wx fa σ H fun vs H1 => ∃ W1 M1 es e M2, Step z W H W1 M1 H1 ∧ REs z W1 vs es ∧ es.length = n ∧ ff es M1 = some (.inr e, M2) ∧ r = (.inr e, M2) := by
    refine seqA ok env hr2 po.exc fun es M1 W1 H1 vs s1 q1 hr1 => ?_
    split at hr1
    · rename_i hl
      split at hr1
      · rename_i e M2 he
        cases hr1
        exact ⟨W1, M1, es, e, M2, s1, q1, hl, he, rfl⟩
      · cases hr1
    · cases hr1
  refine thn (hkw.run pos pins s σ H _ I wish) fun ws s2 ⟨zs, H2, I2, rz, W1, M1, es, e, M2, s1, q1, hl, he, hre⟩ => ⟨I2.kIn, ?_⟩
  rw [hks]
  subst hre
  refine run_fnk (E := fun _ _ _ => False) (us := []) (vs := []) F hr hb (passes_call tk fun _ _ _ _ z => z.elim) I2 .nil rz ?_
  exact ⟨W1, M1, es, s1.ok, q1, hl, _, he, fun W' H' v t q => po W' H' v (s1.trans t) q⟩

abbrev fcx (P : Program) (w : World) (K : PySem.W.Frag) (mg : Str → Option Value) (base : Heap) (N : List Str) (qual : Str) (sc : Scope) (f : Addr) (cdv : Value) (A : Around) (outer : List PySem.Env) (s : Shared) (H : Hp) (E : XK) : Cx := cxOf (L2.CX P w) P w K mg base N qual sc f cdv A outer s H E
theorem fn_okC {z : Bz} {mg : Str → Option Value} {base : Heap} {x qual : Str} {st : Stmt} {f : Addr} {fd : FuncData} {N ps : List Str} {k : Nat} {g : FS} (F : Fun z.K x qual st f fd) (S : FnScope N ps (defScope st))
    (hb : ∀ (cdv : Value) (A : Around) (outer : List PySem.Env) (s : Shared) (H : Hp) (E : XK) (Wx : WX), Room k (fcx z.prog z.w z.K mg base N qual (defScope st) f cdv A outer s H E).A → Takes (fcx z.prog z.w z.K mg base N qual (defScope st) f cdv A outer s H E) Wx →
      PSs (fcx z.prog z.w z.K mg base N qual (defScope st) f cdv A outer s H E) (defBody st) (tS z Wx g)) : FnOk z.prog z.w z.K mg base (L2.CX z.prog z.w) (k + 1) f fd ps (spD z ps.length (fnOf N.length g)) := by
  refine F.okX S (fun vs H Q E ⟨W, M, es, ok, rs, hl, _⟩ => (res_len rs).trans hl) fun cdv A outer s H vs Q Xq hr h => ?_
  refine ⟨_, hb cdv A outer s H Xq (fun cls d _ H => Xq cls d H) hr (takes_of rfl rfl rfl rfl), ?_⟩
  obtain ⟨W, M, es, ok, rs, hl, r, hf, po⟩ := h
  refine ⟨W, M, _, ok, env_start rs, ?_⟩
  unfold fnOf at hf
  split at hf
  · rename_i ρ M' e
    cases hf
    exact ⟨_, e, fun W' H' σ' s _ => po W' H' .non s (.p .non)⟩
  · rename_i v M' e
    cases hf
    exact ⟨_, e, fun W' H' v s q => po W' H' v s q⟩
  · rename_i v ρ M' e
    cases hf
    exact ⟨_, e, fun W' H' σ' c d s _ q => po W' H' c d s q⟩
  · cases hf
theorem v_ (i : Nat) {x : Str} {pos : Pos} (hN : X.N[i]? = some x := by rfl) (hv : Vis X.env.scope x := by first | exact Or.inl rfl | exact Or.inr (Or.inl rfl) | exact Or.inr (Or.inr rfl)) (hd : (x == ("__debug__" : Str)) = false := by decide) (hcd : (x == ("__classdict__" : Str)) = false := by decide) : PE X (.Name x pos) (tE z Wx (fVar i)) := pd_var hN hv hd hcd
end
end Pl
namespace Pl
open PySem PySem.Spec L2
/-- a def that stands in the written part -/
def DefAt (K : PySem.W.Frag) (x : Str) (st : Stmt) (f : Addr) (ps : List Str) : Prop := ∃ fd, Fun K x x st f fd ∧ Binds K fd ps []
/-- a def judged, ready to be called -/
def FnR (z : Bz) (mg : Str → Option Value) (base : Heap) (k : Nat) (f : Addr) (ps : List Str) (n : Nat) (ff : FF) : Prop :=
  ∃ fd, FnOk z.prog z.w z.K mg base (L2.CX z.prog z.w) k f fd ps (spD z n ff) ∧ PySem.W.keepIn z.K (.ref f) = true ∧ Binds z.K fd ps []
theorem fn_r {z : Bz} {mg : Str → Option Value} {base : Heap} {x : Str} {st : Stmt} {f : Addr} {N ps : List Str} {k : Nat} {g : FS} (D : DefAt z.K x st f ps) (S : FnScope N ps (defScope st))
    (hb : ∀ (cdv : Value) (A : Around) (outer : List PySem.Env) (s : Shared) (H : Hp) (E : XK) (Wx : WX), Room k (fcx z.prog z.w z.K mg base N x (defScope st) f cdv A outer s H E).A → Takes (fcx z.prog z.w z.K mg base N x (defScope st) f cdv A outer s H E) Wx →
      PSs (fcx z.prog z.w z.K mg base N x (defScope st) f cdv A outer s H E) (defBody st) (tS z Wx g)) : FnR z mg base (k + 1) f ps ps.length (fnOf N.length g) := by
  obtain ⟨fd, F, B⟩ := D
  exact ⟨fd, fn_okC F S hb, F.kp, B⟩
section
variable {X : Cx} {z : Bz} {Wx : WX}
theorem c_ {j k : Nat} {f : Addr} {ps : List Str} {n : Nat} {ff : FF} {x : Str} {p pos : Pos} {e : Expr} {es : List Expr} {fa : FA} (G : FnR z X.mg X.base j f ps n ff) (F : Fits X z) (hr : Room k X.A) (hm : X.mg x = some (.ref f)) (tk : Takes X Wx) (ha : PA X (e :: es) (tA z Wx fa))
    (hg : Gl X x := by rfl) (hjk : j ≤ k := by decide) (hdb : (x == ("__debug__" : Str)) = false := by decide) (he : starEach (e :: es) X.env = (false, eval e X.env) :: starEach es X.env := by rfl) (hpl : (backTo pos (starEach es X.env)).any (·.1) = false := by rfl) :
    PE X (.Call (.Name x p) (e :: es) [] pos) (tE z Wx (fCall n ff [] fa)) := by
  obtain ⟨fd, G1, G2, G3⟩ := G
  rw [F.prog, F.w, F.K] at G1
  rw [F.K] at G2 G3
  exact pd_call (dvs := []) (dv := []) G1 (hr.mono hjk) hg hm G2 G3 .nil (fun _ => .nil) tk ha hdb he hpl
theorem ck_ {j k : Nat} {f : Addr} {ps ks : List Str} {n : Nat} {ff : FF} {x : Str} {p pos : Pos} {kws : List Keyword} {fa : FA} (G : ∃ fd, FnOk z.prog z.w z.K X.mg X.base (L2.CX z.prog z.w) j f fd ps (spD z n ff) ∧ PySem.W.keepIn z.K (.ref f) = true ∧ KBinds z.K fd ps ks (fun us ws => us ++ ws) (fun vs zs => vs ++ zs)) (F : Fits X z) (hr : Room k X.A) (hm : X.mg x = some (.ref f)) (tk : Takes X Wx) (hkw : PK X kws (tA z Wx fa))
    (hg : Gl X x := by rfl) (hjk : j ≤ k := by decide) (hall : (backToKw pos (keywordEach kws X.env)).all (·.1.isSome) = true := by rfl) (hks : (backToKw pos (keywordEach kws X.env)).filterMap (·.1) = ks := by rfl)
    (hdb : (x == ("__debug__" : Str)) = false := by decide) (hpl : (backToKw pos (keywordEach kws X.env)).any (·.1.isNone) = false := by rfl) : PE X (.Call (.Name x p) [] kws pos) (tE z Wx (fCallK n ff fa)) := by
  obtain ⟨fd, G1, G2, G3⟩ := G
  rw [F.prog, F.w, F.K] at G1
  rw [F.K] at G2 G3
  exact pd_callK0 G1 (hr.mono hjk) hg hm G2 G3 tk hkw hall hks hdb hpl
end
end Pl
namespace Pl
open PySem PySem.Spec L2
theorem fn_okE {z : Bz} {mg : Str → Option Value} {base : Heap} {x qual : Str} {st : Stmt} {f : Addr} {oc cdv kV doc pm ct : Value} {od an : Option Addr} {osl : Array (Option Value)} {N ps : List Str} {k : Nat} {g : FS}
    (lk : z.K.lookup f = some ⟨oc, od, .func (PySem.W.fnOf x qual (defArgs st) (defBody st) (defScope st) .none kV doc pm an cdv ct), osl⟩) (hcd : PySem.W.codeIn z.K cdv qual = true) (S : FnScope N ps (defScope st))
    (hb : ∀ (A : Around) (outer : List PySem.Env) (s : Shared) (H : Hp) (E : XK) (Wx : WX), Room k (fcx z.prog z.w z.K mg base N qual (defScope st) f cdv A outer s H E).A → Takes (fcx z.prog z.w z.K mg base N qual (defScope st) f cdv A outer s H E) Wx →
      PSs (fcx z.prog z.w z.K mg base N qual (defScope st) f cdv A outer s H E) (defBody st) (tS z Wx g)) : FnOk z.prog z.w z.K mg base (L2.CX z.prog z.w) (k + 1) f (PySem.W.fnOf x qual (defArgs st) (defBody st) (defScope st) .none kV doc pm an cdv ct) ps (spD z ps.length (fnOf N.length g)) := by
  refine fn_of lk hcd S (fun vs H Q E ⟨W, M, es, ok, rs, hl, _⟩ => (res_len rs).trans hl) fun A outer s H vs Q Xq hr h => ?_
  refine ⟨_, hb A outer s H Xq (fun cls d _ H => Xq cls d H) hr (takes_of rfl rfl rfl rfl), ?_⟩
  obtain ⟨W, M, es, ok, rs, hl, r, hf, po⟩ := h
  refine ⟨W, M, _, ok, env_start rs, ?_⟩
  unfold fnOf at hf
  split at hf
  · rename_i ρ M' e
    cases hf
    exact ⟨_, e, fun W' H' σ' s _ => po W' H' .non s (.p .non)⟩
  · rename_i v M' e
    cases hf
    exact ⟨_, e, fun W' H' v s q => po W' H' v s q⟩
  · rename_i v ρ M' e
    cases hf
    exact ⟨_, e, fun W' H' σ' c d s _ q => po W' H' c d s q⟩
  · cases hf
/-- how the law begins: the script and the tables -/
theorem start_ok {z : Bz} {H : Hp} (hT : ∀ p ∈ z.T, H p.1 = some (.tbl #[])) : StoreOk z ⟨fun b => match H b with
    | some (.tbl _) => none
    | o => o, []⟩ [] H := by
  refine ⟨fun b u q => ?_, rfl, List.nodup_nil, fun a ha => absurd ha (by simp), fun k c q => by simp at q, fun p hp => LamX.TabS.nil (hT p hp), fun a ps q => ?_, fun a ha => absurd ha (by simp)⟩
  · have q : (match H b with | some (.tbl _) => none | o => o) = some u := q
    split at q
    · cases q
    · exact q
  · have q : (match H a with | some (.tbl _) => none | o => o) = some (.tbl ps) := q
    split at q
    · cases q
    · rename_i h; exact h ps q
theorem rvs_ints {z : Bz} {F : Hp} : ∀ ns : List Int, RVs z F (ns.map V.int) (ns.map PD.int)
  | [] => .nil
  | n :: ns => .cons (.int n) (rvs_ints ns)
theorem sql_start {K : PySem.W.Frag} {H : Hp} {a : Addr} {xs : List V} (h : SqL K H a xs) : SqL K (fun b => match H b with
    | some (.tbl _) => none
    | o => o) a xs := by
  rcases h with (h | ⟨o, h⟩) | h
  · exact .inl (.inl (by simp only [h]))
  · exact .inl (.inr ⟨o, by simp only [h]⟩)
  · exact .inr h
/-- the law's promise -/
theorem law_sp {z : Bz} {ff : FF} {n : Nat} (law : ∀ ns : List Int, ns.length ≤ n → (∀ i ∈ ns, Builtin.Int.intBits i ≤ 1048576) → ∃ M', ff [.p (.scr (ns.map .int))] [] = some (.inr (.p (.bl true)), M')) (hn : n ≤ sizeLine) {H : Hp} {a : Addr} {ns : List Int} (hl : ns.length ≤ n) (hb : ∀ i ∈ ns, Builtin.Int.intBits i ≤ 1048576)
    (hT : ∀ p ∈ z.T, H p.1 = some (.tbl #[])) (hS : SqL z.K H a (ns.map V.int)) : spD z 1 ff [.ref a] H (fun v _ => v = .bl true) fun _ _ _ => False := by
  obtain ⟨M', e⟩ := law ns hl hb
  refine ⟨_, [], [.p (.scr (ns.map .int))], start_ok hT, .cons (.p (.scr (sql_start hS) (by rw [List.length_map]; omega) (rvs_ints ns))) .nil, rfl, _, e, fun W' H' v s r => re_bl r⟩
end Pl

-- PL20
namespace Pl
open PySem PySem.Spec L2

theorem ref_some {z : Bz} {W : Wd} {f : Str} : ∀ {vs : List (Str × V)} {es : List (Str × E)}, REf z W vs es → ∀ {e : E}, es.lookup f = some e → ∃ v, vs.lookup f = some v ∧ RE z W v e
  | _, _, .nil, _, h => by cases h
  | (k, v) :: vs, (k2, e) :: es, .cons h0 t, e', h => by
    obtain ⟨h1, h2⟩ := h0
    have h1 : k = k2 := h1
    subst h1
    unfold List.lookup at h ⊢
    cases c : f == k with
    | true => rw [c] at h; cases h; exact ⟨v, rfl, h2⟩
    | false => rw [c] at h; exact ref_some t h
theorem ref_none {z : Bz} {W : Wd} {f : Str} : ∀ {vs : List (Str × V)} {es : List (Str × E)}, REf z W vs es → es.lookup f = none → vs.lookup f = none
  | _, _, .nil, _ => rfl
  | (k, v) :: vs, (k2, e) :: es, .cons h0 t, h => by
    obtain ⟨h1, h2⟩ := h0
    have h1 : k = k2 := h1
    subst h1
    unfold List.lookup at h ⊢
    cases c : f == k with
    | true => rw [c] at h; cases h
    | false => rw [c] at h; exact ref_none t h
def putE (f : Str) (y : E) : List (Str × E) → List (Str × E)
  | [] => [(f, y)]
  | (g, x) :: r => if g = f then (g, y) :: r else (g, x) :: putE f y r
theorem ref_put {z : Bz} {W : Wd} {f : Str} {v : V} {e : E} (q : RE z W v e) : ∀ {vs : List (Str × V)} {es : List (Str × E)}, REf z W vs es → REf z W (putF f v vs) (putE f e es)
  | _, _, .nil => .cons ⟨rfl, q⟩ .nil
  | (k, v0) :: vs, (k2, e0) :: es, .cons h0 t => by
    obtain ⟨h1, h2⟩ := h0
    have h1 : k = k2 := h1
    subst h1
    unfold putF putE
    split
    · exact .cons ⟨rfl, q⟩ t
    · exact .cons ⟨rfl, h2⟩ (ref_put q t)
/-- the fields of an instance of one of these classes -/
def insOf (cs : List Nat) (e : E) (M : Store) : Option (Nat × List (Str × E)) := match e with
  | .r k => match M[k]? with
    | some (some (.ins c fs)) => if c ∈ cs then some (k, fs) else none
    | _ => none
  | _ => none
theorem ins_at {z : Bz} {W : Wd} {M : Store} {H : Hp} {v : V} {e : E} {cs : List Nat} {k : Nat} {fs : List (Str × E)} (ok : StoreOk z W M H) (r : RE z W v e) (h : insOf cs e M = some (k, fs)) :
    ∃ a dx c vs, e = .r k ∧ v = .ref a ∧ M[k]? = some (some (.ins c fs)) ∧ W.α[k]? = some a ∧ H a = some (.ins (z.ca c) dx vs) ∧ c ∈ cs ∧ H dx = some (.own a) ∧ vs.length ≤ 100 ∧ REf z W vs fs := by
  unfold insOf at h
  split at h
  · rename_i k'
    split at h
    · rename_i c fs' hM
      split at h
      · rename_i hc
        cases h
        cases r with | r ha =>
        obtain ⟨b, e1, e2, dx, vs, e3, e4, e5, e6⟩ := ok.cell _ _ hM
        rw [ha] at e1; cases e1
        exact ⟨_, dx, c, vs, rfl, rfl, hM, ha, e3, hc, e4, e5, e6⟩
      · cases h
    · cases h
  · cases h
theorem rvf_ref {z : Bz} {W : Wd} : ∀ {vs : List (Str × V)} {ds : List (Str × PD)}, RVf z W.F vs ds → REf z W vs (ds.map fun p => (p.1, .p p.2))
  | _, _, .nil => .nil
  | _, _, .cons h r => .cons ⟨rfl, .p h⟩ (rvf_ref r)
/-- the fields, of a cell or of data -/
def insFs (cs : List Nat) (e : E) (M : Store) : Option (List (Str × E)) := match e with
  | .r k => match M[k]? with
    | some (some (.ins c fs)) => if c ∈ cs then some fs else none
    | _ => none
  | .p (.ins c ds) => if c ∈ cs then some (ds.map fun p => (p.1, .p p.2)) else none
  | _ => none
theorem ins_fs {z : Bz} {W : Wd} {M : Store} {H : Hp} {v : V} {e : E} {cs : List Nat} {fs : List (Str × E)} (ok : StoreOk z W M H) (r : RE z W v e) (h : insFs cs e M = some fs) :
    ∃ a dx c vs, v = .ref a ∧ H a = some (.ins (z.ca c) dx vs) ∧ c ∈ cs ∧ REf z W vs fs := by
  unfold insFs at h
  split at h
  · rename_i k'
    split at h
    · rename_i c fs' hM
      split at h
      · rename_i hc
        cases h
        cases r with | r ha =>
        obtain ⟨b, e1, e2, dx, vs, e3, e4, e5, e6⟩ := ok.cell _ _ hM
        rw [ha] at e1; cases e1
        exact ⟨_, dx, c, vs, rfl, e3, hc, e6⟩
      · cases h
    · cases h
  · split at h
    · rename_i c ds hc
      cases h
      cases r with | p r =>
      cases r with | ins h1 h2 =>
      exact ⟨_, _, _, _, rfl, ok.same _ _ h1, hc, rvf_ref h2⟩
    · cases h
  · cases h
def gFld (cs : List Nat) (f : Str) : G1 := fun e M => match insFs cs e M with
  | some fs => match fs.lookup f with
    | some y => some (y, M)
    | none => none
  | none => none
section
variable {X : Cx} {z : Bz} {Wx : WX}
/-- e.f -/
theorem pd_fld {cs : List Nat} {f : Str} {fa : FE} {e : Expr} {pos : Pos} (F : Fits X z) (hc : ∀ c ∈ cs, Cls z.K (z.ca c) ∧ NoAttr z.K (z.ca c) f) (he : PE X e (tE z Wx fa)) (hb : attributeBase e f X.env (eval e X.env) = eval e X.env := by rfl) :
    PE X (.Attribute e f pos) (tE z Wx (fUn (gFld cs f) fa)) := pe_of (pe_fld he hb) fun σ H Q ⟨W, M, ρ, ok, env, r, hr, po⟩ => seqE ok env hr po.exc fun e1 M1 W1 H1 v1 s1 q1 hr1 => by
  obtain ⟨e', M', he', rfl⟩ := lft_some hr1
  unfold gFld at he'
  split at he'
  · rename_i fs hf
    split at he'
    · rename_i y hy
      cases he'
      obtain ⟨a, dx, c, vs, rfl, h1, h2, h5⟩ := ins_fs s1.ok q1 hf
      obtain ⟨v, l, rv⟩ := ref_some h5 hy
      exact ⟨a, _, dx, vs, v, rfl, h1, F.K ▸ (hc c h2).1, F.K ▸ (hc c h2).2, l, po _ _ _ s1 rv⟩
    · cases he'
  · cases he'
/-- e.f = value -/
def gFldPut (cs : List Nat) (f : Str) (fo fv : FE) : FS := fun ρ M => stx (fv ρ M) ρ fun y M1 => stx (fo ρ M1) ρ fun x M2 => match insOf cs x M2 with
  | some (k, fs) => match M2[k]? with
    | some (some (.ins c _)) => if fs.length < 99 then some (.nx ρ, M2.set k (some (.ins c (putE f y fs)))) else none
    | _ => none
  | none => none
theorem pd_fldput {cs : List Nat} {f : Str} {fo fv : FE} {o value : Expr} {pos pos' : Pos} (F : Fits X z) (hc : ∀ c ∈ cs, Cls z.K (z.ca c) ∧ NoAttr z.K (z.ca c) f) (ho : PE X o (tE z Wx fo)) (hv : PE X value (tE z Wx fv)) (hs : swapsWith value (some (.Attribute o f pos')) pos.line X.env = pure false := by rfl) :
    PS X (.Assign [.Attribute o f pos'] value pos) (tS z Wx (gFldPut cs f fo fv)) := ps_of (ps_fld ho hv hs) fun D σ H ⟨W, M, ρ, ok, env, r, hr, po⟩ =>
  stE ok env hr po fun y M1 W1 H1 x1 s1 q1 hr1 => stE s1.ok (env.w s1.w) hr1 (po.step s1) fun x M2 W2 H2 x2 s2 q2 hr2 => by
    split at hr2
    · rename_i k fs hf
      obtain ⟨a, dx, c, vs, _, rfl, hM, ha, h1, h2, h3, h4, h5⟩ := ins_at s2.ok q2 hf
      rw [hM] at hr2
      have hr2 : (if fs.length < 99 then some (Fl.nx ρ, M2.set k (some (.ins c (putE f y fs)))) else none) = some r := hr2
      split at hr2
      · rename_i hl
        cases hr2
        have lv : vs.length < 99 := by rw [PySem.Paired.length h5]; exact hl
        have nd : dx ≠ a := fun e => by rw [e, h1] at h3; cases h3
        have lp := length_putF f x1 vs
        have st : Step z W2 H2 W2 (M2.set k (some (.ins c (putE f y fs)))) (upd H2 a (.ins (z.ca c) dx (putF f x1 vs))) := setC s2.ok hM ha (fun dx q => by cases q) (fun dx q => by rw [h1] at q; cases q) ⟨dx, _, upd_same, by rw [upd_ne nd]; exact h3, by omega, ref_put (s2.w.re q1) h5⟩
        exact ⟨a, _, dx, vs, rfl, h1, F.K ▸ (hc c h2).1, F.K ▸ (hc c h2).2, by omega, po _ _ σ ((s1.trans s2).trans st) ((env.w s1.w).w s2.w |>.w st.w)⟩
      · cases hr2
    · cases hr2
/-- a statement that is never reached -/
def gNever : FS := fun _ _ => none
theorem pd_never {Q : Prop} {D : Ends} {σ : L2.St} {H : Hp} (h : tS z Wx gNever D σ H) : Q := by
  obtain ⟨_, _, _, _, _, _, hr, _⟩ := h
  cases hr
theorem pds_never {st : Stmt} : PS X st (tS z Wx gNever) := ⟨fun pins s σ H D I h => pd_never h⟩
theorem pdss_never {st : List Stmt} : PSs X st (tS z Wx gNever) := ⟨fun pins s σ H D I h => pd_never h⟩
def fNever : FE := fun _ _ => none
theorem pde_never {e : Expr} : PE X e (tE z Wx fNever) := ⟨fun pins s σ H Q I ⟨_, _, _, _, _, _, hr, _⟩ => by cases hr⟩
/-- a new instance, still bare -/
theorem newIns {W : Wd} {M : Store} {H : Hp} {x dx : Addr} {c : Nat} (ok : StoreOk z W M H) (hx : H x = none) (hd : H dx = none) (ne : dx ≠ x) : Step z W H ⟨W.F, W.α ++ [x]⟩ (M ++ [some (.ins c [])]) (upd (upd H dx (.own x)) x (.ins (z.ca c) dx [])) := by
  have s1 : Step z W H W M (upd H dx (.own x)) := stepN ok (LamX.ExtN.of (same_upd hd)) (ok.tabs.ext (same_upd hd))
  exact s1.trans (newC s1.ok (by rw [upd_ne (Ne.symm ne)]; exact hx) ⟨dx, [], upd_same, by rw [upd_ne ne, upd_same], by simp, .nil⟩)
/-- o.m(e, ..) -/
def fMeth (c0 : Nat) (m : Str) (n : Nat) (ff : FF) (fo : FE) (fa : FA) : FE := fun ρ M => bnd (fo ρ M) fun x M1 => match insFs [c0] x M1 with
  | some fs => if fs.lookup m = none then bnd (fa ρ M1) fun xs M2 => if xs.length + 1 = n then ff (x :: xs) M2 else none else none
  | none => none
theorem po_call {W W1 : Wd} {M1 : Store} {H H1 : Hp} {r : Sum Xn E × Store} {Q : VK} {Xq : XK} (s : Step z W H W1 M1 H1) (po : Post z W H r Q Xq) : Post z W1 H1 r Q Xq := by
  obtain ⟨rr, M'⟩ := r
  cases rr with
  | inl x => exact fun W' H' c d t q => po W' H' c d (s.trans t) q
  | inr v => exact fun W' H' v t q => po W' H' v (s.trans t) q
theorem te_meth {c0 n : Nat} {m : Str} {ff : FF} {fo : FE} {fa : FA} {σ : L2.St} {H : Hp} {Q : VK} (h : tE z Wx (fMeth c0 m n ff fo fa) σ H Q) :
    tE z Wx fo σ H fun x H1 => ∃ a dx fs, x = .ref a ∧ H1 a = some (.ins (z.ca c0) dx fs) ∧ fs.lookup m = none ∧ tA z Wx fa σ H1 fun vs H2 => spD z n ff (x :: vs) H2 Q (WE Wx σ) := by
  obtain ⟨W, M, ρ, ok, env, r, hr2, po⟩ := h
  refine seqE ok env hr2 po.exc fun e1 M1 W1 H1 v1 s1 q1 hr1 => ?_
  split at hr1
  · rename_i fs hf
    obtain ⟨a, dx, c, vs, rfl, h1, h2, h5⟩ := ins_fs s1.ok q1 hf
    rw [List.mem_singleton.mp h2] at h1
    split at hr1
    · rename_i hl
      refine ⟨a, dx, vs, rfl, h1, ref_none h5 hl, seqA s1.ok (env.w s1.w) hr1 (po.exc.step s1) fun es M2 W2 H2 vs2 s2 q2 hr3 => ?_⟩
      split at hr3
      · rename_i hn
        exact ⟨W2, M2, e1 :: es, s2.ok, .cons (s2.w.re q1) q2, hn, r, hr3, po_call (s1.trans s2) po⟩
      · cases hr3
    · cases hr1
  · cases hr1
theorem pd_meth {j k : Nat} {f : Addr} {ps : List Str} {n c0 : Nat} {ff : FF} {m : Str} {o e : Expr} {es : List Expr} {fo : FE} {fa : FA} {apos pos : Pos} {pl : Sem Bool} (G : FnR z X.mg X.base j f ps n ff) (F : Fits X z) (hr : Room k X.A) (tk : Takes X Wx) (c : Cls z.K (z.ca c0)) (hm : Meth z.K (z.ca c0) m f) (ho : PE X o (tE z Wx fo)) (ha : PA X (e :: es) (tA z Wx fa)) (hjk : j ≤ k := by decide)
    (hst : starEach (e :: es) X.env = (false, eval e X.env) :: starEach es X.env := by rfl) (hpl : (backTo pos (starEach es X.env)).any (·.1) = false := by rfl)
    (ht : eval (.Call (.Attribute o m apos) (e :: es) [] pos) X.env = (do let ov ← eval o X.env; standAt apos.atName; let (f, first) ← holding [ov] (getMethod ov m pl); callWith pos f first (backTo pos (starEach (e :: es) X.env)) (backToKw pos (keywordEach [] X.env))) := by rfl) :
    PE X (.Call (.Attribute o m apos) (e :: es) [] pos) (tE z Wx (fMeth c0 m n ff fo fa)) := by
  obtain ⟨fd, G1, G2, G3⟩ := G
  rw [F.prog, F.w, F.K] at G1
  rw [F.K] at G2 G3 c hm
  refine ⟨fun pins s σ H Q I h0 => ?_⟩
  refine PySem.W.methodCall_KW (pl := pl) (thn (ho.run pins s σ H _ I (te_meth h0)) fun u s1 ⟨x, H1, I1, rx, a, dx, fs, ex, ea, l, q⟩ => ?_) ht
  subst ex
  obtain rfl : u = Value.ref a := rx
  refine getmeth_ok I1 ea c hm l (PySem.W.callWith_K (first := [.ref a]) (h₀ := X.base) I.ok.mod.kin hm.kp (thn (ha.run pos pins s1 σ H1 _ I1 q) fun us s2 ⟨vs, H2, I2, r, q2⟩ => ⟨I2.kIn, ?_⟩) hst hpl)
  exact run_fnSD (us := .ref a :: us) (vs := .ref a :: vs) (ds := []) (dvs := []) G1 (hr.mono hjk) G3 .nil (passAt tk σ) I2 (.cons rfl r) (by rw [List.append_nil]; exact q2)
theorem pd_meth0 {j k : Nat} {f : Addr} {ps : List Str} {n c0 : Nat} {ff : FF} {m : Str} {o : Expr} {fo : FE} {apos pos : Pos} {pl : Sem Bool} (G : FnR z X.mg X.base j f ps n ff) (F : Fits X z) (hr : Room k X.A) (tk : Takes X Wx) (c : Cls z.K (z.ca c0)) (hm : Meth z.K (z.ca c0) m f) (ho : PE X o (tE z Wx fo)) (hjk : j ≤ k := by decide)
    (ht : eval (.Call (.Attribute o m apos) [] [] pos) X.env = (do let ov ← eval o X.env; standAt apos.atName; let (f, first) ← holding [ov] (getMethod ov m pl); callWith pos f first (backTo pos (starEach [] X.env)) (backToKw pos (keywordEach [] X.env))) := by rfl) :
    PE X (.Call (.Attribute o m apos) [] [] pos) (tE z Wx (fMeth c0 m n ff fo fNil)) := by
  obtain ⟨fd, G1, G2, G3⟩ := G
  rw [F.prog, F.w, F.K] at G1
  rw [F.K] at G2 G3 c hm
  refine ⟨fun pins s σ H Q I h0 => ?_⟩
  refine PySem.W.methodCall_KW (pl := pl) (thn (ho.run pins s σ H _ I (te_meth h0)) fun u s1 ⟨x, H1, I1, rx, a, dx, fs, ex, ea, l, q⟩ => ?_) ht
  subst ex
  obtain rfl : u = Value.ref a := rx
  refine getmeth_ok I1 ea c hm l (PySem.W.callWith_K0 (first := [.ref a]) I1.kIn hm.kp ?_)
  exact run_fnSD (us := [.ref a]) (vs := [.ref a]) (ds := []) (dvs := []) G1 (hr.mono hjk) G3 .nil (passAt tk σ) I1 (.cons rfl .nil) (by rw [List.append_nil]; exact ta_nil q)
def fMake (c0 np nk n : Nat) (ff : FF) (g : List E → List E → List E) (fa fk : FA) : FE := fun ρ M => bnd (fa ρ M) fun xs M1 => bnd (fk ρ M1) fun ks M2 => if xs.length = np ∧ ks.length = nk ∧ (g (.r M2.length :: xs) ks).length = n then match ff (g (.r M2.length :: xs) ks) (M2 ++ [some (.ins c0 [])]) with
    | some (.inr (.p .non), M3) => some (.inr (.r M2.length), M3)
    | some (.inl x, M3) => some (.inl x, M3)
    | _ => none
  else none
theorem re_non {W : Wd} {v : V} (h : RE z W v (.p .non)) : v = .non := by cases h with | p h => cases h; rfl
theorem te_make {c0 np nk n : Nat} {ff : FF} {g : List E → List E → List E} {gV : List V → List V → List V} {fa fk : FA} {σ : L2.St} {H : Hp} {Q : VK} (hg : ∀ W vs zs es ds, REs z W vs es → REs z W zs ds → REs z W (gV vs zs) (g es ds)) (h : tE z Wx (fMake c0 np nk n ff g fa fk) σ H Q) :
    tMakeK (z.ca c0) np nk (spD z n ff) gV (WE Wx σ) (tA z Wx fa) (tA z Wx fk) σ H Q := by
  obtain ⟨W, M, ρ, ok, env, r, hr, po⟩ := h
  refine seqA ok env hr po.exc fun es M1 W1 H1 vs s1 q1 hr1 => seqA s1.ok (env.w s1.w) hr1 (po.exc.step s1) fun ks M2 W2 H2 zs s2 q2 hr2 => ?_
  split at hr2
  · rename_i hl
    refine ⟨(res_len q1).trans hl.1, (res_len q2).trans hl.2.1, fun x dx hx hd ne => ?_⟩
    have st := newIns (c := c0) s2.ok hx hd ne
    have hW : (W2.α ++ [x])[M2.length]? = some x := by rw [s2.ok.len, List.getElem?_append_right (Nat.le_refl _)]; simp
    refine ⟨_, _, g (.r M2.length :: es) ks, st.ok, hg _ _ _ _ _ (.cons (.r hW) (st.w.res (s2.w.res q1))) (st.w.res q2), hl.2.2, ?_⟩
    split at hr2
    · rename_i M3 e
      cases hr2
      exact ⟨_, e, fun W' H' v t q => ⟨re_non q, po _ _ _ (((s1.trans s2).trans st).trans t) (.r (t.w.at hW))⟩⟩
    · rename_i y M3 e
      cases hr2
      exact ⟨_, e, fun W' H' c d t q => po _ _ _ _ (((s1.trans s2).trans st).trans t) q⟩
    · cases hr2
  · cases hr2
theorem run_makeS {E : St → XK} {k n : Nat} {f C : Addr} {fd : FuncData} {ps ks : List Str} {sp : Sp} {g : List Value → List Value → List Value} {gV : List V → List V → List V} {pins : List (Addr × Obj)} {σ : L2.St} {H : Hp} {s : Shared} {Q : VK} {us ws : List Value} {vs zs : List V} (M : Mk X.K C f)
    (F : FnOk X.prog X.w X.K X.mg X.base (L2.CX X.prog X.w) k f fd ps sp) (hr : Room (k + 1) X.A) (hb : KBn X.K fd ps (n + 1) ks g gV) (hx : PassesAt (L2.CX X.prog X.w) X σ (E σ)) (I : Inv X pins σ H s) (r : Vals vs us) (rz : Vals zs ws) (l1 : vs.length = n) (l2 : zs.length = ks.length)
    (h : ∀ x dx, H x = none → H dx = none → dx ≠ x → sp (gV (.ref x :: vs) zs) (upd (upd H dx (.own x)) x (.ins C dx [])) (fun v H2 => v = .non ∧ Q (.ref x) H2) (E σ)) : wpAny (model X.prog X.w) X.A (call (.ref C) us (ks.zip ws)) (EP X pins σ Q) X.xe s := by
  have fr1 : H (s.heap.objs.size + 1) = none := I.hok.fresh (Nat.le_add_right _ 1)
  have fr0 : H s.heap.objs.size = none := I.hok.fresh (Nat.le_of_eq rfl)
  have hq := h _ _ fr1 fr0 (Nat.ne_of_lt (Nat.lt_add_one _))
  have J := Inv.made (C := C) I
  have rs := hb.rel (Paired.cons (show RelV (V.ref (s.heap.objs.size + 1)) (Value.ref (s.heap.objs.size + 1)) from rfl) r) rz
  have lu : (Value.ref (s.heap.objs.size + 1) :: us).length = n + 1 := congrArg (· + 1) (r.length.symm.trans l1)
  have run := F.run _ X.stack _ _ ⟨Value.ref (s.heap.objs.size + 1) :: us, ks.zip ws⟩ _ _ _ (E σ) (hr.make C us (ks.zip ws)) (J.env0.make C us (ks.zip ws)) (hb.to _ (Value.ref (s.heap.objs.size + 1) :: us) ws J.kIn lu (rz.length.symm.trans l2)) rs hq
  refine wpAny_call (make_map (f := f) I.kIn M.makes M.init (beq_iff_eq.mp M.fn) (codeAny_mono run fun o s' ho => ?_))
  match o, ho with
  | .error er, ho => exact hx pins _ _ er s' J ho
  | .ok (.ret u), ho =>
    obtain ⟨v, H', J2, rv, ev, q3⟩ := J.after ho
    subst ev
    exact ⟨rv, V.ref (s.heap.objs.size + 1), H', J2, rfl, q3⟩
/-- a class of the text whose instances are made: its __init__ judged -/
def MkR (z : Bz) (mg : Str → Option Value) (base : Heap) (k c0 np n : Nat) (ks : List Str) (ff : FF) (g : List E → List E → List E) : Prop := ∃ f fd ps gv gV, Mk z.K (z.ca c0) f ∧ FnOk z.prog z.w z.K mg base (L2.CX z.prog z.w) k f fd ps (spD z n ff) ∧
  KBn z.K fd ps (np + 1) ks gv gV ∧ ∀ W vs zs es ds, REs z W vs es → REs z W zs ds → REs z W (gV vs zs) (g es ds)
theorem pd_make {j k c0 np n : Nat} {ks : List Str} {ff : FF} {g : List E → List E → List E} {x : Str} {p pos : Pos} {e : Expr} {es : List Expr} {kws : List Keyword} {fa fk : FA} (G : MkR z X.mg X.base j c0 np n ks ff g) (F : Fits X z) (hr : Room (k + 1) X.A) (tk : Takes X Wx) (hm : X.mg x = some (.ref (z.ca c0)))
    (ha : PA X (e :: es) (tA z Wx fa)) (hkw : PK X kws (tA z Wx fk)) (hg : Gl X x := by rfl) (hjk : j ≤ k := by decide) (hall : (backToKw pos (keywordEach kws X.env)).all (·.1.isSome) = true := by rfl) (hks : (backToKw pos (keywordEach kws X.env)).filterMap (·.1) = ks := by rfl) (hdb : (x == ("__debug__" : Str)) = false := by decide)
    (he : starEach (e :: es) X.env = (false, eval e X.env) :: starEach es X.env := by rfl) (hpl : ((backTo pos (starEach (e :: es) X.env)).any (·.1) || (backToKw pos (keywordEach kws X.env)).any (·.1.isNone)) = false := by rfl) :
    PE X (.Call (.Name x p) (e :: es) kws pos) (tE z Wx (fMake c0 np ks.length n ff g fa fk)) := by
  obtain ⟨f, fd, ps, gv, gV, M, G1, G2, hrel⟩ := G
  rw [F.K] at M G2
  rw [F.prog, F.w, F.K] at G1
  refine ⟨fun pins s σ H Q I h => ?_⟩
  refine wpAny_Call_Name_kw (ld_glob I hg hm (PySem.W.callWith_KW (h₀ := X.base) I.ok.mod.kin M.kp hall (thn (ha.run pos pins s σ H _ I (te_make hrel h)) fun us s1 ⟨vs, H1, I1, r, q⟩ => ?_) hpl he) hdb)
  refine thn (hkw.run pos pins s1 σ H1 _ I1 q) fun ws s2 ⟨zs, H2, I2, rz, l1, l2, q2⟩ => ⟨I2.kIn, ?_⟩
  rw [hks]
  exact run_makeS (E := WE Wx) M G1 (hr.mono (by omega)) G2 (passAt tk σ) I2 r rz l1 l2 q2
end
end Pl

-- PL21
namespace Pl
open PySem PySem.Spec L2

section
variable {X : Cx} {z : Bz} {Wx : WX}
/-- the dict that an expression gives -/
def selE (f : FE) (ρ : Env) (M : Store) : Option Nat := match f ρ M with
  | some (.inr (.r k), _) => some k
  | _ => none
/-- the dict of that cell is locked while e runs (another thing: not) -/
def fLock (sel : Env → Store → Option Nat) (f : FE) : FE := fun ρ M => match sel ρ M with
  | some k => match M[k]? with
    | some (some (.dic es)) => match f ρ (M.set k (some (.lck es))) with
      | some (.inr e, M2) => match M2[k]? with
        | some (some (.lck _)) => some (.inr e, M2.set k (some (.dic es)))
        | _ => none
      | _ => none
    | _ => f ρ M
  | none => f ρ M
theorem lock_ok {W : Wd} {M : Store} {H : Hp} {k : Nat} {a : Addr} {es : List (Key × E)} {vs : List (Key × V)} (ok : StoreOk z W M H) (hk : M[k]? = some (some (.dic es))) (ha : W.α[k]? = some a) (h : H a = some (.dK vs)) (hl : vs.length ≤ sizeLine) (r : REk z W vs es) (od : Obj) :
    Step z W H W (M.set k (some (.lck es))) (upd H a (.frz od (.dK vs))) := setC ok hk ha (fun dx q => by cases q) (fun dx q => by rw [h] at q; cases q) ⟨od, vs, upd_same, hl, r⟩
theorem unlock_ok {W W' : Wd} {M M2 : Store} {H H' : Hp} {k : Nat} {a : Addr} {es es' : List (Key × E)} {vs : List (Key × V)} {od : Obj} (ok : StoreOk z W M H) (hk : M[k]? = some (some (.dic es))) (ha : W.α[k]? = some a) (h : H a = some (.dK vs)) (hl : vs.length ≤ sizeLine) (r : REk z W vs es)
    (s : Step z W (upd H a (.frz od (.dK vs))) W' M2 H') (hk2 : M2[k]? = some (some (.lck es'))) : H' a = some (.frz od (.dK vs)) ∧ Step z W H W' (M2.set k (some (.dic es))) (upd H' a (.dK vs)) := by
  have t := (lock_ok ok hk ha h hl r od).trans s
  have e := s.frz a od _ upd_same
  obtain ⟨_, am, Fa, ok'⟩ := setOk t.ok hk2 (t.w.at ha) (c' := .dic es) (o := .dK vs) (fun dx q => by cases q) (fun dx q => by rw [e] at q; cases q) ⟨vs, upd_same, hl, t.w.rek r⟩
  refine ⟨e, t.ext, t.pre, ok', t.fnew, fun b u q hb ht => ?_, fun b od' u q => ?_⟩
  · rw [upd_ne (show b ≠ a from fun e => hb (e ▸ List.mem_of_getElem? ha))]; exact t.keep b u q hb ht
  · rw [upd_ne (show b ≠ a from fun e => by rw [e, h] at q; cases q)]; exact t.frz b od' u q
theorem pd_lock {sel : Env → Store → Option Nat} {f : FE} {e : Expr} (h : PE X e (tE z Wx f)) : PE X e (tE z Wx (fLock sel f)) := by
  refine ⟨fun pins s σ H Q I ⟨W, M, ρ, ok, env, r, hr, po⟩ => ?_⟩
  unfold fLock at hr
  split at hr
  · rename_i k hs
    split at hr
    · rename_i es hk
      split at hr
      · rename_i e' M2 hf
        split at hr
        · rename_i es' hk2
          cases hr
          obtain ⟨a, ha, _, vs, hv, hl, rv⟩ := ok.cell _ _ hk
          refine (pe_lock h).run pins s σ H Q I ⟨a, .dK vs, hv, True.intro, fun od => ?_⟩
          have st := lock_ok ok hk ha hv hl rv od
          refine ⟨W, _, ρ, st.ok, env, _, hf, fun W' H' v t q => ?_⟩
          obtain ⟨e1, e2⟩ := unlock_ok ok hk ha hv hl rv t hk2
          exact ⟨e1, po W' _ v e2 q⟩
        · cases hr
      · cases hr
    · exact h.run pins s σ H Q I ⟨W, M, ρ, ok, env, r, hr, po⟩
  · exact h.run pins s σ H Q I ⟨W, M, ρ, ok, env, r, hr, po⟩
def lckOf (M : Store) : E → Option (List (Key × E))
  | .r k => match M[k]? with
    | some (some (.lck es)) => some es
    | _ => none
  | _ => none
theorem lck_at {W : Wd} {M : Store} {H : Hp} {v : V} {e : E} {es : List (Key × E)} (ok : StoreOk z W M H) (r : RE z W v e) (h : lckOf M e = some es) : ∃ a od vs, v = .ref a ∧ H a = some (.frz od (.dK vs)) ∧ REk z W vs es := by
  unfold lckOf at h
  split at h
  · split at h
    · rename_i hM
      cases h
      cases r with | r ha =>
      obtain ⟨b, e1, _, od, vs, e3, _, e5⟩ := ok.cell _ _ hM
      rw [ha] at e1; cases e1
      exact ⟨_, od, vs, rfl, e3, e5⟩
    · cases h
  · cases h
def keyPairs : List (Key × E) → Option (List E)
  | [] => some []
  | (k, .p d) :: r => match keyPairs r with
    | some l => some (.p (.tup [kD k, d]) :: l)
    | none => none
  | _ => none
theorem keyPairs_at : ∀ {es : List (Key × E)} {ps : List E}, keyPairs es = some ps → ps.length = es.length ∧ ∀ (i : Nat) (e : E), ps[i]? = some e → ∃ k d, es[i]? = some (k, .p d) ∧ e = .p (.tup [kD k, d])
  | [], ps, h => by cases h; exact ⟨rfl, fun i e q => by simp at q⟩
  | (k, .p d) :: r, ps, h => by
    unfold keyPairs at h
    split at h
    · rename_i l hl
      cases h
      obtain ⟨h1, h2⟩ := keyPairs_at hl
      refine ⟨by simp [h1], fun i e q => ?_⟩
      cases i with
      | zero => cases q; exact ⟨k, d, rfl, rfl⟩
      | succ i => exact h2 i e q
    · cases h
  | (k, .r _) :: r, ps, h => by cases h
  | (k, .fn ..) :: r, ps, h => by cases h
def gKeysC (M : Store) (e : E) : Option It0 := match lckOf M e with
  | some es => some (fixIt (es.map fun p => .p (kD p.1)))
  | none => none
def gValsC (M : Store) (e : E) : Option It0 := match lckOf M e with
  | some es => some (fixIt (es.map (·.2)))
  | none => none
def gItemsC (M : Store) (e : E) : Option It0 := match lckOf M e with
  | some es => match keyPairs es with
    | some ps => some (fixIt ps)
    | none => none
  | none => none
def fItM (g : Store → E → Option It0) (fa : FE) : FI := fun ρ M => bnd (fa ρ M) fun e M1 => match g M1 e with
  | some t => some (.inr t, M1)
  | none => none
theorem ti_M {fa : FE} {g : Store → E → Option It0} {σ : L2.St} {H : Hp} {R : It → Hp → Prop} {Q : VK} (h : tI z Wx (fItM g fa) σ H R)
    (w : ∀ (W : Wd) (M : Store) (H : Hp) (v : V) (e : E) (t : It0), StoreOk z W M H → RE z W v e → g M e = some t → (∀ J, ItOk z W H J t → R J H) → Q v H) : tE z Wx fa σ H Q := by
  obtain ⟨W, M, ρ, ok, env, r, hr, po⟩ := h
  refine seqE ok env hr po.exc fun e M1 W1 H1 v s1 q1 hr1 => ?_
  split at hr1
  · rename_i t ht
    cases hr1
    exact w W1 M1 H1 v e t s1.ok q1 ht fun J it => po W1 H1 J s1 it
  · cases hr1
theorem itOk_lck {W : Wd} {M : Store} {H : Hp} {a : Addr} {od : Obj} {vs : List (Key × V)} {es : List (Key × E)} (h1 : H a = some (.frz od (.dK vs))) (h3 : REk z W vs es) :
    ItOk z W H (Itk a od vs) (fixIt (es.map fun p => .p (kD p.1))) ∧ ItOk z W H (Itd a od vs) (fixIt (es.map (·.2))) ∧ ∀ ps, keyPairs es = some ps → ItOk z W H (Iti a od vs) (fixIt ps) := by
  have len : vs.length = es.length := PySem.Paired.length h3
  refine ⟨fun W2 M2 H2 s2 => ?_, fun W2 M2 H2 s2 => ?_, fun ps hp W2 M2 H2 s2 => ?_⟩
  · have hf := s2.frz _ _ _ h1
    refine ⟨fun i e hi he => ?_, fun _ => ⟨hf, by simp [fixIt, len]⟩⟩
    have hi' : i < vs.length := by simpa [fixIt, len] using hi
    refine ⟨⟨hf, hi'⟩, fun y H'' ⟨eH, k, v, hk, ey⟩ => ?_⟩
    subst eH ey
    have he : (es.map fun p => E.p (kD p.1))[i]? = some e := he
    rw [List.getElem?_map] at he
    cases q : es[i]? with
    | none => rw [q] at he; cases he
    | some p =>
      rw [q] at he
      cases he
      obtain ⟨v', h4, h5, _⟩ := paired_get h3 q
      rw [hk] at h4
      cases h4
      obtain ⟨k2, e2⟩ := p
      have h5 : k = k2 := h5
      subst h5
      exact ⟨W2, .refl s2.ok, .p (rv_key _)⟩
  · have hf := s2.frz _ _ _ h1
    refine ⟨fun i e hi he => ?_, fun _ => ⟨hf, by simp [fixIt, len]⟩⟩
    have hi' : i < vs.length := by simpa [fixIt, len] using hi
    refine ⟨⟨hf, hi'⟩, fun y H'' ⟨eH, k, hk⟩ => ?_⟩
    subst eH
    have he : (es.map (·.2))[i]? = some e := he
    rw [List.getElem?_map] at he
    cases q : es[i]? with
    | none => rw [q] at he; cases he
    | some p =>
      rw [q] at he
      cases he
      obtain ⟨v', h4, _, h5⟩ := paired_get h3 q
      rw [hk] at h4
      cases h4
      exact ⟨W2, .refl s2.ok, s2.w.re h5⟩
  · have hf := s2.frz _ _ _ h1
    obtain ⟨hl, hat⟩ := keyPairs_at hp
    refine ⟨fun i e hi he => ?_, fun _ => ⟨hf, by simp [fixIt, len, hl]⟩⟩
    have hi' : i < vs.length := by simpa [fixIt, len, hl] using hi
    refine ⟨⟨hf, hi'⟩, fun y H'' ⟨T, k, v, hk, ey, hT, eH⟩ => ?_⟩
    subst ey eH
    obtain ⟨k2, d, q, rfl⟩ := hat i e he
    obtain ⟨v', h4, h5, h6⟩ := paired_get h3 q
    rw [hk] at h4
    cases h4
    have h5 : k = k2 := h5
    subst h5
    cases h6 with | p h6 =>
    exact new_pair s2.ok hT (rv_key _) (h6.ext (Ext.of s2.ext))
theorem pdi_keysC {tg e : Expr} {fa : FE} (he : PE X e (tE z Wx fa)) : PI X tg e (tI z Wx (fItM gKeysC fa)) := pi_of (pi_keys he) fun σ H R h => ti_M h fun W M H v e t ok q1 ht po => by
  unfold gKeysC at ht
  split at ht
  · rename_i es hl
    cases ht
    obtain ⟨a, od, vs, rfl, h1, h3⟩ := lck_at ok q1 hl
    exact ⟨a, od, rfl, .inl ⟨vs, h1, po _ (itOk_lck (M := M) h1 h3).1⟩⟩
  · cases ht
theorem pdi_valsC {tg e : Expr} {fa : FE} {apos cpos : Pos} (he : PE X e (tE z Wx fa)) (hbase : attributeBase e "values" X.env (eval e X.env) = eval e X.env := by rfl) (hline : (apos.endLine == cpos.line) = true := by rfl) : PI X tg (.Call (.Attribute e "values" apos) [] [] cpos) (tI z Wx (fItM gValsC fa)) :=
  pi_of (pi_values he hbase hline) fun σ H R h => ti_M h fun W M H v e t ok q1 ht po => by
    unfold gValsC at ht
    split at ht
    · rename_i es hl
      cases ht
      obtain ⟨a, od, vs, rfl, h1, h3⟩ := lck_at ok q1 hl
      exact ⟨a, od, vs, rfl, h1, po _ (itOk_lck (M := M) h1 h3).2.1⟩
    · cases ht
theorem pdi_itemsC {e : Expr} {fa : FE} {apos cpos tpos : Pos} {elts : List Expr} {kk : Nat} (he : PE X e (tE z Wx fa)) (hbase : attributeBase e "items" X.env (eval e X.env) = eval e X.env := by rfl) (hline : (apos.endLine == cpos.line) = true := by rfl) :
    PI X (.Tuple elts kk tpos) (.Call (.Attribute e "items" apos) [] [] cpos) (tI z Wx (fItM gItemsC fa)) :=
  pi_of (pi_items he hbase hline) fun σ H R h => ti_M h fun W M H v e t ok q1 ht po => by
    unfold gItemsC at ht
    split at ht
    · rename_i es hl
      split at ht
      · rename_i ps hps
        cases ht
        obtain ⟨a, od, vs, rfl, h1, h3⟩ := lck_at ok q1 hl
        exact ⟨a, od, vs, rfl, h1, po _ ((itOk_lck (M := M) h1 h3).2.2 ps hps)⟩
      · cases ht
    · cases ht
end
end Pl

-- PL22
namespace Pl
open PySem PySem.Spec L2

theorem any_setD {α : Type} (j k : Key) (x : α) : ∀ r : List (Key × α), ((setD r j x).any fun p => decide (p.1 = k)) = ((r.any fun p => decide (p.1 = k)) || decide (j = k))
  | [] => by simp [setD]
  | (k2, v) :: r => by
    unfold setD
    by_cases e : k2 = j
    · rw [if_pos e]
      subst e
      simp only [List.any_cons]
      cases decide (k2 = k) <;> simp
    · rw [if_neg e]
      simp only [List.any_cons, any_setD j k x r, Bool.or_assoc]
theorem keysOk_setD {α : Type} (j : Key) (x : α) : ∀ {r : List (Key × α)}, keysOk r = true → keysOk (setD r j x) = true
  | [], _ => rfl
  | (k, v) :: r, h => by
    unfold keysOk at h
    rw [Bool.and_eq_true] at h
    unfold setD
    by_cases e : k = j
    · rw [if_pos e]
      unfold keysOk
      rw [Bool.and_eq_true]
      exact h
    · rw [if_neg e]
      unfold keysOk
      rw [Bool.and_eq_true, any_setD]
      refine ⟨?_, keysOk_setD j x h.2⟩
      have h1 := h.1
      cases q : (r.any fun p => decide (p.1 = k)) with
      | true => rw [q] at h1; cases h1
      | false =>
        have : decide (j = k) = false := decide_eq_false fun q => e q.symm
        rw [this]; rfl
def dcompN (t : It0) (tg : GT) (tt : FT) (fk fv : FE) : Nat → Nat → Env → Store → List (Key × E) → Option (List (Key × E) × Store)
  | 0, _, _, M, acc => if t.fin M = true then some (acc, M) else none
  | n + 1, i, ρ, M, acc => match t.get i M with
    | none => none
    | some e => match tg e ρ M with
      | some (.inr ρ1, M1) => match tt ρ1 M1 with
        | some (.inr true, M2) => match fk ρ1 M2 with
          | some (.inr y, M3) => match fv ρ1 M3 with
            | some (.inr v, M4) => match asKey y with
              | some k => dcompN t tg tt fk fv n (i + 1) ρ M4 (setD acc k v)
              | none => none
            | _ => none
          | _ => none
        | some (.inr false, M2) => dcompN t tg tt fk fv n (i + 1) ρ M2 acc
        | _ => none
      | _ => none
/-- {k: v for ..}: a new dict (a cell) -/
def fDComp (vs : List Nat) (fi : FI) (tg : GT) (tt : FT) (fk fv : FE) : FE := fun ρ M => bnd (fi ρ M) fun t M1 => if t.n ≤ 16777216 then match dcompN t tg tt fk fv t.n 0 (wipeE ρ vs) M1 [] with
    | some (es, M2) => some (.inr (.r M2.length), M2 ++ [some (.dic es)])
    | none => none
  else none
section
variable {X : Cx} {z : Bz} {Wx : WX} {tg iter kx vx : Expr}
theorem adoptDic {W W' : Wd} {M' : Store} {H H' : Hp} {D : Addr} {es : List (Key × E)} {vs : List (Key × V)} (s : Step z W H W' M' H') (hn : H D = none) (hF : W'.F D = none) (hα : D ∉ W'.α) (h : H' D = some (.dK vs)) (hl : vs.length ≤ sizeLine) (r : REk z W' vs es) :
    Step z W H ⟨W'.F, W'.α ++ [D]⟩ (M' ++ [some (.dic es)]) H' ∧ (W'.α ++ [D])[M'.length]? = some D := by
  refine ⟨s.adoptC hn hF hα (by rw [h]; exact fun z => by cases z) ⟨vs, h, hl, ?_⟩ (odd_dK h), ?_⟩
  · exact WExt.rek (W := W') (W' := ⟨W'.F, W'.α ++ [D]⟩) ⟨.of (.refl _), [D], rfl⟩ r
  · rw [s.ok.len, List.getElem?_append_right (Nat.le_refl _)]
    simp
theorem te_dcomp {us vs : List Nat} {fi : FI} {gt : GT} {tt : FT} {fk fv : FE} {σ : L2.St} {H : Hp} {Q : VK} (hu : ∀ i ∈ us, i ∈ vs) (h : tE z Wx (fDComp vs fi gt tt fk fv) σ H Q) : tDc (tI z Wx fi) (tG z us gt) (tT z W0 tt) (tE z W0 fk) (tE z W0 fv) vs σ H Q := by
  obtain ⟨W, M, ρ, ok, env, r, hr, po⟩ := h
  rcases bnd_some hr with ⟨x, M1, e1, e2⟩ | ⟨t, M1, e1, hr1⟩
  · subst e2
    exact ⟨W, M, ρ, ok, env, _, e1, fun W' H' c d s q => po W' H' c d s q⟩
  refine ⟨W, M, ρ, ok, env, _, e1, fun W1 H1 J s1 it D hD => ?_⟩
  split at hr1
  rotate_left
  · cases hr1
  rename_i hlim
  split at hr1
  rotate_left
  · cases hr1
  rename_i es Mf hc
  cases hr1
  have env1 := envOk_wipe (env.w s1.w) vs
  refine ⟨fun i k H' => i + k = t.n ∧ ∃ W' M' acc accE, Step z W1 H1 W' M' H' ∧ W'.F D = none ∧ D ∉ W'.α ∧ H' D = some (.dK acc) ∧ REk z W' acc accE ∧ keysOk accE = true ∧ accE.length ≤ i ∧ dcompN t gt tt fk fv k i (wipeE ρ vs) M' accE = some (es, Mf),
    ⟨t.n, by omega, W1, M1, [], [], ?_, s1.ok.none_F hD, s1.ok.notin hD, upd_same, .nil, rfl, Nat.zero_le _, hc⟩, ?_⟩
  · exact (Step.refl s1.ok).side hD (s1.ok.none_F hD) (s1.ok.notin hD) (fun a q => by rw [hD] at q; cases q) ⟨fun ps q => by (rw [hD] at q; cases q), fun c q e => by (rw [hD] at e; cases e)⟩
  rintro i k H' ⟨hk, W', M', acc, accE, s, hF, hα, hA, rA, kA, lA, hr'⟩
  have env' := env1.w s.w
  have lacc : acc.length ≤ i := by rw [PySem.Paired.length rA]; exact lA
  cases k with
  | zero =>
    unfold dcompN at hr'
    split at hr'
    · rename_i hf
      cases hr'
      have : i = t.n := by omega
      subst this
      have hl : acc.length ≤ sizeLine := by rw [sizeLine_eq]; omega
      obtain ⟨a1, a2⟩ := adoptDic s hD hF hα hA hl rA
      exact .inl ⟨(it _ _ _ s.lat).2 hf, po _ _ _ (s1.trans a1) (.r a2)⟩
    · cases hr'
  | succ k =>
    unfold dcompN at hr'
    split at hr'
    · cases hr'
    rename_i x hx
    obtain ⟨go, yl⟩ := (it _ _ _ s.lat).1 i x (by omega) hx
    refine .inr ⟨go, fun H2 => ∃ W2 M2 acc accE, Step z W1 H1 W2 M2 H2 ∧ W2.F D = none ∧ D ∉ W2.α ∧ H2 D = some (.dK acc) ∧ REk z W2 acc accE ∧ keysOk accE = true ∧ accE.length ≤ i + 1 ∧ dcompN t gt tt fk fv k (i + 1) (wipeE ρ vs) M2 accE = some (es, Mf), fun H2 h => ⟨k, Nat.lt_succ_self _, by omega, h⟩, fun y H'' yy => ?_⟩
    obtain ⟨W'', sy, rx⟩ := yl y H'' yy
    split at hr'
    rotate_left
    · cases hr'
    rename_i ρ1 M2 e2
    refine ⟨W'', M', _, x, sy.ok, env'.w sy.w, rx, _, e2, fun W3 H3 σ3 s3 q3 o3 => ⟨wipe_off o3 hu, ?_⟩⟩
    have b1 := sy.beside hF hα hA
    have b2 := s3.beside b1.1 b1.2.1 b1.2.2
    have s03 := (s.trans sy).trans s3
    split at hr'
    · rename_i M3 e3
      refine ⟨W3, M2, ρ1, s3.ok, q3, _, e3, fun W4 H4 s4 => iteT ?_⟩
      have b3 := s4.beside b2.1 b2.2.1 b2.2.2
      split at hr'
      rotate_left
      · cases hr'
      rename_i yk M4 e4
      split at hr'
      rotate_left
      · cases hr'
      rename_i yv M5 e5
      split at hr'
      rotate_left
      · cases hr'
      rename_i key ek
      refine ⟨W4, M3, ρ1, s4.ok, q3.w s4.w, _, e4, fun W5 H5 v5 s5 q5 => ⟨W5, M4, ρ1, s5.ok, (q3.w s4.w).w s5.w, _, e5, fun W6 H6 v6 s6 q6 => ?_⟩⟩
      have b5 := s6.beside (s5.beside b3.1 b3.2.1 b3.2.2).1 (s5.beside b3.1 b3.2.1 b3.2.2).2.1 (s5.beside b3.1 b3.2.1 b3.2.2).2.2
      have s06 := ((s03.trans s4).trans s5).trans s6
      have rA6 := s6.w.rek (s5.w.rek (s4.w.rek (s3.w.rek (sy.w.rek rA))))
      have lk := setD_len key yv accE
      refine ⟨acc, key, asKey_ok q5 ek, b5.2.2, by rw [sizeLine_eq]; omega, W6, M5, putK acc key v6, setD accE key yv, s06.side hD b5.1 b5.2.1 (fun a q => by rw [b5.2.2] at q; cases q) ⟨fun ps q => by (rw [b5.2.2] at q; cases q), fun c q e => by (rw [b5.2.2] at e; unfold LamX.CodeO at e; cases e)⟩, b5.1, b5.2.1, upd_same, put_rel q6 rA6 kA, keysOk_setD key yv kA, by omega, hr'⟩
    · rename_i M3 e3
      refine ⟨W3, M2, ρ1, s3.ok, q3, _, e3, fun W4 H4 s4 => iteF ?_⟩
      have b3 := s4.beside b2.1 b2.2.1 b2.2.2
      exact ⟨W4, M3, acc, accE, s03.trans s4, b3.1, b3.2.1, b3.2.2, s4.w.rek (s3.w.rek (sy.w.rek rA)), kA, by omega, hr'⟩
    · cases hr'
theorem pd_dcomp {us : List Nat} {fi : FI} {gt : GT} {tt : FT} {fk fv : FE} {ifs : List Expr} {scope : Scope} {own : List (Str × Nat)} {pos : Pos} (hc : X.calm = true) (hN : X.N.Nodup) (hi : PI X tg iter (tI z Wx fi)) (ok : BlkOk X.N X.env.scope scope own)
    (hg : InB X scope fun Y => PG Y tg (tG z us gt)) (ht : InB X scope fun Y => PTs Y ifs (tT z W0 tt)) (hk : InB X scope fun Y => PE Y kx (tE z W0 fk)) (he : InB X scope fun Y => PE Y vx (tE z W0 fv)) (hu : ∀ i ∈ us, i ∈ own.map (·.2)) (hs : ∀ x, foldedSetIterable iter X.env x = pure x := by intro _; rfl) :
    PE X (.DictComp kx vx [⟨tg, iter, ifs, 0⟩] scope pos) (tE z Wx (fDComp (own.map (·.2)) fi gt tt fk fv)) := pe_of (pe_dc hc hN hi ok hg ht hk he hs) fun _ _ _ => te_dcomp hu
end
end Pl

-- PL23
namespace Pl
open PySem PySem.Spec L2

section
variable {X : Cx} {z : Bz} {Wx : WX}
def celDic (M : Store) : E → Option (List (Key × E))
  | .r k => match M[k]? with
    | some (some (.dic es)) => some es
    | _ => none
  | _ => none
theorem celDic_ok {W : Wd} {M : Store} {H : Hp} {v : V} {e : E} {es : List (Key × E)} (ok : StoreOk z W M H) (r : RE z W v e) (h : celDic M e = some es) : ∃ a vs, v = .ref a ∧ H a = some (.dK vs) ∧ vs.length ≤ sizeLine ∧ REk z W vs es := by
  unfold celDic at h
  split at h
  · split at h
    · rename_i hM
      cases h
      cases r with | r ha =>
      obtain ⟨b, e1, _, vs, e3, e4, e5⟩ := ok.cell _ _ hM
      rw [ha] at e1; cases e1
      exact ⟨_, vs, rfl, e3, e4, e5⟩
    · cases h
  · cases h
def keysE (es : List (Key × E)) : List E := es.map fun p => .p (kD p.1)
theorem rek_keysE {W : Wd} : ∀ {vs : List (Key × V)} {es : List (Key × E)}, REk z W vs es → REs z W (vs.map fun kv => kV kv.1) (keysE es)
  | _, _, .nil => .nil
  | (k, v) :: vs, (k2, e) :: es, .cons h t => by
    obtain ⟨h1, _⟩ := h
    have h1 : k = k2 := h1
    subst h1
    exact .cons (.p (rv_key k)) (rek_keysE t)
/-- list(d): the keys -/
def gKeysL (m : Bool) : GL := fun xs M => match xs with
  | [e] => match asDic M e with
    | some es => mkLst m (keysE es) M
    | none => none
  | _ => none
theorem cr_keysL (hc : X.calm = true) {m : Bool} : CallR X (.type "list") (rLD z (gKeysL m)) := callR_of (call_listD hc) fun xs H Q ⟨W, M, es, ok, r, e, M', hg, hq⟩ => by
  unfold gKeysL at hg
  split at hg
  · rename_i e0
    split at hg
    · rename_i ds hd
      cases r with | @cons v0 _ vs _ r0 rs =>
      cases rs
      obtain ⟨a, vs, rfl, h1, h2, h3⟩ := asDic_ok ok r0 hd
      exact ⟨a, vs, rfl, h1, fun q hn => mkLst_ok ok hg (rek_keysE h3) (by rw [List.length_map]; exact h2) hn hq⟩
    · cases hg
  · cases hg
/-- d.get(k, x) -/
def fDGet2 (fd fy fx : FE) : FE := fun ρ M => bnd (fd ρ M) fun d M1 => match asDic M1 d with
  | some _ => bnd (fy ρ M1) fun y M2 => bnd (fx ρ M2) fun x M3 => match asDic M3 d, asKey y with
    | some es, some k => some (.inr ((getD es k).getD x), M3)
    | _, _ => none
  | none => none
theorem pd_dget2 {fd fy fx : FE} {o e f : Expr} {apos cpos : Pos} (hu : X.A.units + 64 < cLine) (ho : PE X o (tE z Wx fd)) (he : PE X e (tE z Wx fy)) (hf : PE X f (tE z Wx fx)) (m : M2 X o "get" apos e f cpos) : PE X (.Call (.Attribute o "get" apos) [e, f] [] cpos) (tE z Wx (fDGet2 fd fy fx)) :=
  pe_of (pe_dget2 (by omega) ho he hf m) fun σ H Q ⟨W, M, ρ, ok, env, r, hr, po⟩ => by
    refine seqE ok env hr po.exc fun e1 M1 W1 H1 v1 s1 q1 hr1 => ?_
    split at hr1
    rotate_left
    · cases hr1
    rename_i es1 hd1
    obtain ⟨a, vs1, rfl, q3, _, _⟩ := asDic_ok s1.ok q1 hd1
    refine ⟨a, rfl, .inl ⟨vs1, q3⟩, seqE s1.ok (env.w s1.w) hr1 (po.exc.step s1) fun e2 M2 W2 H2 v2 s2 q2 hr2 => seqE s2.ok ((env.w s1.w).w s2.w) hr2 ((po.exc.step s1).step s2) fun e3 M3 W3 H3 v3 s3 q3 hr3 => ?_⟩
    split at hr3
    · rename_i es k h1 h2
      cases hr3
      obtain ⟨a', vs, ea, q4, _, q5⟩ := asDic_ok s3.ok (s3.w.re (s2.w.re q1)) h1
      cases ea
      refine ⟨valV vs k, .inl ⟨vs, k, q4, asKey_ok q2 h2, rfl⟩, po W3 H3 _ ((s1.trans s2).trans s3) ?_⟩
      cases hg : getD es k with
      | none => rw [(find_rel q5).1 hg]; exact q3
      | some y =>
        obtain ⟨v, e6, e7⟩ := (find_rel q5).2 _ hg
        rw [e6]; exact e7
    · cases hr3
end
end Pl

-- PL24
namespace Pl
open PySem PySem.Spec L2

def pairsEq (M : Store) (es2 : List (Key × E)) : List (Key × E) → Option Bool
  | [] => some true
  | (k, e) :: r => match getD es2 k with
    | none => some false
    | some y => match pyEq M e y, pairsEq M es2 r with
      | some b, some c => some (b && c)
      | _, _ => none
def dicEq (M : Store) (a b : E) : Option Bool := match asDic M a, asDic M b with
  | some x, some y => match pairsEq M y x with
    | some c => some (x.length == y.length && c)
    | none => none
  | _, _ => none
def gDicEq : G2 := fun a b M => gBl (dicEq M a b) M
def gDicNe : G2 := fun a b M => gBl ((dicEq M a b).map not) M
section
variable {X : Cx} {z : Bz}
theorem hits_of (F : Fits X z) (hu : X.A.units + 64 < cLine) {pins : List (Addr × Obj)} {s : Shared} {σ : L2.St} {H : Hp} {W : Wd} {M : Store} {kb : List (Key × V)} {vb : List (Key × Value)} {es2 : List (Key × E)} (I : Inv X pins σ H s) (ok : StoreOk z W M H) (rb : KV kb vb) (qb : REk z W kb es2) :
    ∀ {ka : List (Key × V)} {va : List (Key × Value)} {es : List (Key × E)} {r : Bool}, KV ka va → REk z W ka es → pairsEq M es2 es = some r → PySem.W.KeqHits X.A.in1 s vb va r
  | _, _, _, r, .nil, .nil, h => by cases h; exact .nil
  | (k, v) :: ka, (k1, u) :: va, (k2, e) :: es, r, .cons h1 t1, .cons h2 t2, h => by
    obtain ⟨h11, h12⟩ := h1
    obtain ⟨h21, h22⟩ := h2
    have h11 : k = k1 := h11
    have h21 : k = k2 := h21
    subst h11 h21
    unfold pairsEq at h
    have rl := rb.val k
    split at h
    · rename_i hg
      cases h
      rw [(find_rel qb).1 hg] at rl
      exact .miss rl.none_of
    · rename_i y hg
      obtain ⟨v2, e6, e7⟩ := (find_rel qb).2 _ hg
      rw [e6] at rl
      obtain ⟨u2, e8, e9⟩ := rl.some_of
      split at h
      · rename_i b c hb hc
        cases h
        refine .hit e8 ?_ (hits_of F hu I ok rb qb t1 t2 hc)
        unfold pyEq at hb
        split at hb
        · rename_i dx dy x1 x2
          split at hb
          · rename_i hd
            cases hb
            obtain ⟨as, r1⟩ := reads_of F I ok h22 h12 x1
            obtain ⟨bs, r2⟩ := reads_of F I ok e7 e9 x2
            exact PySem.SeqAt.eqAt_plain _ _ _ _ _ _ _ _ r1 r2 (toPyE_plain x1) (toPyE_plain x2) (by show X.A.units + 1 + min dx.depth dy.depth < cLine; omega)
          · cases hb
        · cases hb
      · cases h
theorem dicEq_split (F : Fits X z) (hu : X.A.units + 64 < cLine) {pins : List (Addr × Obj)} {s : Shared} {σ : L2.St} {H : Hp} {W : Wd} {M : Store} {x y : V} {v u : Value} {a b : E} {k : Bool} (I : Inv X pins σ H s) (ok : StoreOk z W M H) (ra : RE z W x a) (rb : RE z W y b) (rx : RelV x v) (ry : RelV y u) (h : dicEq M a b = some k) :
    ∃ p q va vb c, v = .ref p ∧ u = .ref q ∧ (p == sysModules) = false ∧ (q == sysModules) = false ∧ s.heap.DictOf (mixKind X.prog X.w) p va ∧ s.heap.DictOf (mixKind X.prog X.w) q vb ∧ PySem.W.KeqHits X.A.in1 s vb va c ∧ k = (va.length == vb.length && c) := by
  unfold dicEq at h
  split at h
  · rename_i ea eb h1 h2
    split at h
    · rename_i c hc
      cases h
      obtain ⟨p, ka, rfl, p1, _, p2⟩ := asDic_ok ok ra h1
      obtain ⟨q, kb, rfl, q1, _, q2⟩ := asDic_ok ok rb h2
      obtain rfl : v = Value.ref p := rx
      obtain rfl : u = Value.ref q := ry
      obtain ⟨_, p3, va, p4, p5⟩ := dk_rd I.hok p1
      obtain ⟨_, q3, vb, q4, q5⟩ := dk_rd I.hok q1
      have l1 : va.length = ea.length := (PySem.Paired.length (show Paired _ ka va from p4)).symm.trans (PySem.Paired.length p2)
      have l2 : vb.length = eb.length := (PySem.Paired.length (show Paired _ kb vb from q4)).symm.trans (PySem.Paired.length q2)
      exact ⟨p, q, va, vb, c, rfl, rfl, p3, q3, p5, q5, hits_of F hu I ok q4 q2 p4 p2 hc, by rw [l1, l2]⟩
    · cases h
  · cases h
theorem op_dicEq (F : Fits X z) (hu : X.A.units + 64 < cLine) : OpR X (compareOp .Eq) (r2D z gDicEq) := by
  refine op_bl (o := dicEq) F fun M a b k h pins s σ H W x y v u Q I ok ra rb rx ry q => ?_
  obtain ⟨p, q', va, vb, c, rfl, rfl, p3, q3, p5, q5, hits, rfl⟩ := dicEq_split F hu I ok ra rb rx ry h
  exact PySem.W.keq_eq p3 q3 p5 q5 (by omega) (fun _ => hits) (q s.toks)
theorem op_dicNe (F : Fits X z) (hu : X.A.units + 64 < cLine) : OpR X (compareOp .NotEq) (r2D z gDicNe) := by
  refine op_bl (o := fun M a b => (dicEq M a b).map not) F fun M a b k h pins s σ H W x y v u Q I ok ra rb rx ry q => ?_
  cases hd : dicEq M a b with
  | none => rw [hd] at h; cases h
  | some k' =>
    rw [hd] at h
    cases h
    obtain ⟨p, q', va, vb, c, rfl, rfl, p3, q3, p5, q5, hits, rfl⟩ := dicEq_split F hu I ok ra rb rx ry hd
    exact PySem.W.keq_ne p3 q3 p5 q5 (by omega) (fun _ => hits) (q s.toks)
end
end Pl

-- PL25
namespace Pl
open PySem PySem.Spec L2 PyProof.Rows

def leS (a b : Str) : Bool := !ltCps b.cps.toList a.cps.toList
theorem leS_iff (a b : Str) : leS a b = true ↔ a.cps.toList ≤ b.cps.toList := by
  unfold leS
  rw [ltCps_eq, Bool.not_eq_true', decide_eq_false_iff_not, List.not_lt]
theorem leS_anti {a b : Str} (h : leS a b = true) (k : leS b a = true) : a = b := by
  have e := List.le_antisymm ((leS_iff a b).mp h) ((leS_iff b a).mp k)
  cases a; cases b
  have e := Array.toList_inj.mp e
  have e : _ = _ := e
  simp only [Str.mk.injEq]
  exact e
theorem leS_trans {a b c : Str} (h : leS a b = true) (k : leS b c = true) : leS a c = true := (leS_iff a c).mpr (List.le_trans ((leS_iff a b).mp h) ((leS_iff b c).mp k))
theorem leS_total (a b : Str) : leS a b = true ∨ leS b a = true := (List.le_total a.cps.toList b.cps.toList).imp (leS_iff a b).mpr (leS_iff b a).mpr
theorem leS_refl (a : Str) : leS a a = true := (leS_total a a).elim id id
def insS (x : Str) : List Str → List Str
  | [] => [x]
  | y :: r => match leS x y with
    | true => x :: y :: r
    | false => y :: insS x r
def sortS : List Str → List Str
  | [] => []
  | x :: r => insS x (sortS r)
theorem insS_perm (x : Str) : ∀ l : List Str, (insS x l).Perm (x :: l)
  | [] => .refl _
  | y :: r => by
    unfold insS
    split
    · exact .refl _
    · exact ((insS_perm x r).cons y).trans (.swap x y r)
theorem sortS_perm : ∀ l : List Str, (sortS l).Perm l
  | [] => .refl _
  | x :: r => (insS_perm x (sortS r)).trans ((sortS_perm r).cons x)
abbrev UpS (l : List Str) : Prop := l.Pairwise fun a b => leS a b = true
theorem insS_up (x : Str) : ∀ {l : List Str}, UpS l → UpS (insS x l)
  | [], _ => List.pairwise_singleton _ _
  | y :: r, h => by
    obtain ⟨h1, h2⟩ := List.pairwise_cons.mp h
    unfold insS
    cases c : leS x y with
    | true => exact List.pairwise_cons.mpr ⟨fun b hb => by
        rcases List.mem_cons.mp hb with rfl | hb
        · exact c
        · exact leS_trans c (h1 b hb), h⟩
    | false =>
      have yx : leS y x = true := (leS_total y x).resolve_right (by rw [c]; exact Bool.false_ne_true)
      refine List.pairwise_cons.mpr ⟨fun b hb => ?_, insS_up x h2⟩
      rcases List.mem_cons.mp ((insS_perm x r).mem_iff.mp hb) with rfl | hb
      · exact yx
      · exact h1 b hb
theorem sortS_up : ∀ l : List Str, UpS (sortS l)
  | [] => List.Pairwise.nil
  | x :: r => insS_up x (sortS_up r)
theorem up_of_rising : ∀ {l : List Str} {p : Str}, risingS p l = true → UpS (p :: l)
  | [], p, _ => List.pairwise_singleton _ _
  | x :: r, p, h => by
    have h : (leS p x && risingS x r) = true := h
    rw [Bool.and_eq_true] at h
    have u := up_of_rising h.2
    refine List.pairwise_cons.mpr ⟨fun b hb => ?_, u⟩
    rcases List.mem_cons.mp hb with rfl | hb
    · exact h.1
    · exact leS_trans h.1 ((List.pairwise_cons.mp u).1 b hb)
theorem up_of_sorted : ∀ {l : List Str}, sortedS l = true → UpS l
  | [], _ => List.Pairwise.nil
  | x :: r, h => up_of_rising (l := r) h
theorem up_unique : ∀ {l m : List Str}, UpS l → UpS m → l.Perm m → l = m
  | [], m, _, _, p => (List.Perm.eq_nil p.symm).symm
  | x :: l, [], _, _, p => List.Perm.eq_nil p
  | x :: l, y :: m, hl, hm, p => by
    obtain ⟨a1, a2⟩ := List.pairwise_cons.mp hl
    obtain ⟨b1, b2⟩ := List.pairwise_cons.mp hm
    have e : x = y := by
      rcases List.mem_cons.mp (p.mem_iff.mp (List.mem_cons_self (a := x) (l := l))) with q | q
      · exact q
      · rcases List.mem_cons.mp (p.mem_iff.mpr (List.mem_cons_self (a := y) (l := m))) with q2 | q2
        · exact q2.symm
        · exact leS_anti (a1 y q2) (b1 x q)
    subst e
    rw [up_unique a2 b2 (List.Perm.cons_inv p)]
theorem sorted_is {ys ks : List Str} (p : ys.Perm ks) (h : sortedS ys = true) : ys = sortS ks := up_unique (up_of_sorted h) (sortS_up ks) (p.trans (sortS_perm ks).symm)
def textKeys : List (Key × E) → Option (List Str)
  | [] => some []
  | (.inr s, _) :: r => (textKeys r).map (s :: ·)
  | _ => none
theorem textKeys_ok {z : Bz} {W : Wd} : ∀ {vs : List (Key × V)} {es : List (Key × E)} {ks : List Str}, REk z W vs es → textKeys es = some ks → vs.map (·.1) = ks.map Sum.inr
  | _, _, ks, .nil, h => by cases h; rfl
  | (k, v) :: vs, (k2, e) :: es, ks, .cons h0 t, h => by
    obtain ⟨h1, _⟩ := h0
    have h1 : k = k2 := h1
    subst h1
    cases k with
    | inl i => cases h
    | inr s =>
      unfold textKeys at h
      cases q : textKeys es with
      | none => rw [q] at h; cases h
      | some l =>
        rw [q] at h
        cases h
        rw [List.map_cons, List.map_cons, textKeys_ok t q]
section
variable {X : Cx} {z : Bz}
def strE (s : Str) : E := .p (.str s)
theorem res_strs {W : Wd} : ∀ ks : List Str, REs z W (ks.map V.str) (ks.map strE)
  | [] => .nil
  | k :: ks => .cons (.p (.str k)) (res_strs ks)
def gSortD (m : Bool) : GL := fun xs M => match xs with
  | [e] => match asDic M e with
    | some es => match textKeys es with
      | some ks => if ks.length < 64 then mkLst m ((sortS ks).map strE) M else none
      | none => none
    | none => none
  | _ => none
theorem cr_sortD (hc : X.calm = true) {m : Bool} : CallR X (.builtin "sorted") (rLD z (gSortD m)) := callR_of (call_sortedD hc) fun xs H Q ⟨W, M, es, ok, r, e, M', hg, hq⟩ => by
  unfold gSortD at hg
  split at hg
  · rename_i e0
    split at hg
    · rename_i ds hd
      split at hg
      · rename_i ks hk
        split at hg
        · rename_i hl
          cases r with | @cons v0 _ vs _ r0 rs =>
          cases rs
          obtain ⟨a, vs, rfl, h1, h2, h3⟩ := asDic_ok ok r0 hd
          refine ⟨a, vs, ks, rfl, h1, textKeys_ok h3 hk, hl, fun ys p hp hs hn => ?_⟩
          have e2 := sorted_is hp hs
          subst e2
          exact mkLst_ok ok hg (res_strs _) (by rw [List.length_map, (sortS_perm ks).length_eq, sizeLine_eq]; omega) hn hq
        · cases hg
      · cases hg
    · cases hg
  · cases hg
end
end Pl

-- PL26
namespace Pl
open PySem PySem.Spec L2

def asBs : List E → Option (List Bool)
  | [] => some []
  | .p (.bl b) :: r => (asBs r).map (b :: ·)
  | _ => none
theorem asBs_ok {z : Bz} {W : Wd} : ∀ {vs : List V} {es : List E} {bs : List Bool}, REs z W vs es → asBs es = some bs → vs = bs.map V.bl
  | _, _, bs, .nil, h => by cases h; rfl
  | v :: vs, e :: es, bs, .cons r t, h => by
    unfold asBs at h
    split at h
    · rename_i q; cases q
    · rename_i b r' q
      cases q
      cases hb : asBs es with
      | none => rw [hb] at h; cases h
      | some l =>
        rw [hb] at h
        cases h
        rw [re_bl r, asBs_ok t hb]; rfl
    · cases h
def asIs : List E → Option (List Int)
  | [] => some []
  | .p (.int b) :: r => (asIs r).map (b :: ·)
  | _ => none
theorem asIs_ok {z : Bz} {W : Wd} : ∀ {vs : List V} {es : List E} {bs : List Int}, REs z W vs es → asIs es = some bs → vs = bs.map V.int
  | _, _, bs, .nil, h => by cases h; rfl
  | v :: vs, e :: es, bs, .cons r t, h => by
    unfold asIs at h
    split at h
    · rename_i q; cases q
    · rename_i b r' q
      cases q
      cases hb : asIs es with
      | none => rw [hb] at h; cases h
      | some l =>
        rw [hb] at h
        cases h
        rw [asInt_ok r rfl, asIs_ok t hb]; rfl
    · cases h
def gBsL (f : List Bool → Bool) : GL := fun xs M => match xs with
  | [e] => match asLst M e with
    | some es => match asBs es with
      | some bs => some (.p (.bl (f bs)), M)
      | none => none
    | none => none
  | _ => none
def gSumL : GL := fun xs M => match xs with
  | [e] => match asLst M e with
    | some es => match asIs es with
      | some bs => some (.p (.int bs.sum), M)
      | none => none
    | none => none
  | _ => none
section
variable {X : Cx} {z : Bz}
theorem cr_allL (hc : X.calm = true) : CallR X (.builtin "all") (rLD z (gBsL fun bs => bs.all id)) := callR_of (cr_all hc) fun xs H Q ⟨W, M, es, ok, r, e, M', hg, hq⟩ => by
  unfold gBsL at hg
  split at hg
  · split at hg
    · rename_i ds hd
      split at hg
      · rename_i bs hb
        cases hg
        cases r with | @cons v0 _ vs _ r0 rs =>
        cases rs
        obtain ⟨a, vs, rfl, h1, h2, h3⟩ := asLst_ok ok r0 hd
        exact ⟨a, bs, rfl, by rw [← asBs_ok h3 hb]; exact .of h1, hq W H _ (.refl ok) (.p (.bl _))⟩
      · cases hg
    · cases hg
  · cases hg
theorem cr_anyL (hc : X.calm = true) : CallR X (.builtin "any") (rLD z (gBsL fun bs => bs.any id)) := callR_of (cr_any hc) fun xs H Q ⟨W, M, es, ok, r, e, M', hg, hq⟩ => by
  unfold gBsL at hg
  split at hg
  · split at hg
    · rename_i ds hd
      split at hg
      · rename_i bs hb
        cases hg
        cases r with | @cons v0 _ vs _ r0 rs =>
        cases rs
        obtain ⟨a, vs, rfl, h1, h2, h3⟩ := asLst_ok ok r0 hd
        exact ⟨a, bs, rfl, by rw [← asBs_ok h3 hb]; exact .of h1, hq W H _ (.refl ok) (.p (.bl _))⟩
      · cases hg
    · cases hg
  · cases hg
theorem cr_sumL (hc : X.calm = true) : CallR X (.builtin "sum") (rLD z gSumL) := callR_of (cr_sum hc) fun xs H Q ⟨W, M, es, ok, r, e, M', hg, hq⟩ => by
  unfold gSumL at hg
  split at hg
  · split at hg
    · rename_i ds hd
      split at hg
      · rename_i bs hb
        cases hg
        cases r with | @cons v0 _ vs _ r0 rs =>
        cases rs
        obtain ⟨a, vs, rfl, h1, h2, h3⟩ := asLst_ok ok r0 hd
        exact ⟨a, bs, rfl, by rw [← asIs_ok h3 hb]; exact .of h1, hq W H _ (.refl ok) (.p (.int _))⟩
      · cases hg
    · cases hg
  · cases hg
/-- dict(d): a copy, a new cell -/
def gDictD : GL := fun xs M => match xs with
  | [e] => match asDic M e with
    | some es => some (.r M.length, M ++ [some (.dic es)])
    | none => none
  | _ => none
theorem newDic {W : Wd} {M : Store} {H : Hp} {p : Addr} {es : List (Key × E)} {vs : List (Key × V)} (ok : StoreOk z W M H) (hp : H p = none) (hl : vs.length ≤ sizeLine) (r : REk z W vs es) :
    Step z W H ⟨W.F, W.α ++ [p]⟩ (M ++ [some (.dic es)]) (upd H p (.dK vs)) ∧ RE z ⟨W.F, W.α ++ [p]⟩ (.ref p) (.r M.length) := by
  refine ⟨newC ok hp ⟨vs, upd_same, hl, WExt.rek (W := W) (W' := ⟨W.F, W.α ++ [p]⟩) ⟨.of (.refl _), [p], rfl⟩ r⟩, .r ?_⟩
  show (W.α ++ [p])[M.length]? = some p
  rw [ok.len, List.getElem?_append_right (Nat.le_refl _)]
  simp
theorem cr_dictD : CallR X (.type "dict") (rLD z gDictD) := callR_of call_dictD fun xs H Q ⟨W, M, es, ok, r, e, M', hg, hq⟩ => by
  unfold gDictD at hg
  split at hg
  · split at hg
    · rename_i ds hd
      cases hg
      cases r with | @cons v0 _ vs _ r0 rs =>
      cases rs
      obtain ⟨a, vs, rfl, h1, h2, h3⟩ := asDic_ok ok r0 hd
      refine ⟨a, vs, rfl, h1, fun p hp => ?_⟩
      obtain ⟨s1, s2⟩ := newDic ok hp h2 h3
      exact hq _ _ _ s1 s2
    · cases hg
  · cases hg
end
end Pl

-- PL27
namespace Pl
open PySem PySem.Spec L2 PyProof.Rows

instance memKey (k : Key) (ks : List Key) : Decidable (k ∈ ks) := if h : (ks.any fun j => decide (j = k)) = true then isTrue (by
  obtain ⟨j, hj, e⟩ := List.any_eq_true.mp h
  exact of_decide_eq_true e ▸ hj) else isFalse fun q => h (List.any_eq_true.mpr ⟨k, q, decide_eq_true rfl⟩)
def addK (ks : List Key) (k : Key) : List Key := if k ∈ ks then ks else ks ++ [k]
def SetIs (S : Key → Bool) (ks : List Key) : Prop := (∀ k, S k = true ↔ k ∈ ks) ∧ ks.Nodup
theorem setIs_add {S : Key → Bool} {ks : List Key} (h : SetIs S ks) (c : Key) : SetIs (fun j => S j || decide (j = c)) (addK ks c) ∧ (addK ks c).length = (if S c = true then ks.length else ks.length + 1) := by
  unfold addK
  by_cases hc : c ∈ ks
  · rw [if_pos hc, if_pos ((h.1 c).mpr hc)]
    refine ⟨⟨fun k => ?_, h.2⟩, rfl⟩
    rw [Bool.or_eq_true, decide_eq_true_eq, h.1]
    exact ⟨fun q => q.elim id fun e => e ▸ hc, .inl⟩
  · rw [if_neg hc, if_neg (fun q => hc ((h.1 c).mp q))]
    refine ⟨⟨fun k => ?_, ?_⟩, by simp⟩
    · rw [Bool.or_eq_true, decide_eq_true_eq, h.1, List.mem_append, List.mem_singleton]
    · refine List.nodup_append.mpr ⟨h.2, by simp, fun a ha b hb e => ?_⟩
      rw [List.mem_singleton.mp hb] at e
      exact hc (e ▸ ha)
theorem addK_len (ks : List Key) (c : Key) : (addK ks c).length ≤ ks.length + 1 := by
  unfold addK
  split
  · omega
  · simp
def scompN (t : It0) (tg : GT) (tt : FT) (fe : FE) : Nat → Nat → Env → Store → List Key → Option (List Key × Store)
  | 0, _, _, M, acc => if t.fin M = true then some (acc, M) else none
  | n + 1, i, ρ, M, acc => match t.get i M with
    | none => none
    | some e => match tg e ρ M with
      | some (.inr ρ1, M1) => match tt ρ1 M1 with
        | some (.inr true, M2) => match fe ρ1 M2 with
          | some (.inr y, M3) => match asKey y with
            | some k => scompN t tg tt fe n (i + 1) ρ M3 (addK acc k)
            | none => none
          | _ => none
        | some (.inr false, M2) => scompN t tg tt fe n (i + 1) ρ M2 acc
        | _ => none
      | _ => none
/-- {e for ..}: a new set that is read only -/
def fSComp (vs : List Nat) (fi : FI) (tg : GT) (tt : FT) (fe : FE) : FE := fun ρ M => bnd (fi ρ M) fun t M1 => if t.n ≤ 4000 then match scompN t tg tt fe t.n 0 (wipeE ρ vs) M1 [] with
    | some (ks, M2) => some (.inr (.p (.set ks)), M2)
    | none => none
  else none
def scompI (t : It0) (tg : GT) (fe : FE) : Nat → Nat → Env → Store → List Key → Option (List Key × Store)
  | 0, _, _, M, acc => if t.fin M = true then some (acc, M) else none
  | n + 1, i, ρ, M, acc => match t.get i M with
    | none => none
    | some e => match tg e ρ M with
      | some (.inr ρ1, M1) => match fe ρ1 M1 with
        | some (.inr y, M3) => match asKey y with
          | some k => scompI t tg fe n (i + 1) ρ1 M3 (addK acc k)
          | none => none
        | _ => none
      | _ => none
def scompO (t : It0) (tg : GT) (fi2 : FI) (tg2 : GT) (fe : FE) : Nat → Nat → Env → Store → List Key → Option (List Key × Store)
  | 0, _, _, M, acc => if t.fin M = true then some (acc, M) else none
  | n + 1, i, ρ, M, acc => match t.get i M with
    | none => none
    | some e => match tg e ρ M with
      | some (.inr ρ1, M1) => match fi2 ρ1 M1 with
        | some (.inr t2, M2) => if t2.n ≤ 60 then match scompI t2 tg2 fe t2.n 0 ρ1 M2 acc with
          | some (acc2, M3) => scompO t tg fi2 tg2 fe n (i + 1) ρ M3 acc2
          | none => none
          else none
        | _ => none
      | _ => none
/-- {e for .. for ..} -/
def fSComp2 (vs : List Nat) (fi : FI) (tg : GT) (fi2 : FI) (tg2 : GT) (fe : FE) : FE := fun ρ M => bnd (fi ρ M) fun t M1 => if t.n ≤ 60 then match scompO t tg fi2 tg2 fe t.n 0 (wipeE ρ vs) M1 [] with
    | some (ks, M2) => some (.inr (.p (.set ks)), M2)
    | none => none
  else none
theorem scan_is : scanBound = 4096 := rfl
section
variable {X : Cx} {z : Bz} {Wx : WX} {tg iter elt : Expr}
theorem odd_setQ {P : Program} {w : World} {D : Addr} {S : Key → Bool} {n : Nat} : ¬ OddO (SetQO P w D S n) := fun h => by
  rcases h with ⟨ps, e⟩ | ⟨c, q, e⟩
  · cases e
  · unfold SetQO LamX.CodeO at e
    let ob : Obj := { cls := .none, data := .fields #[.none, .str q 0] }
    let h : Heap := { objs := Array.replicate (c + 1) ob }
    have at_ : ∀ b o, h.get? b = some o → o = ob := fun b o k => by
      unfold Heap.get? at k
      have hb : h.objs[b]? = if b < c + 1 then some ob else none := by
        show (Array.replicate (c + 1) ob)[b]? = _
        rw [Array.getElem?_replicate]
      rw [hb] at k
      by_cases hl : b < c + 1
      · rw [if_pos hl] at k
        exact (Option.some.inj k).symm
      · rw [if_neg hl] at k
        cases k
    have hc : h.get? c = some ob := by
      unfold Heap.get?
      have hb : h.objs[c]? = some ob := by
        show (Array.replicate (c + 1) ob)[c]? = _
        rw [Array.getElem?_replicate, if_pos (Nat.lt_succ_self c)]
      rw [hb]
    have e2 := congrFun (HO.ext.inj e) h
    have y : ∃ (oc : Obj) (vs : Array Value) (t : Tok), h.get? c = some oc ∧ oc.data = .fields vs ∧ vs[1]? = some (.str q t) := ⟨ob, _, 0, hc, rfl, rfl⟩
    rw [← e2] at y
    obtain ⟨o, es, ep, t, ks, k1, k0, k2, _⟩ := y
    rw [at_ _ o k1] at k2
    cases k2
theorem setQ_ps {P : Program} {w : World} {D : Addr} {S : Key → Bool} {n : Nat} : ∀ ps, SetQO P w D S n ≠ .tbl ps := fun ps e => odd_setQ (.inl ⟨ps, e⟩)
theorem side_set {W W' : Wd} {M' : Store} {H H' : Hp} {D : Addr} {S : Key → Bool} {n : Nat} {o : HO} (s : Step z W H W' M' H') (hn : H D = none) (hF : W'.F D = none) (hα : D ∉ W'.α) (h : H' D = some (SetQO z.prog z.w D S n)) : Step z W H W' M' (upd H' D o) :=
  s.side hn hF hα (fun a q => by rw [h] at q; cases q) ⟨fun ps q => by rw [h] at q; exact setQ_ps ps (Option.some.inj q), fun c q e => by rw [h] at e; exact odd_setQ (.inr ⟨c, q, Option.some.inj e⟩)⟩
theorem side_new {W : Wd} {M : Store} {H : Hp} {D : Addr} {o : HO} (ok : StoreOk z W M H) (hD : H D = none) : Step z W H W M (upd H D o) :=
  (Step.refl ok).side hD (ok.none_F hD) (ok.notin hD) (fun a q => by rw [hD] at q; cases q) ⟨fun ps q => by (rw [hD] at q; cases q), fun c q e => by (rw [hD] at e; cases e)⟩
theorem lat_set {W W' : Wd} {M' : Store} {H H' : Hp} {D : Addr} {S : Key → Bool} {n : Nat} {o : HO} (l : Lat z W H W' M' H') (ok : StoreOk z W' M' (upd H' D o)) (h : H' D = some (SetQO z.prog z.w D S n)) : Lat z W H W' M' (upd H' D o) :=
  ⟨l.w, ok, fun a od u q => by
    have e := l.frz a od u q
    rw [upd_ne (fun e2 => by rw [e2, h] at e; cases e)]
    exact e⟩
theorem wipe_off2 {σ σ4 σ7 : L2.St} {us vs : List Nat} (h : Off us σ4 σ7) (hu : ∀ i ∈ us, i ∈ vs) (e : wipe σ4 vs = wipe σ vs) : wipe σ7 vs = wipe σ vs := by
  rw [← e]
  apply List.ext_getElem?
  intro i
  rw [wipe_at, wipe_at, h.1]
  by_cases hi : i ∈ vs
  · rw [if_pos hi, if_pos hi]
  · rw [if_neg hi, if_neg hi]
    exact h.2 i fun hm => hi (hu i hm)
theorem te_scomp {us vs : List Nat} {fi : FI} {gt : GT} {tt : FT} {fe : FE} {σ : L2.St} {H : Hp} {Q : VK} (hu : ∀ i ∈ us, i ∈ vs) (h : tE z Wx (fSComp vs fi gt tt fe) σ H Q) : tScQ z.prog z.w (tI z Wx fi) (tG z us gt) (tT z W0 tt) (tE z W0 fe) vs σ H Q := by
  obtain ⟨W, M, ρ, ok, env, r, hr, po⟩ := h
  rcases bnd_some hr with ⟨x, M1, e1, e2⟩ | ⟨t, M1, e1, hr1⟩
  · subst e2
    exact ⟨W, M, ρ, ok, env, _, e1, fun W' H' c d s q => po W' H' c d s q⟩
  refine ⟨W, M, ρ, ok, env, _, e1, fun W1 H1 J s1 it D hD => ?_⟩
  split at hr1
  rotate_left
  · cases hr1
  rename_i hlim
  split at hr1
  rotate_left
  · cases hr1
  rename_i es Mf hc
  cases hr1
  have env1 := envOk_wipe (env.w s1.w) vs
  refine ⟨fun i k H' => i + k = t.n ∧ ∃ W' M' S acc, Step z W1 H1 W' M' H' ∧ W'.F D = none ∧ D ∉ W'.α ∧ H' D = some (SetQO z.prog z.w D S acc.length) ∧ SetIs S acc ∧ acc.length ≤ i ∧ scompN t gt tt fe k i (wipeE ρ vs) M' acc = some (es, Mf),
    ⟨t.n, by omega, W1, M1, _, [], side_new s1.ok hD, s1.ok.none_F hD, s1.ok.notin hD, upd_same, ⟨fun k => by simp, .nil⟩, Nat.zero_le _, hc⟩, ?_⟩
  rintro i k H' ⟨hk, W', M', S, acc, s, hF, hα, hA, kA, lA, hr'⟩
  have env' := env1.w s.w
  cases k with
  | zero =>
    unfold scompN at hr'
    split at hr'
    · rename_i hf
      cases hr'
      have : i = t.n := by omega
      subst this
      have a1 := s.adoptF hD hF hα hA setQ_ps
      exact .inl ⟨(it _ _ _ s.lat).2 hf, po _ _ _ (s1.trans a1) (.p (.set upd_same kA.1 kA.2))⟩
    · cases hr'
  | succ k =>
    unfold scompN at hr'
    split at hr'
    · cases hr'
    rename_i x hx
    obtain ⟨go, yl⟩ := (it _ _ _ s.lat).1 i x (by omega) hx
    refine .inr ⟨go, fun H2 => ∃ W2 M2 S acc, Step z W1 H1 W2 M2 H2 ∧ W2.F D = none ∧ D ∉ W2.α ∧ H2 D = some (SetQO z.prog z.w D S acc.length) ∧ SetIs S acc ∧ acc.length ≤ i + 1 ∧ scompN t gt tt fe k (i + 1) (wipeE ρ vs) M2 acc = some (es, Mf), fun H2 h => ⟨k, Nat.lt_succ_self _, by omega, h⟩, fun y H'' yy => ?_⟩
    obtain ⟨W'', sy, rx⟩ := yl y H'' yy
    split at hr'
    rotate_left
    · cases hr'
    rename_i ρ1 M2 e2
    refine ⟨W'', M', _, x, sy.ok, env'.w sy.w, rx, _, e2, fun W3 H3 σ3 s3 q3 o3 => ⟨wipe_off o3 hu, ?_⟩⟩
    have b1 := sy.beside hF hα hA odd_setQ
    have b2 := s3.beside b1.1 b1.2.1 b1.2.2 odd_setQ
    have s03 := (s.trans sy).trans s3
    split at hr'
    · rename_i M3 e3
      refine ⟨W3, M2, ρ1, s3.ok, q3, _, e3, fun W4 H4 s4 => iteT ?_⟩
      have b3 := s4.beside b2.1 b2.2.1 b2.2.2 odd_setQ
      split at hr'
      rotate_left
      · cases hr'
      rename_i yk M4 e4
      split at hr'
      rotate_left
      · cases hr'
      rename_i key ek
      refine ⟨W4, M3, ρ1, s4.ok, q3.w s4.w, _, e4, fun W5 H5 v5 s5 q5 => ?_⟩
      have b5 := s5.beside b3.1 b3.2.1 b3.2.2 odd_setQ
      obtain ⟨a1, a2⟩ := setIs_add kA key
      have al := addK_len acc key
      exact ⟨key, S, acc.length, asKey_ok q5 ek, b5.2.2, by rw [scan_is]; omega, W5, M4, _, addK acc key, side_set ((s03.trans s4).trans s5) hD b5.1 b5.2.1 b5.2.2, b5.1, b5.2.1, by rw [a2]; exact upd_same, a1, by omega, hr'⟩
    · rename_i M3 e3
      refine ⟨W3, M2, ρ1, s3.ok, q3, _, e3, fun W4 H4 s4 => iteF ?_⟩
      have b3 := s4.beside b2.1 b2.2.1 b2.2.2 odd_setQ
      exact ⟨W4, M3, S, acc, s03.trans s4, b3.1, b3.2.1, b3.2.2, kA, by omega, hr'⟩
    · cases hr'
theorem pd_scomp {us : List Nat} {fi : FI} {gt : GT} {tt : FT} {fe : FE} {ifs : List Expr} {scope : Scope} {own : List (Str × Nat)} {pos : Pos} (F : Fits X z) (hc : X.calm = true) (hN : X.N.Nodup) (hi : PI X tg iter (tI z Wx fi)) (ok : BlkOk X.N X.env.scope scope own)
    (hg : InB X scope fun Y => PG Y tg (tG z us gt)) (ht : InB X scope fun Y => PTs Y ifs (tT z W0 tt)) (he : InB X scope fun Y => PE Y elt (tE z W0 fe)) (hu : ∀ i ∈ us, i ∈ own.map (·.2)) (hs : ∀ x, foldedSetIterable iter X.env x = pure x := by intro _; rfl) :
    PE X (.SetComp elt [⟨tg, iter, ifs, 0⟩] scope pos) (tE z Wx (fSComp (own.map (·.2)) fi gt tt fe)) := pe_of (pe_scQ hc hN hi ok hg ht he hs) fun _ _ _ h => by
  rw [← F.prog, ← F.w]
  exact te_scomp hu h
theorem te_scomp2 {us us2 vs : List Nat} {fi : FI} {gt : GT} {fi2 : FI} {gt2 : GT} {fe : FE} {σ : L2.St} {H : Hp} {Q : VK} (hu : ∀ i ∈ us, i ∈ vs) (hu2 : ∀ i ∈ us2, i ∈ vs) (h : tE z Wx (fSComp2 vs fi gt fi2 gt2 fe) σ H Q) :
    tScQ2 z.prog z.w (tI z Wx fi) (tG z us gt) (tI z W0 fi2) (tG z us2 gt2) (tE z W0 fe) vs σ H Q := by
  obtain ⟨W, M, ρ, ok, env, r, hr, po⟩ := h
  rcases bnd_some hr with ⟨x, M1, e1, e2⟩ | ⟨t, M1, e1, hr1⟩
  · subst e2
    exact ⟨W, M, ρ, ok, env, _, e1, fun W' H' c d s q => po W' H' c d s q⟩
  refine ⟨W, M, ρ, ok, env, _, e1, fun W1 H1 J s1 it D hD => ?_⟩
  split at hr1
  rotate_left
  · cases hr1
  rename_i hlim
  split at hr1
  rotate_left
  · cases hr1
  rename_i es Mf hc
  cases hr1
  have env1 := envOk_wipe (env.w s1.w) vs
  refine ⟨fun i k H' => i + k = t.n ∧ ∃ W' M' S acc, Step z W1 H1 W' M' H' ∧ W'.F D = none ∧ D ∉ W'.α ∧ H' D = some (SetQO z.prog z.w D S acc.length) ∧ SetIs S acc ∧ acc.length ≤ 60 * i ∧ scompO t gt fi2 gt2 fe k i (wipeE ρ vs) M' acc = some (es, Mf),
    ⟨t.n, by omega, W1, M1, _, [], side_new s1.ok hD, s1.ok.none_F hD, s1.ok.notin hD, upd_same, ⟨fun k => by simp, .nil⟩, Nat.zero_le _, hc⟩, ?_⟩
  rintro i k H' ⟨hk, W', M', S, acc, s, hF, hα, hA, kA, lA, hr'⟩
  have env' := env1.w s.w
  cases k with
  | zero =>
    unfold scompO at hr'
    split at hr'
    · rename_i hf
      cases hr'
      have : i = t.n := by omega
      subst this
      have a1 := s.adoptF hD hF hα hA setQ_ps
      exact .inl ⟨(it _ _ _ s.lat).2 hf, po _ _ _ (s1.trans a1) (.p (.set upd_same kA.1 kA.2))⟩
    · cases hr'
  | succ k =>
    unfold scompO at hr'
    split at hr'
    · cases hr'
    rename_i x hx
    obtain ⟨go, yl⟩ := (it _ _ _ s.lat).1 i x (by omega) hx
    refine .inr ⟨go, fun H2 => ∃ W2 M2 S acc, Step z W1 H1 W2 M2 H2 ∧ W2.F D = none ∧ D ∉ W2.α ∧ H2 D = some (SetQO z.prog z.w D S acc.length) ∧ SetIs S acc ∧ acc.length ≤ 60 * (i + 1) ∧ scompO t gt fi2 gt2 fe k (i + 1) (wipeE ρ vs) M2 acc = some (es, Mf), fun H2 h => ⟨k, Nat.lt_succ_self _, by omega, h⟩, fun y H'' yy => ?_⟩
    obtain ⟨W'', sy, rx⟩ := yl y H'' yy
    split at hr'
    rotate_left
    · cases hr'
    rename_i ρ1 M2 e2
    refine ⟨W'', M', _, x, sy.ok, env'.w sy.w, rx, _, e2, fun W3 H3 σ3 s3 q3 o3 => ?_⟩
    have b1 := sy.beside hF hα hA odd_setQ
    have b2 := s3.beside b1.1 b1.2.1 b1.2.2 odd_setQ
    have s03 := (s.trans sy).trans s3
    have w3 := wipe_off o3 hu
    split at hr'
    rotate_left
    · cases hr'
    rename_i t2 M3 e3
    refine ⟨W3, M2, ρ1, s3.ok, q3, _, e3, fun W4 H4 J2 s4 it2 => ?_⟩
    split at hr'
    rotate_left
    · cases hr'
    rename_i hlim2
    split at hr'
    rotate_left
    · cases hr'
    rename_i acc2 M5 e5
    have b3 := s4.beside b2.1 b2.2.1 b2.2.2 odd_setQ
    have s04 := s03.trans s4
    refine ⟨fun j n σ4 H5 => j + n = t2.n ∧ wipe σ4 vs = wipe σ vs ∧ ∃ W5 M5' ρ5 S acc1, Step z W1 H1 W5 M5' H5 ∧ Lat z W4 H4 W5 M5' H5 ∧ EnvOk z W5 ρ5 σ4 ∧ W5.F D = none ∧ D ∉ W5.α ∧ H5 D = some (SetQO z.prog z.w D S acc1.length) ∧ SetIs S acc1 ∧ acc1.length ≤ 60 * i + j ∧ scompI t2 gt2 fe n j ρ5 M5' acc1 = some (acc2, M5),
      ⟨t2.n, by omega, w3, W4, M3, ρ1, S, acc, s04, ⟨(Step.refl s4.ok).w, s4.ok, fun _ _ _ q => q⟩, q3.w s4.w, b3.1, b3.2.1, b3.2.2, kA, by omega, e5⟩, ?_⟩
    rintro j n σ4 H5 ⟨hn, hw4, W5, M5', ρ5, S5, acc1, s5, l5, q5, bF, bα, bA, kA5, lA5, hr5⟩
    cases n with
    | zero =>
      unfold scompI at hr5
      split at hr5
      · rename_i hf
        cases hr5
        have : j = t2.n := by omega
        subst this
        exact .inl ⟨(it2 _ _ _ l5).2 hf, hw4, W5, M5, S5, acc2, s5, bF, bα, bA, kA5, by omega, hr'⟩
      · cases hr5
    | succ n =>
      unfold scompI at hr5
      split at hr5
      · cases hr5
      rename_i x5 hx5
      obtain ⟨go5, yl5⟩ := (it2 _ _ _ l5).1 j x5 (by omega) hx5
      refine .inr ⟨go5, fun σ6 H6 => wipe σ6 vs = wipe σ vs ∧ ∃ W6 M6 ρ6 S acc1, Step z W1 H1 W6 M6 H6 ∧ Lat z W4 H4 W6 M6 H6 ∧ EnvOk z W6 ρ6 σ6 ∧ W6.F D = none ∧ D ∉ W6.α ∧ H6 D = some (SetQO z.prog z.w D S acc1.length) ∧ SetIs S acc1 ∧ acc1.length ≤ 60 * i + (j + 1) ∧ scompI t2 gt2 fe n (j + 1) ρ6 M6 acc1 = some (acc2, M5),
        fun σ' H' h => ⟨n, Nat.lt_succ_self _, by omega, h⟩, fun y5 H6 yy5 => ?_⟩
      obtain ⟨W6, s6, r6⟩ := yl5 y5 H6 yy5
      split at hr5
      rotate_left
      · cases hr5
      rename_i ρ7 M7 e7
      refine ⟨W6, M5', _, x5, s6.ok, q5.w s6.w, r6, _, e7, fun W7 H7 σ7 s7 q7 o7 => ?_⟩
      have c1 := s6.beside bF bα bA odd_setQ
      have c2 := s7.beside c1.1 c1.2.1 c1.2.2 odd_setQ
      have w7 := wipe_off2 o7 hu2 hw4
      split at hr5
      rotate_left
      · cases hr5
      rename_i yk M8 e8
      split at hr5
      rotate_left
      · cases hr5
      rename_i key ek
      refine ⟨W7, M7, ρ7, s7.ok, q7, _, e8, fun W8 H8 v8 s8 q8 => ?_⟩
      have c3 := s8.beside c2.1 c2.2.1 c2.2.2 odd_setQ
      obtain ⟨a1, a2⟩ := setIs_add kA5 key
      have al := addK_len acc1 key
      have t8 := ((s5.trans s6).trans s7).trans s8
      exact ⟨key, S5, acc1.length, asKey_ok q8 ek, c3.2.2, by rw [scan_is]; omega, w7, W8, M8, ρ7, _, addK acc1 key, side_set t8 hD c3.1 c3.2.1 c3.2.2, lat_set (((l5.trans s6.lat).trans s7.lat).trans s8.lat) (side_set t8 hD c3.1 c3.2.1 c3.2.2).ok c3.2.2, q7.w s8.w, c3.1, c3.2.1, by rw [a2]; exact upd_same, a1, by omega, hr5⟩
theorem pd_scomp2 {us us2 : List Nat} {fi : FI} {gt : GT} {fi2 : FI} {gt2 : GT} {fe : FE} {t2 i2 : Expr} {scope : Scope} {own : List (Str × Nat)} {pos : Pos} (F : Fits X z) (hc : X.calm = true) (hN : X.N.Nodup) (hi : PI X tg iter (tI z Wx fi)) (ok : BlkOk X.N X.env.scope scope own)
    (hg : InB X scope fun Y => PG Y tg (tG z us gt)) (hi2 : InB X scope fun Y => PI Y t2 i2 (tI z W0 fi2)) (hg2 : InB X scope fun Y => PG Y t2 (tG z us2 gt2)) (he : InB X scope fun Y => PE Y elt (tE z W0 fe)) (hu : ∀ i ∈ us, i ∈ own.map (·.2)) (hu2 : ∀ i ∈ us2, i ∈ own.map (·.2))
    (hs : ∀ x, foldedSetIterable iter X.env x = pure x := by intro _; rfl) (hs2 : ∀ env x, foldedSetIterable i2 env x = pure x := by intro _ _; rfl) :
    PE X (.SetComp elt [⟨tg, iter, [], 0⟩, ⟨t2, i2, [], 0⟩] scope pos) (tE z Wx (fSComp2 (own.map (·.2)) fi gt fi2 gt2 fe)) := pe_of (pe_scQ2 hc hN hi ok hg hi2 hg2 he hs hs2) fun _ _ _ h => by
  rw [← F.prog, ← F.w]
  exact te_scomp2 hu hu2 h
theorem re_set {W : Wd} {v : V} {ks : List Key} (h : RE z W v (.p (.set ks))) : ∃ a S, v = .ref a ∧ W.F a = some (SetQO z.prog z.w a S ks.length) ∧ SetIs S ks := by
  cases h with | p h => cases h with | set h1 h2 h3 => exact ⟨_, _, rfl, h1, h2, h3⟩
theorem call_lenQ : CallR X (.builtin "len") (fun xs H Q => ∃ (a : Addr) (S : Key → Bool) (n : Nat), xs = [.ref a] ∧ H a = some (SetQO X.prog X.w a S n) ∧ Q (.int n) H) := by
  intro pins s σ H xs us Q I r ⟨a, S, n, ex, hd, q⟩
  subst ex
  obtain ⟨u, eu, rx⟩ := vals1 r
  subst eu
  cases rx
  obtain ⟨o, es, ep, t, ks, ho, hex, hdt, g, ndk, hm, hb, hf, hn, hr, hled⟩ := setQO_get I hd
  exact call_len_set ho hex hdt hf (by rw [scan_is] at hb; omega) ⟨.int n, H, I.tok _, ⟨_, by rw [hn]⟩, q⟩
def gLenSet : GL := fun xs M => match xs with
  | [.p (.set ks)] => some (.p (.int ks.length), M)
  | _ => none
theorem cr_lenSet (F : Fits X z) : CallR X (.builtin "len") (rLD z gLenSet) := callR_of call_lenQ fun xs H Q ⟨W, M, es, ok, r, e, M', hg, hq⟩ => by
  unfold gLenSet at hg
  split at hg
  · rename_i ks
    cases hg
    cases r with | cons r0 rs =>
    cases rs
    obtain ⟨a, S, rfl, h1, h2⟩ := re_set r0
    exact ⟨a, S, _, rfl, by rw [← F.prog, ← F.w]; exact ok.same _ _ h1, hq W H _ (.refl ok) (.p (.int _))⟩
  · cases hg
def textsK : List Key → Option (List Str)
  | [] => some []
  | .inr s :: r => (textsK r).map (s :: ·)
  | _ => none
theorem textsK_eq : ∀ {ks : List Key} {ss : List Str}, textsK ks = some ss → ks = ss.map Sum.inr
  | [], _, h => by cases h; rfl
  | .inl i :: r, _, h => by cases h
  | .inr s :: r, ss, h => by
    unfold textsK at h
    cases q : textsK r with
    | none => rw [q] at h; cases h
    | some l => rw [q] at h; cases h; rw [textsK_eq q]; rfl
def gSortSet (m : Bool) : GL := fun xs M => match xs with
  | [.p (.set ks)] => match textsK ks with
    | some ss => if ss.length < 64 then mkLst m ((sortS ss).map strE) M else none
    | none => none
  | _ => none
theorem cr_sortSet (F : Fits X z) (hc : X.calm = true) {m : Bool} : CallR X (.builtin "sorted") (rLD z (gSortSet m)) := callR_of (call_sortQ hc) fun xs H Q ⟨W, M, es, ok, r, e, M', hg, hq⟩ => by
  unfold gSortSet at hg
  split at hg
  · rename_i ks
    split at hg
    · rename_i ss hk
      split at hg
      · rename_i hl
        cases r with | cons r0 rs =>
        cases rs
        obtain ⟨a, S, rfl, h1, h2, h3⟩ := re_set r0
        have ek := textsK_eq hk
        have el : ks.length = ss.length := by rw [ek, List.length_map]
        refine ⟨a, S, ks.length, ss, rfl, by rw [← F.prog, ← F.w]; exact ok.same _ _ h1, by omega, ?_, el.symm, fun k => by rw [h2, ek], fun ys p hp hs hn => ?_⟩
        · rw [ek] at h3
          rw [List.nodup_iff_pairwise_ne, List.pairwise_map] at h3
          exact List.nodup_iff_pairwise_ne.mpr (h3.imp fun {a b} h q => h (congrArg Sum.inr q))
        · have e2 := sorted_is hp hs
          subst e2
          exact mkLst_ok ok hg (res_strs _) (by rw [List.length_map, (sortS_perm ss).length_eq, sizeLine_eq]; omega) hn hq
      · cases hg
    · cases hg
  · cases hg
end
end Pl

-- PL28
namespace Pl
open PySem PySem.Spec L2 PyProof.Rows

def eB (n : Nat) : E → Bool
  | .p _ => true
  | .r k => decide (k < n)
  | .fn _ _ _ _ _ cs => cs.all fun c => match c with
    | .inl _ => true
    | .inr k => decide (k < n)
def cB (n : Nat) : Cell → Bool
  | .lst es => es.all (eB n)
  | .dic kvs => kvs.all fun p => eB n p.2
  | .dcN kvs => kvs.all fun p => eB n p.2
  | .ins _ fs => fs.all fun p => eB n p.2
  | .lck kvs => kvs.all fun p => eB n p.2
def oB (n : Nat) : Option Cell → Bool
  | some c => cB n c
  | none => true
open Classical in
/-- the cells of old -/
noncomputable def cutSt (M M' : Store) : Option Store := if M'.take M.length = M then some M else if (M'.take M.length).all (oB M.length) = true then some (M'.take M.length) else none
def lstD (g : E → Option PD) : List E → Option (List PD)
  | [] => some []
  | e :: r => match g e, lstD g r with
    | some d, some ds => some (d :: ds)
    | _, _ => none
def mapD {κ : Type} (g : E → Option PD) : List (κ × E) → Option (List (κ × PD))
  | [] => some []
  | (k, e) :: r => match g e, mapD g r with
    | some d, some ds => some ((k, d) :: ds)
    | _, _ => none
def dataE (n : Nat) (M : Store) : Nat → E → Option PD
  | _, .p d => some d
  | 0, _ => none
  | f + 1, .r k => if n ≤ k then match M[k]? with
    | some (some (.lst es)) => match lstD (dataE n M f) es with
      | some ds => some (.lst ds)
      | none => none
    | some (some (.dic kvs)) => match mapD (dataE n M f) kvs with
      | some ds => some (.dic ds)
      | none => none
    | some (some (.ins c fs)) => match mapD (dataE n M f) fs with
      | some ds => some (.ins c ds)
      | none => none
    | _ => none
    else none
  | _, _ => none
def resE (n : Nat) (M : Store) (e : E) : Option E := if eB n e = true then some e else match dataE n M 8 e with
  | some d => some (.p d)
  | none => none
noncomputable def cutR (M : Store) : Rs E → Rs E
  | some (.inr e, M') => match cutSt M M', resE M.length M' e with
    | some M2, some e2 => some (.inr e2, M2)
    | _, _ => none
  | some (.inl x, M') => match cutSt M M' with
    | some M2 => some (.inl x, M2)
    | none => none
  | none => none
noncomputable def fFrz (f : FE) : FE := fun ρ M => cutR M (f ρ M)

section
variable {z : Bz} {W W' W2 : Wd} {M M' M2 : Store} {H H' H2 : Hp}
theorem caps_below {σ : L2.St} {ix : List Nat} {cs : List (Sum PD Nat)} (h : Caps z W σ ix cs) : cs.all (fun c => match c with | .inl _ => true | .inr k => decide (k < W.α.length)) = true := by
  induction h with
  | nil => rfl
  | p _ _ _ ih => simpa using ih
  | r _ h2 _ ih =>
    rw [List.all_cons, ih, Bool.and_true]
    exact decide_eq_true (List.getElem?_eq_some_iff.mp h2).1
theorem re_below {v : V} {e : E} (h : RE z W v e) : eB W.α.length e = true := by
  cases h with
  | p h => rfl
  | r h => exact decide_eq_true (List.getElem?_eq_some_iff.mp h).1
  | fn h1 h2 => exact caps_below h2
theorem all_below {α β : Type} {R : α → β → Prop} {p : β → Bool} (w : ∀ a b, R a b → p b = true) : ∀ {as : List α} {bs : List β}, PySem.Paired R as bs → bs.all p = true
  | _, _, .nil => rfl
  | _, _, .cons h t => by rw [List.all_cons, w _ _ h, all_below w t]; rfl
theorem cell_below {a : Addr} {c : Cell} (h : CellAt z W H a c) : cB W.α.length c = true := by
  cases c with
  | lst xs => obtain ⟨vs, e, l, r⟩ := h; exact all_below (fun _ _ q => re_below q) r
  | dic xs => obtain ⟨vs, e, l, r⟩ := h; exact all_below (fun _ _ q => re_below q.2) r
  | dcN xs => obtain ⟨vs, e, l, r⟩ := h; exact all_below (fun _ _ q => re_below q.2.2) r
  | ins c xs => obtain ⟨dx, vs, e, d, l, r⟩ := h; exact all_below (fun _ _ q => re_below q.2) r
  | lck xs => obtain ⟨od, vs, e, l, r⟩ := h; exact all_below (fun _ _ q => re_below q.2) r
/-- W2 has what W' has, and its first n cells -/
structure Cut (W' W2 : Wd) (n : Nat) : Prop where
  ext : Ext W'.F W2.F
  at_ : ∀ (k : Nat) (a : Addr), k < n → W'.α[k]? = some a → W2.α[k]? = some a
variable {n : Nat}
theorem Cut.caps (c : Cut W' W2 n) {σ : L2.St} {ix : List Nat} {cs : List (Sum PD Nat)} (h : Caps z W' σ ix cs) : cs.all (fun c => match c with | .inl _ => true | .inr k => decide (k < n)) = true → Caps z W2 σ ix cs := by
  induction h with
  | nil => exact fun _ => .nil
  | p h1 h2 _ ih => exact fun q => .p h1 (h2.ext c.ext) (ih (by simpa using q))
  | r h1 h2 _ ih =>
    intro q
    rw [List.all_cons, Bool.and_eq_true] at q
    exact .r h1 (c.at_ _ _ (of_decide_eq_true q.1) h2) (ih q.2)
theorem Cut.re (c : Cut W' W2 n) {v : V} {e : E} (h : RE z W' v e) (b : eB n e = true) : RE z W2 v e := by
  cases h with
  | p h => exact .p (h.ext c.ext)
  | r h => exact .r (c.at_ _ _ (of_decide_eq_true b) h)
  | fn h1 h2 => exact .fn (c.ext _ _ h1) (c.caps h2 b)
theorem paired_below {α β : Type} {R R' : α → β → Prop} {p : β → Bool} (w : ∀ a b, R a b → p b = true → R' a b) : ∀ {as : List α} {bs : List β}, PySem.Paired R as bs → bs.all p = true → PySem.Paired R' as bs
  | _, _, .nil, _ => .nil
  | _, _, .cons h t, q => by
    rw [List.all_cons, Bool.and_eq_true] at q
    exact .cons (w _ _ h q.1) (paired_below w t q.2)
theorem Cut.cell (c : Cut W' W2 n) {a : Addr} {x : Cell} (h : CellAt z W' H' a x) (b : cB n x = true) (s : ∀ o, H' a = some o → H2 a = some o) (so : ∀ dx, H' dx = some (.own a) → H2 dx = some (.own a)) : CellAt z W2 H2 a x := by
  cases x with
  | lst xs => obtain ⟨vs, e, l, r⟩ := h; exact ⟨vs, s _ e, l, paired_below (p := eB n) (fun _ _ q b => c.re q b) r b⟩
  | dic xs => obtain ⟨vs, e, l, r⟩ := h; exact ⟨vs, s _ e, l, paired_below (p := fun (p : _ × E) => eB n p.2) (fun _ _ q b => ⟨q.1, c.re q.2 b⟩) r b⟩
  | dcN xs =>
    obtain ⟨vs, e, l, r⟩ := h
    exact ⟨vs, s _ e, l, paired_below (p := fun (p : NestedKey × E) => eB n p.2) (fun _ _ ⟨q1, ⟨d, q2, q3⟩, q4⟩ b => ⟨q1, ⟨d, q2.ext c.ext, q3⟩, c.re q4 b⟩) r b⟩
  | ins c' xs => obtain ⟨dx, vs, e, d, l, r⟩ := h; exact ⟨dx, vs, s _ e, so _ d, l, paired_below (p := fun (p : _ × E) => eB n p.2) (fun _ _ q b => ⟨q.1, c.re q.2 b⟩) r b⟩
  | lck xs => obtain ⟨od, vs, e, l, r⟩ := h; exact ⟨od, vs, s _ e, l, paired_below (p := fun (p : _ × E) => eB n p.2) (fun _ _ q b => ⟨q.1, c.re q.2 b⟩) r b⟩
theorem cut_take (h : cutSt M M' = some M2) : M2 = M'.take M.length ∧ (M2 = M ∨ M2.all (oB M.length) = true) := by
  unfold cutSt at h
  split at h
  · rename_i e
    cases h
    exact ⟨e.symm, .inl rfl⟩
  · split at h
    · rename_i e
      cases h
      exact ⟨rfl, .inr e⟩
    · cases h
/-- the new cells forgotten; L: new dicts that are locked for good -/
theorem cut_step {more : List Addr} {F2 : Hp} {L : List Addr} (ok : StoreOk z W M H) (st : Step z W H W' M' H') (hc : cutSt M M' = some M2) (em : W'.α = W.α ++ more) (hL : ∀ a ∈ L, a ∈ more ∧ ∃ od vs, H' a = some (.dK vs) ∧ H2 a = some (.frz od (.dK vs))) (h4 : ∀ a, a ∉ L → H2 a = H' a)
    (h1 : ∀ a o, W'.F a = some o → F2 a = some o) (h2 : ∀ a o, F2 a = some o → H2 a = some o) (h3 : ∀ a o, F2 a = some o → W'.F a = some o ∨ a ∈ more) : Step z W H ⟨F2, W.α⟩ M2 H2 := by
  obtain ⟨e2, below⟩ := cut_take hc
  have nd := st.ok.nd
  rw [em] at nd
  obtain ⟨nd1, nd2, nd3⟩ := List.nodup_append.mp nd
  have nw : ∀ a ∈ more, Nw H a := by
    obtain ⟨m2, em2, nw⟩ := st.pre
    rw [em] at em2
    rw [List.append_cancel_left em2]
    exact nw
  have out : ∀ a ∈ W.α, a ∉ L := fun a ha hl => nd3 a ha a (hL a hl).1 rfl
  have inα : ∀ a ∈ W.α, a ∈ W'.α := fun a ha => by rw [em]; exact List.mem_append_left _ ha
  have notdk : ∀ a o, H' a = some o → (∀ vs, o ≠ .dK vs) → H2 a = some o := fun a o q hn => by
    rw [h4 a fun hl => ?_]
    · exact q
    · obtain ⟨_, od, vs, e, _⟩ := hL a hl
      rw [q] at e
      exact hn vs (Option.some.inj e)
  have lenM : M2.length = W.α.length := by
    rw [e2, List.length_take, st.ok.len, em, List.length_append, ok.len]
    omega
  have cut : Cut W' ⟨F2, W.α⟩ M.length := ⟨h1, fun k a hk q => by
    rw [em, List.getElem?_append_left (by rw [← ok.len]; exact hk)] at q
    exact q⟩
  refine ⟨fun a o q => h1 a o (st.ext a o q), ⟨[], by simp, by simp⟩, ⟨h2, lenM, nd1, fun a ha q => ?_, fun k c q => ?_, fun p hp => ?_, fun a ps q => ?_, fun a ha o ho q => ?_⟩, fun a o q => ?_, fun a o q ha ht => ?_, fun a od u q => ?_⟩
  · rw [h4 a (out a ha)] at q
    exact st.ok.live a (inα a ha) q
  · have hk : k < M.length := by
      have := (List.getElem?_eq_some_iff.mp q).1
      rw [lenM, ← ok.len] at this
      exact this
    have q' : M'[k]? = some (some c) := by
      rw [e2, List.getElem?_take, if_pos hk] at q
      exact q
    obtain ⟨a, e1, e3, e4⟩ := st.ok.cell k c q'
    have e5 := cut.at_ k a hk e1
    have ha : a ∈ W.α := List.mem_of_getElem? e5
    refine ⟨a, e5, ?_, cut.cell e4 ?_ (fun o q => by rw [h4 a (out a ha)]; exact q) fun dx q => notdk dx _ q fun vs e => by cases e⟩
    · show F2 a = none
      cases q2 : F2 a with
      | none => rfl
      | some o =>
        rcases h3 a o q2 with q3 | q3
        · rw [e3] at q3; cases q3
        · exact absurd rfl (nd3 a ha a q3)
    · rcases below with b | b
      · rw [b] at q
        obtain ⟨a', _, _, f3⟩ := ok.cell k c q
        rw [ok.len]
        exact cell_below f3
      · exact List.all_eq_true.mp b _ (List.mem_of_getElem? q)
  · obtain ⟨ps, t1, t2, t3⟩ := st.ok.tabs p hp
    exact ⟨ps, notdk _ _ t1 fun vs e => (by cases e), t2, fun pos cv hcv => let ⟨c, f1, f2⟩ := t3 pos cv hcv; ⟨c, f1, notdk _ _ f2 fun vs e => (by unfold LamX.CodeO at e; cases e)⟩⟩
  · rcases h3 a _ q with q3 | q3
    · exact st.ok.ntb a ps q3
    · have q4 := h2 a _ q
      by_cases hl : a ∈ L
      · obtain ⟨_, od, vs, _, e⟩ := hL a hl
        rw [e] at q4; cases q4
      · rw [h4 a hl] at q4
        exact st.ok.nta a (by rw [em]; exact List.mem_append_right _ q3) _ (.inl ⟨ps, rfl⟩) q4
  · rw [h4 a (out a ha)] at q
    exact st.ok.nta a (inα a ha) o ho q
  · rcases h3 a o q with q3 | q3
    · exact st.fnew a o q3
    · exact .inr (.inl (nw a q3))
  · rw [h4 a fun hl => ?_]
    · exact st.keep a o q ha ht
    · obtain ⟨ps, e⟩ := nw a (hL a hl).1 o q
      exact ht ps e
  · exact notdk a _ (st.frz a od u q) fun vs e => by cases e
theorem lstD_ok {F : Hp} {g : E → Option PD} (w : ∀ v e d, RE z W' v e → g e = some d → RV z F v d) : ∀ {vs : List V} {es : List E} {ds : List PD}, REs z W' vs es → lstD g es = some ds → RVs z F vs ds
  | _, _, ds, .nil, h => by cases h; exact .nil
  | _, _, ds, .cons r t, h => by
    unfold lstD at h
    split at h
    · rename_i d ds' e1 e2
      cases h
      exact .cons (w _ _ _ r e1) (lstD_ok w t e2)
    · cases h
theorem mapK_ok {F : Hp} {g : E → Option PD} (w : ∀ v e d, RE z W' v e → g e = some d → RV z F v d) : ∀ {vs : List (Key × V)} {es : List (Key × E)} {ds : List (Key × PD)}, REk z W' vs es → mapD g es = some ds → RVk z F vs ds
  | _, _, ds, .nil, h => by cases h; exact .nil
  | (k, v) :: vs, (k2, e) :: es, ds, .cons r t, h => by
    obtain ⟨r1, r2⟩ := r
    have r1 : k = k2 := r1
    subst r1
    unfold mapD at h
    split at h
    · rename_i d ds' e1 e2
      cases h
      exact .cons (w _ _ _ r2 e1) (mapK_ok w t e2)
    · cases h
theorem mapF_ok {F : Hp} {g : E → Option PD} (w : ∀ v e d, RE z W' v e → g e = some d → RV z F v d) : ∀ {vs : List (Str × V)} {es : List (Str × E)} {ds : List (Str × PD)}, REf z W' vs es → mapD g es = some ds → RVf z F vs ds
  | _, _, ds, .nil, h => by cases h; exact .nil
  | (k, v) :: vs, (k2, e) :: es, ds, .cons r t, h => by
    obtain ⟨r1, r2⟩ := r
    have r1 : k = k2 := r1
    subst r1
    unfold mapD at h
    split at h
    · rename_i d ds' e1 e2
      cases h
      exact .cons (w _ _ _ r2 e1) (mapF_ok w t e2)
    · cases h
/-- the data of what is new -/
theorem data_ok {more : List Addr} {F2 : Hp} (ok : StoreOk z W M H) (st : StoreOk z W' M' H') (em : W'.α = W.α ++ more) (h1 : ∀ a o, W'.F a = some o → F2 a = some o)
    (hn : ∀ a ∈ more, W'.F a = none → ∀ o, H' a = some o → ∃ o2, F2 a = some o2 ∧ ((∀ vs, o ≠ .dK vs) → o2 = o) ∧ ∀ vs, o = .dK vs → ∃ od, o2 = .frz od (.dK vs)) : ∀ (f : Nat) (v : V) (e : E) (d : PD), RE z W' v e → dataE M.length M' f e = some d → RV z F2 v d
  | f, v, .p d', d, r, h => by
    unfold dataE at h
    cases h
    cases r with | p r => exact r.ext h1
  | 0, v, .r k, d, r, h => by unfold dataE at h; cases h
  | 0, v, .fn .., d, r, h => by unfold dataE at h; cases h
  | f + 1, v, .fn .., d, r, h => by unfold dataE at h; cases h
  | f + 1, v, .r k, d, r, h => by
    have ih := data_ok ok st em h1 hn f
    unfold dataE at h
    split at h
    · rename_i hk
      cases r with | r ha =>
      rename_i a
      have am : a ∈ more := by
        rw [em, List.getElem?_append_right (by rw [← ok.len]; exact hk)] at ha
        exact List.mem_of_getElem? ha
      split at h
      · rename_i es hM
        split at h
        · rename_i ds hd
          cases h
          obtain ⟨b, e1, e2, vs, e3, e4, e5⟩ := st.cell _ _ hM
          rw [ha] at e1; cases e1
          obtain ⟨o2, f1, f2, _⟩ := hn a am e2 _ e3
          rw [f2 fun _ q => by cases q] at f1
          exact .lst f1 e4 (lstD_ok ih e5 hd)
        · cases h
      · rename_i es hM
        split at h
        · rename_i ds hd
          cases h
          obtain ⟨b, e1, e2, vs, e3, e4, e5⟩ := st.cell _ _ hM
          rw [ha] at e1; cases e1
          obtain ⟨o2, f1, _, f2⟩ := hn a am e2 _ e3
          obtain ⟨od, f3⟩ := f2 vs rfl
          rw [f3] at f1
          exact .dic f1 e4 (mapK_ok ih e5 hd)
        · cases h
      · rename_i c fs hM
        split at h
        · rename_i ds hd
          cases h
          obtain ⟨b, e1, e2, dx, vs, e3, e4, e5, e6⟩ := st.cell _ _ hM
          rw [ha] at e1; cases e1
          obtain ⟨o2, f1, f2, _⟩ := hn a am e2 _ e3
          rw [f2 fun _ q => by cases q] at f1
          exact .ins f1 (mapF_ok ih e6 hd)
        · cases h
      · cases h
    · cases h
end
section
variable {X : Cx} {z : Bz} {Wx : WX} {pins : List (Addr × Obj)} {σ : L2.St} {s : Shared}
theorem lockAll : ∀ (L : List Addr) (H : Hp), L.Nodup → L2.Inv X pins σ H s → (∀ a ∈ L, ∃ vs, H a = some (.dK vs)) → ∃ H2, L2.Inv X pins σ H2 s ∧ (∀ a, a ∉ L → H2 a = H a) ∧ ∀ a ∈ L, ∃ od vs, H a = some (.dK vs) ∧ H2 a = some (.frz od (.dK vs))
  | [], H, _, I, _ => ⟨H, I, fun _ _ => rfl, fun a h => by cases h⟩
  | b :: L, H, nd, I, h => by
    obtain ⟨n1, n2⟩ := List.nodup_cons.mp nd
    obtain ⟨vs, hb⟩ := h b List.mem_cons_self
    obtain ⟨od, I1⟩ := I.lock hb True.intro
    have ne : ∀ a ∈ L, a ≠ b := fun a ha e => n1 (e ▸ ha)
    obtain ⟨H2, I2, k1, k2⟩ := lockAll L _ n2 I1 fun a ha => by rw [upd_ne (ne a ha)]; exact h a (List.mem_cons_of_mem _ ha)
    refine ⟨H2, I2, fun a ha => ?_, fun a ha => ?_⟩
    · rw [k1 a fun q => ha (List.mem_cons_of_mem _ q), upd_ne fun e => ha (by rw [e]; exact List.mem_cons_self)]
    · rcases List.mem_cons.mp ha with e | ha
      · subst e
        refine ⟨od, vs, hb, ?_⟩
        rw [k1 a n1, upd_same]
      · obtain ⟨od', vs', q1, q2⟩ := k2 a ha
        rw [upd_ne (ne a ha)] at q1
        exact ⟨od', vs', q1, q2⟩
open Classical in
theorem frz_core {W W' : Wd} {M M' M2 : Store} {H H' : Hp} {e e2 : E} {v : V} (ok : StoreOk z W M H) (st : Step z W H W' M' H') (I : L2.Inv X pins σ H' s) (r : RE z W' v e) (hc : cutSt M M' = some M2) (he : resE M.length M' e = some e2) :
    ∃ W2 H2, L2.Inv X pins σ H2 s ∧ Step z W H W2 M2 H2 ∧ RE z W2 v e2 := by
  obtain ⟨more, em, nw⟩ := st.pre
  have nd := st.ok.nd
  rw [em] at nd
  obtain ⟨nd1, nd2, nd3⟩ := List.nodup_append.mp nd
  have nd2' : (more.filter fun a => decide (W'.F a = none ∧ ∃ vs, H' a = some (.dK vs))).Nodup := nd2.sublist List.filter_sublist
  obtain ⟨H2, I2, k1, k2⟩ := lockAll (more.filter fun a => decide (W'.F a = none ∧ ∃ vs, H' a = some (.dK vs))) H' nd2' I fun a ha => (of_decide_eq_true (List.mem_filter.mp ha).2).2
  have kn : ∀ a o, H' a = some o → (∀ vs, o ≠ .dK vs) → H2 a = some o := fun a o q hn => by
    rw [k1 a fun hl => ?_]
    · exact q
    · obtain ⟨_, vs, e⟩ := of_decide_eq_true (List.mem_filter.mp hl).2
      rw [q] at e
      exact hn vs (Option.some.inj e)
  let F2 : Hp := fun a => match W'.F a with
    | some o => some o
    | none => if a ∈ more then H2 a else none
  have f1 : ∀ a o, W'.F a = some o → F2 a = some o := fun a o q => by show (match W'.F a with | some o => some o | none => if a ∈ more then H2 a else none) = _; rw [q]
  have f2 : ∀ a, W'.F a = none → a ∈ more → F2 a = H2 a := fun a q h => by
    show (match W'.F a with | some o => some o | none => if a ∈ more then H2 a else none) = _
    rw [q]
    exact if_pos h
  have f3 : ∀ a o, F2 a = some o → W'.F a = some o ∨ (W'.F a = none ∧ a ∈ more ∧ H2 a = some o) := fun a o q => by
    have q : (match W'.F a with | some o => some o | none => if a ∈ more then H2 a else none) = some o := q
    cases e : W'.F a with
    | some o' => rw [e] at q; exact .inl q
    | none =>
      rw [e] at q
      have q : (if a ∈ more then H2 a else none) = some o := q
      by_cases h : a ∈ more
      · rw [if_pos h] at q; exact .inr ⟨rfl, h, q⟩
      · rw [if_neg h] at q; cases q
  have cutS : Step z W H ⟨F2, W.α⟩ M2 H2 := by
    refine cut_step (L := more.filter fun a => decide (W'.F a = none ∧ ∃ vs, H' a = some (.dK vs))) ok st hc em (fun a ha => ⟨(List.mem_filter.mp ha).1, k2 a ha⟩) k1 f1 (fun a o q => ?_) fun a o q => (f3 a o q).imp id fun h => h.2.1
    rcases f3 a o q with q | ⟨_, _, q⟩
    · refine (k1 a fun hl => ?_).trans (st.ok.same a o q)
      have e := (of_decide_eq_true (List.mem_filter.mp hl).2).1
      rw [q] at e
      cases e
    · exact q
  refine ⟨_, H2, I2, cutS, ?_⟩
  unfold resE at he
  split at he
  · rename_i hb
    cases he
    exact (Cut.mk (W' := W') (W2 := ⟨F2, W.α⟩) (n := M.length) f1 fun k a hk q => by
      rw [em, List.getElem?_append_left (by rw [← ok.len]; exact hk)] at q
      exact q).re r hb
  · split at he
    · rename_i d hd
      cases he
      refine .p (data_ok ok st.ok em f1 (fun a ha hF o q => ?_) 8 v e d r hd)
      by_cases hdk : ∃ vs, o = .dK vs
      · obtain ⟨vs, e⟩ := hdk
        subst e
        obtain ⟨od, vs', q1, q2⟩ := k2 a (List.mem_filter.mpr ⟨ha, decide_eq_true ⟨hF, vs, q⟩⟩)
        rw [q] at q1
        cases q1
        exact ⟨_, (f2 a hF ha).trans q2, fun hn => absurd rfl (hn vs), fun vs2 e => by cases e; exact ⟨od, rfl⟩⟩
      · exact ⟨o, (f2 a hF ha).trans (kn a o q fun vs e => hdk ⟨vs, e⟩), fun _ => rfl, fun vs e => absurd ⟨vs, e⟩ hdk⟩
    · cases he
theorem pd_frz {f : FE} {e : Expr} (h : PE X e (tE z Wx f)) : PE X e (tE z Wx (fFrz f)) := by
  refine ⟨fun pins s σ H Q I ⟨W, M, ρ, ok, env, r, hr, po⟩ => ?_⟩
  unfold fFrz at hr
  unfold cutR at hr
  split at hr
  · rename_i e1 M1 ef
    split at hr
    · rename_i M2 e2 hc he
      cases hr
      refine thn (h.run pins s σ H (fun v H' => ∃ W', Step z W H W' M1 H' ∧ RE z W' v e1) I ⟨W, M, ρ, ok, env, _, ef, fun W' H' v st q => ⟨W', st, q⟩⟩) fun u s1 ⟨v, H1, I1, rv, W1, st, q⟩ => ?_
      obtain ⟨W2, H2, I2, st2, q2⟩ := frz_core ok st I1 q hc he
      exact ⟨v, H2, I2, rv, po W2 H2 v st2 q2⟩
    · cases hr
  · rename_i x M1 ef
    split at hr
    · rename_i M2 hc
      cases hr
      refine h.run pins s σ H Q I ⟨W, M, ρ, ok, env, _, ef, fun W' H' c d st q => ?_⟩
      obtain ⟨more, em, _⟩ := st.pre
      exact po ⟨W'.F, W.α⟩ H' c d (cut_step (L := []) ok st hc em (fun a h => by cases h) (fun _ _ => rfl) (fun _ _ q => q) (fun a o q => st.ok.same a o q) fun a o q => .inl q) q
    · cases hr
  · cases hr
end
end Pl

-- PS7
namespace Pl
open PySem PySem.Spec PySem.W PyProof.Rows L2
section
variable {prog : Program} {w : World} {M : Model} {A : Around} {E : Value → Shared → Prop} {s : Shared} {K : Frag} {x C L f : Addr} {h₀ : Heap} {m : PySem.Str → Option Value} {ox : Obj} {od : Option Obj} {b tb : Value}
theorem ifBound_B {name : PySem.Str} {id : String} {args : List Value} {Q : Option Value → Shared → Prop} (X : K.In s.heap) (I : InstAt s.heap x ox C od) (hs : findIn K (.ref C) name = some (some (.builtin id))) (hb : ∀ self, bindSpecial (.builtin id) self = pure (.builtin id, [self]))
    (h : wpAny M A (call (.builtin id) (.ref x :: args)) (fun v => Q (some v)) E s) : wpAny M A (callSpecialIfBound? (.ref x) name args) Q E s := by
  simp only [callSpecialIfBound?, bindSpecialIfBound?]
  refine wpAny_holding (wpAny_bind (wpAny_bind (wpAny_bind (I.type.here ((looks_findIn X hs).here ?_)))))
  simp only [hb]
  refine wpAny_bind (wpAny_askSetting (wpAny_ite ?_))
  have fin : wpAny M A (call (.builtin id) ([.ref x] ++ args) >>= fun v => pure (some v)) Q E s := wpAny_bind (wpAny_mono h (fun v s' q => wpAny_pure q) fun _ _ q => q)
  split
  · exact wpAny_bind (wpAny_pure (wpAny_pure fin))
  · exact wpAny_tryCatch (wpAny_bind (wpAny_pure (wpAny_pure fin)))
/-- what the own == gives, turned -/
def NotB (Q : Value → Shared → Prop) (v : Value) (s' : Shared) : Prop := ∃ k, v = .bool k ∧ Q (.bool (!k)) s'
open Builtin in
theorem call_objNe {Q : Value → Shared → Prop} (hu : A.in1.units < cLine) (X : K.In s.heap) (I : InstAt s.heap x ox C od) (hm : mroIn K C (.type "object") = some true) (hr : findIn K (.ref C) "__eq__" = some (some (.ref f))) (hf : isFn K (.ref f) = true)
    (h : wpAny (model prog w) A.in1 (call (.ref f) [.ref x, b]) (NotB Q) E s) : wpAny (model prog w) A (call (.builtin "object.__ne__") [.ref x, b]) Q E s := by
  refine wpAny_call (codeAny_call_builtin PySem.F.cmp_object.ne.plain PySem.F.cmpEntry_ne (check_slot (i := "object.__ne__") (owner := "object") (n := "__ne__") (by decide +kernel) (by decide +kernel) (I.type.andThen (looks_mroIn X hm)) (PySem.F.cmpArgs_ne _ _) ?_))
  unfold Builtin.«object.__ne__»
  refine wpAny_bind (m := slotArgs "__ne__" 1 _) (wpAny_pure ?_)
  refine wpAny_bind (m := cRoomFor _ _) (wpAny_cRoomFor hu ?_)
  refine wpAny_bind (m := callSpecialIfBound? (.ref x) (PySem.Str.ofString "__eq__") _) (ifBound_K X I hr hf (wpAny_mono h (fun r s' q => ?_) fun _ _ y => y))
  obtain ⟨k, e, q⟩ := q
  subst e
  first | exact wpAny_bind (wpAny_truthy_bool (wpAny_pure q)) | exact wpAny_bind (wpAny_bind (wpAny_truthy_bool (wpAny_pure (wpAny_pure q)))) | exact wpAny_bind (wpAny_truthy_bool (wpAny_pure ⟨_, rfl, q⟩))
theorem ne_own {Q : Value → Shared → Prop} (hu : A.units + 1 < cLine) (F : Fr h₀ L s.heap m) (X₀ : K.In h₀) (I : InstAt s.heap x ox C od) (hb : Looks (model prog w) s.heap (typeOf b) tb) (hn : notFirst K C tb = true) (hm : mroIn K C (.type "object") = some true)
    (hne : findIn K (.ref C) "__ne__" = some (some (.builtin "object.__ne__"))) (hr : findIn K (.ref C) "__eq__" = some (some (.ref f))) (hf : isFn K (.ref f) = true)
    (h : wpAny (model prog w) A.in1 (call (.ref f) [.ref x, b]) (NotB Q) E s) : wpAny (model prog w) A (richCompare .NotEq (.ref x) b) Q E s := by
  have X := X₀.keeps F.keep
  have one : wpAny (model prog w) A (tryCompare (.ref x) (cmpInfo .NotEq).2.1 b) (fun r s' => ∃ v, r = some v ∧ Q v s') E s := by
    unfold tryCompare
    refine wpAny_bind (ifBound_B X I hne PySem.F.cmp_object.ne.bind (call_objNe hu X I hm hr hf (wpAny_mono h (fun v s' q => ?_) fun _ _ e => e)))
    obtain ⟨k, e, q⟩ := q
    subst e
    exact ⟨k, rfl, wpAny_pure ⟨_, rfl, q⟩⟩
  unfold richCompare
  simp only [oneThing_ref]
  refine wpAny_holding (wpAny_bind (wpAny_cRoomFor (by omega) ?_))
  refine wpAny_bind (I.type.here (wpAny_bind (hb.here ?_)))
  split
  · rename_i q
    have e : subIn K tb (.ref C) = some false := by
      rcases Bool.or_eq_true_iff.mp hn with e | e
      · rw [beq_iff_eq.mp e] at q; simp at q
      · exact beq_iff_eq.mp e
    refine wpAny_bind ((looks_subIn X e).here ?_)
    simp only [Bool.false_eq_true, if_false]
    refine wpAny_bind (wpAny_mono one (fun r s' z => ?_) fun _ _ e => e)
    obtain ⟨v, rfl, hq⟩ := z
    exact wpAny_pure hq
  · refine wpAny_bind (wpAny_pure ?_)
    simp only [Bool.false_eq_true, if_false]
    refine wpAny_bind (wpAny_mono one (fun r s' z => ?_) fun _ _ e => e)
    obtain ⟨v, rfl, hq⟩ := z
    exact wpAny_pure hq
end
end Pl

-- PL29
namespace Pl
open PySem PySem.Spec L2 PyProof.Rows

structure OwnE (K : PySem.W.Frag) (C f : Addr) : Prop where
  eq : PySem.W.findIn K (.ref C) "__eq__" = some (some (.ref f))
  fn : PySem.W.isFn K (.ref f) = true
  ne : PySem.W.findIn K (.ref C) "__ne__" = some (some (.builtin "object.__ne__"))
  obj : PySem.W.mroIn K C (.type "object") = some true
def ownRes (g : Bool → Bool) (r : Rs E) : Option (E × Store) := match r with
  | some (.inr (.p (.bl k)), M2) => some (.p (.bl (g k)), M2)
  | _ => none
def gOwn (c0 : Nat) (ff : FF) (g : Bool → Bool) : G2 := fun a b M => match insFs [c0] a M, insFs [c0] b M with
  | some _, some _ => ownRes g (ff [a, b] M)
  | _, _ => none
section
variable {X : Cx} {z : Bz} {Wx : WX}
theorem run_sub {k : Nat} {A : Around} {f : Addr} {fd : FuncData} {ps : List Str} {sp : Sp} {pins : List (Addr × Obj)} {σ : L2.St} {H : Hp} {s : Shared} {Q : VK} {us : List Value} {vs : List V} (F : FnOk X.prog X.w X.K X.mg X.base (L2.CX X.prog X.w) k f fd ps sp) (hr : Room k A) (fr : A.frames = X.A.frames) (hb : Binds X.K fd ps [])
    (I : L2.Inv X pins σ H s) (r : Vals vs us) (h : sp vs H Q (WE (fun _ _ _ _ => False) σ)) : wpAny (model X.prog X.w) A (call (.ref f) us) (EP X pins σ Q) X.xe s := by
  have hl := (r.length.symm.trans (F.len _ _ _ _ h))
  have e0 : Env0 X.prog X.w X.K X.mg X.base A X.stack s H := by
    have e := I.env0
    exact ⟨by rw [fr]; exact e.frames, e.mod, e.bs, e.bsz, e.funs, e.frf, e.hok, e.bare⟩
  have hb' := hb s us I.kIn (by rw [List.append_nil]; exact hl)
  rw [List.append_nil] at hb'
  refine wpAny_call (codeAny_mono (F.run A X.stack s H ⟨us, []⟩ us vs Q _ hr e0 hb' r h) fun r s' hq => ?_)
  cases r with
  | error e => exact passAt LamX.takes0 σ pins H s e s' I hq
  | ok fl =>
    cases fl with
    | ret u => exact I.after hq
    | next => exact False.elim hq
    | brk => exact False.elim hq
    | cont => exact False.elim hq
theorem own_split {c0 : Nat} {ff : FF} {g : Bool → Bool} {W : Wd} {M M' : Store} {H : Hp} {a b e : E} {x y : V} (ok : StoreOk z W M H) (ra : RE z W x a) (rb : RE z W y b) (h : gOwn c0 ff g a b M = some (e, M')) :
    ∃ p q dx dy fs gs k, x = .ref p ∧ y = .ref q ∧ H p = some (.ins (z.ca c0) dx fs) ∧ H q = some (.ins (z.ca c0) dy gs) ∧ ff [a, b] M = some (.inr (.p (.bl k)), M') ∧ e = .p (.bl (g k)) := by
  unfold gOwn at h
  split at h
  · rename_i fs1 fs2 h1 h2
    obtain ⟨p, dx, c1, vs1, e1, e2, e3, _⟩ := ins_fs ok ra h1
    obtain ⟨q, dy, c2, vs2, f1, f2, f3, _⟩ := ins_fs ok rb h2
    rw [List.mem_singleton.mp e3] at e2
    rw [List.mem_singleton.mp f3] at f2
    unfold ownRes at h
    split at h
    · rename_i k M2 hf
      cases h
      exact ⟨p, q, dx, dy, vs1, vs2, k, e1, f1, e2, f2, hf, rfl⟩
    · cases h
  · cases h
theorem op_ownEq {j k c0 : Nat} {f : Addr} {ps : List Str} {ff : FF} (G : FnR z X.mg X.base j f ps 2 ff) (F : Fits X z) (o : OwnE z.K (z.ca c0) f) (hr : Room k X.A) (hjk : j ≤ k := by decide) : OpR X (compareOp .Eq) (r2D z (gOwn c0 ff id)) := by
  obtain ⟨fd, G1, G2, G3⟩ := G
  rw [F.prog, F.w, F.K] at G1
  rw [F.K] at G2 G3 o
  intro pins s σ H x y v u Q I rx ry ⟨W, M, a, b, ok, ra, rb, e, M', hg, hq⟩
  obtain ⟨p, q, dx, dy, fs, gs, kb, e1, e2, ha, hb', hff, ee⟩ := own_split ok ra rb hg
  subst e1 e2 ee
  cases rx
  cases ry
  obtain ⟨mA, J, _⟩ := ins_get I.hok ha
  obtain ⟨mB, J', _⟩ := ins_get I.hok hb'
  obtain ⟨od, J, _⟩ := J.look
  obtain ⟨od', J', _⟩ := J'.look
  obtain ⟨m, hF⟩ := I.fr
  refine PySem.W.cmp_K (op := .Eq) (tb := .ref (z.ca c0)) hr.units0 hF I.ok.mod.kin J J'.type (by simp [PySem.W.notFirst]) o.eq o.fn ?_
  refine wpAny_mono (run_sub (Q := fun v H' => ∃ W', Step z W H W' M' H' ∧ v = .bl kb) G1 (hr.mono hjk) rfl G3 I (.cons (show RelV (.ref p) (.ref p) from rfl) (.cons (show RelV (.ref q) (.ref q) from rfl) .nil)) ⟨W, M, [a, b], ok, .cons ra (.cons rb .nil), rfl, _, hff, fun W' H' v st q => ⟨W', st, re_bl q⟩⟩) (fun w s1 h => ?_) fun _ _ q => q
  obtain ⟨v, H', I', rv, W', st, ev⟩ := h
  subst ev
  cases rv
  exact ⟨.bl kb, H', I', rfl, hq W' H' _ st (.p (.bl _))⟩
theorem op_ownNe {j k c0 : Nat} {f : Addr} {ps : List Str} {ff : FF} (G : FnR z X.mg X.base j f ps 2 ff) (F : Fits X z) (o : OwnE z.K (z.ca c0) f) (hr : Room k X.A) (hjk : j + 1 ≤ k := by decide) : OpR X (compareOp .NotEq) (r2D z (gOwn c0 ff not)) := by
  obtain ⟨fd, G1, G2, G3⟩ := G
  rw [F.prog, F.w, F.K] at G1
  rw [F.K] at G2 G3 o
  intro pins s σ H x y v u Q I rx ry ⟨W, M, a, b, ok, ra, rb, e, M', hg, hq⟩
  obtain ⟨p, q, dx, dy, fs, gs, kb, e1, e2, ha, hb', hff, ee⟩ := own_split ok ra rb hg
  subst e1 e2 ee
  cases rx
  cases ry
  obtain ⟨mA, J, _⟩ := ins_get I.hok ha
  obtain ⟨mB, J', _⟩ := ins_get I.hok hb'
  obtain ⟨od, J, _⟩ := J.look
  obtain ⟨od', J', _⟩ := J'.look
  obtain ⟨m, hF⟩ := I.fr
  have hu := hr.units
  refine ne_own (tb := .ref (z.ca c0)) (by omega) hF I.ok.mod.kin J J'.type (by simp [PySem.W.notFirst]) o.obj o.ne o.eq o.fn ?_
  refine wpAny_mono (run_sub (Q := fun v H' => ∃ W', Step z W H W' M' H' ∧ v = .bl kb) G1 ((hr.mono hjk).in1) rfl G3 I (.cons (show RelV (.ref p) (.ref p) from rfl) (.cons (show RelV (.ref q) (.ref q) from rfl) .nil)) ⟨W, M, [a, b], ok, .cons ra (.cons rb .nil), rfl, _, hff, fun W' H' v st q => ⟨W', st, re_bl q⟩⟩) (fun w s1 h => ?_) fun _ _ q => q
  obtain ⟨v, H', I', rv, W', st, ev⟩ := h
  subst ev
  cases rv
  exact ⟨kb, rfl, .bl (!kb), H', I', rfl, hq W' H' _ st (.p (.bl _))⟩
end
end Pl

-- PL30
namespace Pl
open PySem PySem.Spec L2 PyProof.Rows

section
variable {X : Cx} {z : Bz}
def gLenD : GL := fun xs M => match xs with
  | [e] => match asDic M e with
    | some es => some (.p (.int es.length), M)
    | none => none
  | _ => none
theorem call_lenD : CallR X (.builtin "len") (fun xs H Q => ∃ (a : Addr) (kvs : List (Key × V)), xs = [.ref a] ∧ Rd H a (.dK kvs) ∧ Q (.int kvs.length) H) := by
  intro pins s σ H xs us Q I r ⟨a, kvs, ex, hd, q⟩
  subst ex
  obtain ⟨u, eu, rx⟩ := vals1 r
  subst eu
  cases rx
  exact d_len I hd fun t s' I' => ⟨.int kvs.length, H, I', ⟨_, rfl⟩, q⟩
theorem cr_lenD : CallR X (.builtin "len") (rLD z gLenD) := callR_of call_lenD fun xs H Q ⟨W, M, es, ok, r, e, M', hg, hq⟩ => by
  unfold gLenD at hg
  split at hg
  · split at hg
    · rename_i ds hd
      cases hg
      cases r with | @cons v0 _ vs _ r0 rs =>
      cases rs
      obtain ⟨a, vs, rfl, h1, h2, h3⟩ := asDic_ok ok r0 hd
      exact ⟨a, vs, rfl, h1, hq W H _ (.refl ok) (by rw [PySem.Paired.length h3]; exact .p (.int _))⟩
    · cases hg
  · cases hg
theorem call_listStr (hc : X.calm = true) : CallR X (.type "list") (fun xs H Q => ∃ x : Str, xs = [.str x] ∧ x.cps.size ≤ sizeLine ∧ ∀ p, H p = none → Q (.ref p) (upd H p (.lst (x.cps.toList.map fun c => V.str ⟨#[c]⟩)))) := by
  intro pins s σ H xs us Q I r ⟨x, ex, hz, q⟩
  subst ex
  obtain ⟨u, eu, rx⟩ := vals1 r
  subst eu
  obtain ⟨t, et⟩ := rx
  subst et
  refine call_list_str (I.ok.hd hc) x t (fun h' tk acc c' hk hS hacc => ?_) hz
  have hv : Vals (x.cps.toList.map fun c => V.str ⟨#[c]⟩) acc.toList := vals_of_at (by rw [List.length_map, Array.length_toList, Array.length_toList]; exact hacc.1.symm) fun j y u h1 h2 => by
    rw [Array.getElem?_toList] at h2
    obtain ⟨c, t', e1, e2⟩ := hacc.2 j u h2
    rw [List.getElem?_map, Array.getElem?_toList, e1] at h1
    cases h1
    exact ⟨t', e2⟩
  exact ⟨.ref s.heap.objs.size, upd H s.heap.objs.size (.lst (x.cps.toList.map fun c => V.str ⟨#[c]⟩)), I.laid (t' := tk) hk (Nat.le_refl _)
    (show ObjOk X.prog X.w _ _ _ (.lst _) from ⟨by rw [List.length_map, Array.length_toList]; exact hz, acc.toList, c', hv, by rw [Array.toArray_toList]; exact hS⟩), rfl, q _ (I.hok.fresh (Nat.le_refl _))⟩
theorem res_chars {W : Wd} : ∀ l : List Nat, REs z W (l.map fun c => V.str ⟨#[c]⟩) (l.map fun c => E.p (.str ⟨#[c]⟩))
  | [] => .nil
  | _ :: l => .cons (.p (.str _)) (res_chars l)
def gListS (m : Bool) : GL := fun xs M => match xs with
  | [.p (.str x)] => if x.cps.size ≤ 16777216 then mkLst m (chars x) M else none
  | _ => none
theorem cr_listS (hc : X.calm = true) {m : Bool} : CallR X (.type "list") (rLD z (gListS m)) := callR_of (call_listStr hc) fun xs H Q ⟨W, M, es, ok, r, e, M', hg, hq⟩ => by
  unfold gListS at hg
  split at hg
  · rename_i x
    split at hg
    · rename_i hl
      cases r with | cons r0 rs =>
      cases rs
      refine ⟨x, by rw [re_str r0], by rw [sizeLine_eq]; exact hl, fun p hp => ?_⟩
      exact mkLst_ok ok hg (res_chars _) (by rw [List.length_map, Array.length_toList, sizeLine_eq]; exact hl) hp hq
    · cases hg
  · cases hg
def pairsP : List E → Option (List (Key × E))
  | [] => some []
  | .p (.tup [a, d]) :: r => match asKey (.p a), pairsP r with
    | some k, some l => some ((k, .p d) :: l)
    | _, _ => none
  | _ => none
theorem pairsP_ok {W : Wd} {M : Store} {H : Hp} (ok : StoreOk z W M H) : ∀ {vs : List V} {es : List E} {l : List (Key × E)}, REs z W vs es → pairsP es = some l → ∃ (ps : List Addr) (kvs : List (Key × V)), vs = ps.map V.ref ∧ PySem.Paired (fun p kv => SqT z.K H p [kV kv.1, kv.2]) ps kvs ∧ REk z W kvs l
  | _, [], l, .nil, h => by cases h; exact ⟨[], [], rfl, .nil, .nil⟩
  | v :: vs, e :: es, l, .cons r0 rs, h => by
    unfold pairsP at h
    split at h
    · rename_i q
      cases q
    · rename_i a d r' q
      cases q
      split at h
      · rename_i k l' hk hl
        cases h
        obtain ⟨ps, kvs, e1, e2, e3⟩ := pairsP_ok ok rs hl
        cases r0 with | p r0 =>
        cases r0 with | @tup b xs _ h1 h2 h3 =>
        cases h3 with | cons q1 h3 =>
        cases h3 with | cons q2 h3 =>
        cases h3
        have ek := asKey_ok (W := W) (.p q1) hk
        subst ek
        exact ⟨b :: ps, (k, _) :: kvs, by rw [e1]; rfl, .cons ((Ext.of ok.same).sqT h1) e2, .cons ⟨rfl, .p q2⟩ e3⟩
      · cases h
    · cases h
def gDictP : GL := fun xs M => match xs with
  | [e] => match asLst M e with
    | some es => match pairsP es with
      | some l => if keysOk l = true ∧ l.length ≤ 16777216 then some (.r M.length, M ++ [some (.dic l)]) else none
      | none => none
    | none => none
  | _ => none
theorem cr_dictP (F : Fits X z) (hc : X.calm = true) : CallR X (.type "dict") (rLD z gDictP) := callR_of (call_dictP hc) fun xs H Q ⟨W, M, es, ok, r, e, M', hg, hq⟩ => by
  unfold gDictP at hg
  split at hg
  · rename_i e0
    split at hg
    · rename_i es0 he
      split at hg
      · rename_i l hl
        split at hg
        · rename_i hk
          cases hg
          cases r with | cons r0 rs =>
          cases rs
          obtain ⟨a, vs, rfl, h1, h2, h3⟩ := asLst_ok ok r0 he
          obtain ⟨ps, kvs, e1, e2, e3⟩ := pairsP_ok ok h3 hl
          subst e1
          refine ⟨a, ps, kvs, rfl, .of h1, F.K ▸ e2, fun p hp => ?_⟩
          have em : mergeK [] kvs = kvs := merge_distinct kvs [] (by rw [List.nil_append, rek_keys e3]; exact keys_nodup hk.1)
          rw [em]
          obtain ⟨s1, s2⟩ := newDic ok hp (by rw [PySem.Paired.length e3, sizeLine_eq]; exact hk.2) e3
          exact hq _ _ _ s1 s2
        · cases hg
      · cases hg
    · cases hg
  · cases hg
def toPyL (M : Store) : List E → Option (List PyData)
  | [] => some []
  | e :: r => match toPyE M e, toPyL M r with
    | some x, some l => some (x :: l)
    | _, _ => none
def toPyN (M : Store) (e : E) : Option PyData := match toPyE M e with
  | some x => some x
  | none => match e with
    | .r k => match M[k]? with
      | some (some (.lst es)) => match toPyL M es with
        | some l => some (.list l)
        | none => none
      | _ => none
    | _ => none
theorem toPyL_plain {M : Store} : ∀ {es : List E} {l : List PyData}, toPyL M es = some l → PyData.plainAll l = true
  | [], l, h => by cases h; rfl
  | e :: es, l, h => by
    unfold toPyL at h
    split at h
    · rename_i x l' h1 h2
      cases h
      show (x.plain && PyData.plainAll l') = true
      rw [toPyE_plain h1, toPyL_plain h2]; rfl
    · cases h
theorem toPyN_plain {M : Store} {e : E} {x : PyData} (h : toPyN M e = some x) : x.plain = true := by
  unfold toPyN at h
  split at h
  · rename_i y hy
    cases h
    exact toPyE_plain hy
  · split at h
    · split at h
      · split at h
        · rename_i l hl
          cases h
          exact toPyL_plain hl
        · cases h
      · cases h
    · cases h
theorem toPyL_dp {W : Wd} {M : Store} {H : Hp} (ok : StoreOk z W M H) : ∀ {vs : List V} {es : List E} {l : List PyData}, REs z W vs es → toPyL M es = some l → DpAll z.K H vs l
  | _, _, l, .nil, h => by cases h; exact .nil
  | _, _, l, .cons r rs, h => by
    unfold toPyL at h
    split at h
    · rename_i x l' h1 h2
      cases h
      exact .cons (r.dp ok h1) (toPyL_dp ok rs h2)
    · cases h
theorem dpN {W : Wd} {M : Store} {H : Hp} {v : V} {e : E} {x : PyData} (ok : StoreOk z W M H) (r : RE z W v e) (h : toPyN M e = some x) : Dp z.K H v x := by
  unfold toPyN at h
  split at h
  · rename_i y hy
    cases h
    exact r.dp ok hy
  · split at h
    · rename_i k
      split at h
      · rename_i es hM
        split at h
        · rename_i l hl
          cases h
          cases r with | r ha =>
          obtain ⟨b, e1, e2, vs, e3, e4, e5⟩ := ok.cell _ _ hM
          rw [ha] at e1; cases e1
          exact .lst (.of e3) (toPyL_dp ok e5 hl)
        · cases h
      · cases h
    · cases h
def pyEqN (M : Store) (a b : E) : Option Bool := match toPyN M a, toPyN M b with
  | some x, some y => if min x.depth y.depth ≤ 60 then some (PyData.eqv x y) else none
  | _, _ => none
def gEqN : G2 := fun a b M => gBl (pyEqN M a b) M
def gNeN : G2 := fun a b M => gBl ((pyEqN M a b).map not) M
theorem op_eqN (F : Fits X z) (hu : X.A.units + 64 < cLine) : OpR X (compareOp .Eq) (r2D z gEqN) := by
  refine op_bl (o := pyEqN) F fun M a b k h pins s σ H W x y v u Q I ok ra rb rx ry q => ?_
  unfold pyEqN at h
  split at h
  · rename_i dx dy e1 e2
    split at h
    · rename_i hd
      cases h
      obtain ⟨as, r1⟩ := Dp.reads I dx x v (F.K ▸ dpN ok ra e1) rx
      obtain ⟨bs, r2⟩ := Dp.reads I dy y u (F.K ▸ dpN ok rb e2) ry
      exact PySem.SeqAt.eq_plain r1 r2 (toPyN_plain e1) (toPyN_plain e2) (by omega) (q s.toks)
    · cases h
  · cases h
theorem op_neN (F : Fits X z) (hu : X.A.units + 64 < cLine) : OpR X (compareOp .NotEq) (r2D z gNeN) := by
  refine op_bl (o := fun M a b => (pyEqN M a b).map not) F fun M a b k h pins s σ H W x y v u Q I ok ra rb rx ry q => ?_
  unfold pyEqN at h
  split at h
  · rename_i dx dy e1 e2
    split at h
    · rename_i hd
      cases h
      obtain ⟨as, r1⟩ := Dp.reads I dx x v (F.K ▸ dpN ok ra e1) rx
      obtain ⟨bs, r2⟩ := Dp.reads I dy y u (F.K ▸ dpN ok rb e2) ry
      exact PySem.SeqAt.ne_plain r1 r2 (toPyN_plain e1) (toPyN_plain e2) (by omega) (q s.toks)
    · cases h
  · cases h
end
end Pl

-- PL31
namespace Pl
open PySem PySem.Spec L2 PyProof.Rows

section
variable {X : Cx} {z : Bz} {Wx : WX}
theorem op_dIn (hu : X.A.units + 64 < cLine) : OpR X (compareOp .In) (r2D z (gDIn true)) := by
  intro pins s σ H x y v u Q I rx ry ⟨W, M, a, b, ok, ra, rb, e, M', hg, hq⟩
  obtain ⟨p, o, e1, hd, e2, eM⟩ := din_split ok ra rb hg
  subst e1 e2 eM
  cases ry
  exact d_in (by omega) I hd rx fun s' I' => ⟨.bl o.isSome, H, I', rfl, hq W H _ (.refl ok) (by cases o.isSome <;> exact .p (.bl _))⟩
theorem op_dNotIn (hu : X.A.units + 64 < cLine) : OpR X (compareOp .NotIn) (r2D z (gDIn false)) := by
  intro pins s σ H x y v u Q I rx ry ⟨W, M, a, b, ok, ra, rb, e, M', hg, hq⟩
  obtain ⟨p, o, e1, hd, e2, eM⟩ := din_split ok ra rb hg
  subst e1 e2 eM
  cases ry
  exact d_notIn (by omega) I hd rx fun s' I' => ⟨.bl (!o.isSome), H, I', rfl, hq W H _ (.refl ok) (by cases o.isSome <;> exact .p (.bl _))⟩
def fLstRg (m : Bool) (f : FE) : FE := fun ρ M => bnd (f ρ M) fun x M1 => match asInt x with
  | some n => if okRg 0 n = true then lft (mkLst m (rangeE 0 n.toNat) M1) else none
  | none => none
theorem pd_lstRg {m : Bool} {f : FE} {a : Expr} {p p2 pos pos2 : Pos} (hc : X.calm = true) (hg : Gl X "list") (hm : X.mg "list" = none) (hg2 : Gl X "range") (hm2 : X.mg "range" = none) (ha : PE X a (tE z Wx f))
    (na : starEach [a] X.env = (false, eval a X.env) :: starEach [] X.env := by rfl) (na2 : starEach [.Call (.Name "range" p2) [a] [] pos2] X.env = (false, eval (.Call (.Name "range" p2) [a] [] pos2) X.env) :: starEach [] X.env := by rfl) :
    PE X (.Call (.Name "list" p) [.Call (.Name "range" p2) [a] [] pos2] [] pos) (tE z Wx (fLstRg m f)) :=
  pe_of (pe_listRg hc hg hm (prg_1 hg2 hm2 ha na) na2) fun σ H Q ⟨W, M, ρ, ok, env, r, hr, po⟩ => by
    refine seqE ok env hr po.exc fun e1 M1 W1 H1 v1 s1 q1 hr1 => ?_
    split at hr1
    · rename_i n hn
      split at hr1
      · rename_i hk
        obtain ⟨e, M9, he, rfl⟩ := lft_some hr1
        refine ⟨n, asInt_ok q1 hn, okRg_ok hk, fun q hq => ?_⟩
        refine mkLst_ok s1.ok he ?_ ?_ hq fun W' H' v t q => po W' H' v (s1.trans t) q
        · have : ∀ l : List Nat, REs z W1 (l.map fun i => V.int (0 + (i : Nat))) (l.map fun i => E.p (.int (0 + (i : Nat)))) := fun l => by
            induction l with
            | nil => exact .nil
            | cons a l ih => exact .cons (.p (.int _)) ih
          unfold rgV rangeE
          rw [Int.sub_zero]
          exact this _
        · rw [rgV_length, sizeLine_eq]
          have := (okRg_ok hk).2.2.2.2
          simpa using this
      · cases hr1
    · cases hr1
end
/-- a def under another name -/
def DefQ (K : PySem.W.Frag) (x qual : Str) (st : Stmt) (f : Addr) (ps : List Str) : Prop := ∃ fd, Fun K x qual st f fd ∧ Binds K fd ps []
theorem fn_rq {z : Bz} {mg : Str → Option Value} {base : Heap} {x qual : Str} {st : Stmt} {f : Addr} {N ps : List Str} {k : Nat} {g : FS} (D : DefQ z.K x qual st f ps) (S : FnScope N ps (defScope st))
    (hb : ∀ (cdv : Value) (A : Around) (outer : List PySem.Env) (s : Shared) (H : Hp) (E : XK) (Wx : WX), Room k (fcx z.prog z.w z.K mg base N qual (defScope st) f cdv A outer s H E).A → Takes (fcx z.prog z.w z.K mg base N qual (defScope st) f cdv A outer s H E) Wx →
      PSs (fcx z.prog z.w z.K mg base N qual (defScope st) f cdv A outer s H E) (defBody st) (tS z Wx g)) : FnR z mg base (k + 1) f ps ps.length (fnOf N.length g) := by
  obtain ⟨fd, F, B⟩ := D
  exact ⟨fd, fn_okC F S hb, F.kp, B⟩
/-- the same for a def with defaults (its body alone) -/
theorem fn_okD2 {z : Bz} {mg : Str → Option Value} {base : Heap} {x qual : Str} {st : Stmt} {dvs : List V} {kws : List (Str × V)} {f : Addr} {fd : FuncData} {N ps : List Str} {k : Nat} {g : FS} (F : FunD z.K x qual (defArgs st) (defBody st) (defScope st) dvs kws f fd) (S : FnScope N ps (defScope st))
    (hb : ∀ (cdv : Value) (A : Around) (outer : List PySem.Env) (s : Shared) (H : Hp) (E : XK) (Wx : WX), Room k (fcx z.prog z.w z.K mg base N qual (defScope st) f cdv A outer s H E).A → Takes (fcx z.prog z.w z.K mg base N qual (defScope st) f cdv A outer s H E) Wx →
      PSs (fcx z.prog z.w z.K mg base N qual (defScope st) f cdv A outer s H E) (defBody st) (tS z Wx g)) : FnOk z.prog z.w z.K mg base (L2.CX z.prog z.w) (k + 1) f fd ps (spD z ps.length (fnOf N.length g)) := by
  refine F.ok S (fun vs H Q E ⟨W, M, es, ok, rs, hl, _⟩ => (res_len rs).trans hl) fun cdv A outer s H vs Q Xq hr h => ?_
  refine ⟨_, hb cdv A outer s H Xq (fun cls d _ H => Xq cls d H) hr (takes_of rfl rfl rfl rfl), ?_⟩
  obtain ⟨W, M, es, ok, rs, hl, r, hf, po⟩ := h
  refine ⟨W, M, _, ok, env_start rs, ?_⟩
  unfold fnOf at hf
  split at hf
  · rename_i ρ M' e
    cases hf
    exact ⟨_, e, fun W' H' σ' s _ => po W' H' .non s (.p .non)⟩
  · rename_i v M' e
    cases hf
    exact ⟨_, e, fun W' H' v s q => po W' H' v s q⟩
  · rename_i v ρ M' e
    cases hf
    exact ⟨_, e, fun W' H' σ' c d s _ q => po W' H' c d s q⟩
  · cases hf
end Pl

-- PL32
namespace Pl
open PySem PySem.Spec L2 PyProof.Rows
section
variable {X : Cx} {z : Bz}
def gLenA : GL := gOrL gLen (gOrL gLenD gLenSet)
theorem cr_lenA (F : Fits X z) : CallR X (.builtin "len") (rLD z gLenA) := callR_or (cr_len F) (callR_or cr_lenD (cr_lenSet F))
def gListA (m : Bool) : GL := gOrL (gListOf m) (gOrL (gKeysL m) (gListS m))
theorem cr_listA (F : Fits X z) (hc : X.calm = true) {m : Bool} : CallR X (.type "list") (rLD z (gListA m)) := callR_or (cr_listOf F) (callR_or (cr_keysL hc) (cr_listS hc))
def gSortA (m : Bool) : GL := gOrL (gSorted m) (gOrL (gSortD m) (gSortSet m))
theorem cr_sortA (F : Fits X z) (hu : X.A.units + 64 < cLine) (hc : X.calm = true) {m : Bool} : CallR X (.builtin "sorted") (rLD z (gSortA m)) := callR_or (cr_sorted F hu) (callR_or (cr_sortD hc) (cr_sortSet F hc))
theorem unR_of {f : Value → Sem Value} {r r' : V → Hp → VK → Prop} (h : UnR X f r) (w : ∀ x H Q, r' x H Q → r x H Q) : UnR X f r' := fun pins s σ H x v Q I rx q => h pins s σ H x v Q I rx (w x H Q q)
def gNeg : G1 := fun a M => match asInt a with
  | some i => some (.p (.int (-i)), M)
  | none => none
theorem un_negP : UnR X (unaryOp .USub) (r1D z gNeg) := unR_of un_neg fun x H Q ⟨W, M, a, ok, ra, e, M', hg, hq⟩ => by
  unfold gNeg at hg
  split at hg
  · rename_i i hi
    cases hg
    exact ⟨i, asInt_ok ra hi, hq W H _ (.refl ok) (.p (.int _))⟩
  · cases hg
end
end Pl

-- Fk14
namespace K14
open PySem L2 Pl
def ownSub (i j : Nat) : Option Bool := if i = 10 ∧ j < 17 then some (j == 10 || j == 0) else none
def errSub (i : Nat) (t : String) : Option Bool := if i = 10 ∧ t = "ValueError" then some true else none
def bltSub : List (String × String × Bool) := [("int", "int", true), ("bool", "int", true), ("NoneType", "int", false), ("str", "int", false), ("list", "int", false), ("tuple", "int", false), ("dict", "int", false), ("int", "bool", false), ("bool", "bool", true), ("NoneType", "bool", false),
  ("str", "str", true), ("list", "list", true), ("list", "tuple", false), ("tuple", "list", false), ("tuple", "tuple", true), ("dict", "dict", true), ("tuple", "dict", false)]
def ct : CT := ⟨fun c => c == 17, fun c => c == 10, fun t u => match t, u with
  | .b s, .b t => (bltSub.find? fun p => p.1 == s && p.2.1 == t).map (·.2.2)
  | .c i, .c j => if i = 17 ∧ j = 17 then some true else ownSub i j
  | .c i, .b t => errSub i t
  | _, _ => none⟩
def catchNN (c : Nat) : Option Bool := if c = 10 then some true else none
def postNN : Rs E → Rs E := fun r => match r with
  | some (.inl ⟨10, []⟩, M') => some (.inr (.p (.bl true)), M')
  | _ => none
def gmk_Group_1 (es ks : List E) : List E := es ++ [.p (.tup []), .p (.tup [])]
def N_is_name : List Str := ["thing", "sign"]
noncomputable def B_is_name : FS := gSeq (gIf (fOrT (fNotT (fTst (fCallB (gIsi ct) (fCons (fVar 0) (fCons (fC (.ty "str")) (fNil)))))) (fNotT (fTst (fChain gLe gLe (fC (.int 1)) (fCallB gLenA (fCons (fVar 0) (fNil))) (fC (.int 6)))))) (gRet (fC (.bl false))) (gNext)) (gRet (fCallB (gBsL fun bs => bs.all id) (fCons (fComp false ([1] : List Nat) (fSeqIt (fVar 0)) (gtName 1) (fYes) (fChain gLe gLe (fC (.str (PySem.Str.ofString "a"))) (fVar 1) (fC (.str (PySem.Str.ofString "z"))))) (fNil))))
noncomputable def F_is_name : FF := fnOf 2 B_is_name
def N_is_whole : List Str := ["thing", "least", "most"]
noncomputable def B_is_whole : FS := gRet (fAndV (fCallB (gIsi ct) (fCons (fVar 0) (fCons (fC (.ty "int")) (fNil)))) (fAndV (fNotV (fCallB (gIsi ct) (fCons (fVar 0) (fCons (fC (.ty "bool")) (fNil))))) (fChain gLe gLe (fVar 1) (fVar 0) (fVar 2))))
noncomputable def F_is_whole : FF := fnOf 3 B_is_whole
def N_are_unlike_names : List Str := ["thing", "name"]
noncomputable def B_are_unlike_names : FS := gSeq (gIf (fOrT (fNotT (fTst (fCallB (gIsi ct) (fCons (fVar 0) (fCons (fTup (fCons (fC (.ty "list")) (fCons (fC (.ty "tuple")) (fNil)))) (fNil)))))) (fNotT (fTst (fCallB (gBsL fun bs => bs.all id) (fCons (fComp false ([1] : List Nat) (fSeqIt (fVar 0)) (gtName 1) (fYes) (fCall 1 F_is_name [] (fCons (fVar 1) (fNil)))) (fNil)))))) (gRet (fC (.bl false))) (gNext)) (gRet (fBin gEq (fCallB gLenA (fCons (fSComp ([1] : List Nat) (fSeqIt (fVar 0)) (gtName 1) (fYes) (fVar 1)) (fNil))) (fCallB gLenA (fCons (fVar 0) (fNil)))))
noncomputable def F_are_unlike_names : FF := fnOf 2 B_are_unlike_names
def N_pages_in : List Str := ["held", "pages", "page"]
noncomputable def B_pages_in : FS := gRet (fCallB (gSortA false) (fCons (fSComp2 ([1, 2] : List Nat) (fItE valsIt (fVar 0)) (gtName 1) (fSeqIt (fVar 1)) (gtName 2) (fVar 2)) (fNil)))
noncomputable def F_pages_in : FF := fnOf 3 B_pages_in
def N_is_held : List Str := ["thing", "person", "pages"]
noncomputable def B_is_held : FS := gSeq (gIf (fOrT (fNotT (fTst (fCallB (gIsi ct) (fCons (fVar 0) (fCons (fC (.ty "dict")) (fNil)))))) (fNotT (fTst (fChain gLe gLe (fC (.int 1)) (fCallB gLenA (fCons (fVar 0) (fNil))) (fC (.int 6)))))) (gRet (fC (.bl false))) (gNext)) (gSeq (gIf (fNotT (fTst (fCallB (gBsL fun bs => bs.all id) (fCons (fComp false ([1, 2] : List Nat) (fItE itemsIt (fVar 0)) (gtTup 2 (gtCons (gtName 1) (gtCons (gtName 2) (gtNil)))) (fYes) (fAndV (fCall 1 F_is_name [] (fCons (fVar 1) (fNil))) (fCall 1 F_are_unlike_names [] (fCons (fVar 2) (fNil))))) (fNil))))) (gRet (fC (.bl false))) (gNext)) (gRet (fBin gLe (fCallB gLenA (fCons (fCall 1 F_pages_in [] (fCons (fVar 0) (fNil))) (fNil))) (fC (.int 12)))))
noncomputable def F_is_held : FF := fnOf 3 B_is_held
def N_leaves_told : List Str := ["thing", "pages", "pairs", "told", "pair", "page", "number"]
noncomputable def B_leaves_told : FS := gSeq (gSet 2 (fIfE (fTst (fCallB (gIsi ct) (fCons (fVar 0) (fCons (fC (.ty "dict")) (fNil))))) (fNever) (fVar 0))) (gSeq (gIf (fNotT (fTst (fCallB (gIsi ct) (fCons (fVar 2) (fCons (fTup (fCons (fC (.ty "list")) (fCons (fC (.ty "tuple")) (fNil)))) (fNil)))))) (gRet (fC .non)) (gNext)) (gSeq (gSet 3 (fDict0)) (gSeq (gFor (fSeqIt (fVar 2)) (gtName 4) (gNever)) (gRet (fVar 3)))))
noncomputable def F_leaves_told : FF := fnOf 7 B_leaves_told
def N_bars_told : List Str := ["thing", "people", "pairs", "pair"]
noncomputable def B_bars_told : FS := gSeq (gIf (fNotT (fTst (fCallB (gIsi ct) (fCons (fVar 0) (fCons (fTup (fCons (fC (.ty "list")) (fCons (fC (.ty "tuple")) (fNil)))) (fNil)))))) (gRet (fC .non)) (gNext)) (gSeq (gSet 2 (fLst true (fNil))) (gSeq (gFor (fSeqIt (fVar 0)) (gtName 3) (gNever)) (gRet (fCallB (gSortA false) (fCons (fSComp ([3] : List Nat) (fSeqIt (fVar 2)) (gtName 3) (fYes) (fVar 3)) (fNil))))))
noncomputable def F_bars_told : FF := fnOf 4 B_bars_told
def N_Group___init__ : List Str := ["self", "held", "leaves", "barred", "pages", "counts", "pairs", "person", "page"]
noncomputable def B_Group___init__ : FS := gSeq (gIf (fNotT (fTst (fCall 1 F_is_held [] (fCons (fVar 1) (fNil))))) (gNever) (gNext)) (gSeq (gSet 4 (fCall 1 F_pages_in [] (fCons (fVar 1) (fNil)))) (gSeq (gSet 5 (fFrz (fCall 2 F_leaves_told [] (fCons (fVar 2) (fCons (fVar 4) (fNil)))))) (gSeq (gIf (fTst (fBin gIsN (fVar 5) (fC .non))) (gNever) (gNext)) (gSeq (gSet 6 (fFrz (fCall 2 F_bars_told [] (fCons (fVar 3) (fCons (fCallB (gListA false) (fCons (fVar 1) (fNil))) (fNil)))))) (gSeq (gIf (fTst (fBin gIsN (fVar 6) (fC .non))) (gNever) (gNext)) (gSeq (gFldPut [17] "holdings" (fVar 0) (fDComp ([7] : List Nat) (fSeqIt (fCallB (gSortA false) (fCons (fVar 1) (fNil)))) (gtName 7) (fYes) (fVar 7) (fCallB gTupOf (fCons (fCallB (gSortA false) (fCons (fBin gDGet (fVar 1) (fVar 7)) (fNil))) (fNil))))) (gSeq (gFldPut [17] "sizes" (fVar 0) (fDComp ([8] : List Nat) (fSeqIt (fVar 4)) (gtName 8) (fYes) (fVar 8) (fDGet2 (fVar 5) (fVar 8) (fC (.int 1))))) (gFldPut [17] "pairs" (fVar 0) (fVar 6)))))))))
noncomputable def F_Group___init__ : FF := fnOf 9 B_Group___init__
def N_Group_people : List Str := ["self"]
noncomputable def B_Group_people : FS := gRet (fCallB (gListA false) (fCons (fUn (gFld [17] "holdings") (fVar 0)) (fNil)))
noncomputable def F_Group_people : FF := fnOf 1 B_Group_people
def N_Group_pages : List Str := ["self"]
noncomputable def B_Group_pages : FS := gRet (fCallB (gListA false) (fCons (fUn (gFld [17] "sizes") (fVar 0)) (fNil)))
noncomputable def F_Group_pages : FF := fnOf 1 B_Group_pages
def N_Group_held : List Str := ["self", "person"]
noncomputable def B_Group_held : FS := gSeq (gIf (fOrT (fNotT (fTst (fCall 1 F_is_name [] (fCons (fVar 1) (fNil))))) (fTst (fBin (gDIn false) (fVar 1) (fUn (gFld [17] "holdings") (fVar 0))))) (gNever) (gNext)) (gRet (fBin gDGet (fUn (gFld [17] "holdings") (fVar 0)) (fVar 1)))
noncomputable def F_Group_held : FF := fnOf 2 B_Group_held
def N_Group_leaves : List Str := ["self", "page"]
noncomputable def B_Group_leaves : FS := gSeq (gIf (fOrT (fNotT (fTst (fCall 1 F_is_name [] (fCons (fVar 1) (fNil))))) (fTst (fBin (gDIn false) (fVar 1) (fUn (gFld [17] "sizes") (fVar 0))))) (gNever) (gNext)) (gRet (fBin gDGet (fUn (gFld [17] "sizes") (fVar 0)) (fVar 1)))
noncomputable def F_Group_leaves : FF := fnOf 2 B_Group_leaves
def N_Group_barred : List Str := ["self"]
noncomputable def B_Group_barred : FS := gRet (fCallB (gListA false) (fCons (fUn (gFld [17] "pairs") (fVar 0)) (fNil)))
noncomputable def F_Group_barred : FF := fnOf 1 B_Group_barred
def N_Group___eq__ : List Str := ["self", "other"]
noncomputable def B_Group___eq__ : FS := gSeq (gIf (fNotT (fTst (fCallB (gIsi ct) (fCons (fVar 1) (fCons (fC (.cls 17)) (fNil)))))) (gRet (fC (.bl false))) (gNext)) (gSeq (gIf (fOrT (fTst (fBin gDicNe (fUn (gFld [17] "holdings") (fVar 0)) (fUn (gFld [17] "holdings") (fVar 1)))) (fTst (fBin gDicNe (fUn (gFld [17] "sizes") (fVar 0)) (fUn (gFld [17] "sizes") (fVar 1))))) (gRet (fC (.bl false))) (gNext)) (gRet (fBin gEq (fUn (gFld [17] "pairs") (fVar 0)) (fUn (gFld [17] "pairs") (fVar 1)))))
noncomputable def F_Group___eq__ : FF := fnOf 2 B_Group___eq__
def N_told_rounds : List Str := ["many", "half", "found", "step", "pairs", "j", "one", "other"]
noncomputable def B_told_rounds : FS := gSeq (gIf (fOrT (fNotT (fTst (fCall 3 F_is_whole [] (fCons (fVar 0) (fCons (fC (.int 2)) (fCons (fC (.int 64)) (fNil))))))) (fTst (fBin gEq (fBin (gI2 iMod) (fVar 0) (fC (.int 2))) (fC (.int 1))))) (gRaise 10) (gNext)) (gSeq (gSet 1 (fBin (gI2 iFdiv) (fVar 0) (fC (.int 2)))) (gSeq (gSet 2 (fLst true (fNil))) (gSeq (gSet 3 (fC (.int 1))) (gSeq (gWhile (fun _ _ => 100) (fTst (fBin gLt (fVar 3) (fVar 0))) (gSeq (gSet 4 (fComp false ([5] : List Nat) (fItA rngIt1 (fCons (fVar 1) (fNil))) (gtName 5) (fYes) (fTup (fCons (fBin (gMul false) (fC (.int 2)) (fVar 5)) (fCons (fBin (gAdd false) (fBin (gMul false) (fC (.int 2)) (fBin (gI2 iMod) (fBin (gI2 iSub) (fBin (gAdd false) (fVar 5) (fVar 3)) (fC (.int 1))) (fVar 1))) (fC (.int 1))) (fNil)))))) (gSeq (gDrop (fBM isL gApp (fVar 2) (fCons (fCallB (gSortA true) (fCons (fComp false ([6, 7] : List Nat) (fSeqIt (fVar 4)) (gtTup 2 (gtCons (gtName 6) (gtCons (gtName 7) (gtNil)))) (fYes) (fTup (fCons (fCallB gMin2 (fCons (fVar 6) (fCons (fVar 7) (fNil)))) (fCons (fCallB gMax2 (fCons (fVar 6) (fCons (fVar 7) (fNil)))) (fNil))))) (fNil))) (fNil)))) (gSet 3 (fBin (gMul false) (fC (.int 2)) (fVar 3)))))) (gRet (fVar 2))))))
noncomputable def F_told_rounds : FF := fnOf 8 B_told_rounds
def N_round_group : List Str := ["many", "sign"]
noncomputable def B_round_group : FS := gSeq (gIf (fNotT (fTst (fCall 3 F_is_whole [] (fCons (fVar 0) (fCons (fC (.int 1)) (fCons (fC (.int 6)) (fNil))))))) (gRaise 10) (gNext)) (gRet (fFrz (fMake 17 1 0 4 F_Group___init__ gmk_Group_1 (fCons (fFrz (fDComp ([1] : List Nat) (fSeqIt (fSlice (gSl false) (fC (.str (PySem.Str.ofString "abcdef"))) (fNo) (fPart (fVar 0)))) (gtName 1) (fYes) (fVar 1) (fLst false (fCons (fVar 1) (fNil))))) (fNil)) (fNil))))
noncomputable def F_round_group : FF := fnOf 2 B_round_group
def N__law_begun : List Str := ["script", "cells", "cell"]
noncomputable def B__law_begun : FS := gSeq (gSet 1 (fComp false ([2] : List Nat) (fSeqIt (fVar 0)) (gtName 2) (fYes) (fCallB gAbs (fCons (fVar 2) (fNil))))) (gRet (fDict (fpCons (fC (.str (PySem.Str.ofString "great"))) (fComp true ([2] : List Nat) (fSeqIt (fVar 1)) (gtName 2) (fTst (fBin gGe (fVar 2) (fBin (gI2 iPow) (fC (.int 10)) (fC (.int 18))))) (fVar 2)) (fpCons (fC (.str (PySem.Str.ofString "cells"))) (fVar 1) (fpCons (fC (.str (PySem.Str.ofString "rest"))) (fC (.int 0)) (fpCons (fC (.str (PySem.Str.ofString "turn"))) (fC (.int 0)) (fpCons (fC (.str (PySem.Str.ofString "more"))) (fC (.int 7)) (fpNil))))))))
noncomputable def F__law_begun : FF := fnOf 3 B__law_begun
def N__law_take : List Str := ["draw", "size", "cell", "mixed", "found"]
noncomputable def B__law_take : FS := gSeq (gWhile (fun _ _ => 100) (fAndT (fTst (fBin gEq (fBin gDGet (fVar 0) (fC (.str (PySem.Str.ofString "rest")))) (fC (.int 0)))) (fTst (fBin gNe (fBin gDGet (fVar 0) (fC (.str (PySem.Str.ofString "great")))) (fLst false (fNil))))) (gDPut (fVar 0) (fC (.str (PySem.Str.ofString "rest"))) (fBM isL gPop0 (fBin gDGet (fVar 0) (fC (.str (PySem.Str.ofString "great")))) (fCons (fC (.int 0)) (fNil))))) (gSeq (gIf (fTst (fBin gGt (fBin gDGet (fVar 0) (fC (.str (PySem.Str.ofString "rest")))) (fC (.int 0)))) (gSeq (gSet 4 (fBin (gI2 iMod) (fBin gDGet (fVar 0) (fC (.str (PySem.Str.ofString "rest")))) (fVar 1))) (gSeq (gDPut (fVar 0) (fC (.str (PySem.Str.ofString "rest"))) (fBin (gI2 iFdiv) (fBin gDGet (fVar 0) (fC (.str (PySem.Str.ofString "rest")))) (fVar 1))) (gRet (fVar 4)))) (gNext)) (gSeq (gSet 2 (fC (.int 0))) (gSeq (gIf (fTst (fBin gNe (fBin gDGet (fVar 0) (fC (.str (PySem.Str.ofString "cells")))) (fLst false (fNil)))) (gSet 2 (fBin gIx (fBin gDGet (fVar 0) (fC (.str (PySem.Str.ofString "cells")))) (fBin (gI2 iMod) (fBin gDGet (fVar 0) (fC (.str (PySem.Str.ofString "turn")))) (fCallB gLenA (fCons (fBin gDGet (fVar 0) (fC (.str (PySem.Str.ofString "cells")))) (fNil)))))) (gNext)) (gSeq (gDPut (fVar 0) (fC (.str (PySem.Str.ofString "turn"))) (fBin (gAdd false) (fBin gDGet (fVar 0) (fC (.str (PySem.Str.ofString "turn")))) (fC (.int 1)))) (gSeq (gDPut (fVar 0) (fC (.str (PySem.Str.ofString "more"))) (fBin (gI2 iMod) (fBin (gAdd false) (fBin (gAdd false) (fBin (gMul false) (fBin gDGet (fVar 0) (fC (.str (PySem.Str.ofString "more")))) (fC (.int 48271))) (fVar 2)) (fBin (gMul false) (fC (.int 7919)) (fBin gDGet (fVar 0) (fC (.str (PySem.Str.ofString "turn")))))) (fC (.int 2147483647)))) (gSeq (gSet 3 (fBin (gI2 iMod) (fBin (gAdd false) (fBin (gAdd false) (fBin (gMul false) (fBin gDGet (fVar 0) (fC (.str (PySem.Str.ofString "more")))) (fBin gDGet (fVar 0) (fC (.str (PySem.Str.ofString "more"))))) (fBin (gMul false) (fC (.int 16807)) (fBin gDGet (fVar 0) (fC (.str (PySem.Str.ofString "more")))))) (fC (.int 11))) (fC (.int 2147483629)))) (gRet (fBin (gI2 iMod) (fBin (gI2 iFdiv) (fBin (gI2 iMod) (fBin (gMul false) (fVar 3) (fVar 3)) (fC (.int 2147483587))) (fC (.int 7))) (fVar 1)))))))))
noncomputable def F__law_take : FF := fnOf 5 B__law_take
def N__law_pick : List Str := ["draw", "some"]
noncomputable def B__law_pick : FS := gRet (fBin gIx (fVar 1) (fCall 2 F__law_take [] (fCons (fVar 0) (fCons (fCallB gLenA (fCons (fVar 1) (fNil))) (fNil)))))
noncomputable def F__law_pick : FF := fnOf 2 B__law_pick
def N__law_due : List Str := ["size", "found", "far", "row", "j", "other"]
noncomputable def B__law_due : FS := gSeq (gPar 1 2 (fCons (fLst true (fNil)) (fCons (fC (.int 0)) (fNil)))) (gSeq (gWhile (fun _ _ => 100) (fTst (fBin gLt (fBin (gAdd false) (fVar 2) (fC (.int 1))) (fVar 0))) (gSeq (gSet 3 (fLst true (fNil))) (gSeq (gFor (fItA rngIt1 (fCons (fBin (gI2 iFdiv) (fVar 0) (fC (.int 2))) (fNil))) (gtName 4) (gSeq (gSet 5 (fBin (gI2 iMod) (fBin (gAdd false) (fVar 4) (fVar 2)) (fBin (gI2 iFdiv) (fVar 0) (fC (.int 2))))) (gDrop (fBM isL gApp (fVar 3) (fCons (fTup (fCons (fCallB gMin2 (fCons (fBin (gMul false) (fC (.int 2)) (fVar 4)) (fCons (fBin (gAdd false) (fBin (gMul false) (fC (.int 2)) (fVar 5)) (fC (.int 1))) (fNil)))) (fCons (fCallB gMax2 (fCons (fBin (gMul false) (fC (.int 2)) (fVar 4)) (fCons (fBin (gAdd false) (fBin (gMul false) (fC (.int 2)) (fVar 5)) (fC (.int 1))) (fNil)))) (fNil)))) (fNil)))))) (gSeq (gDrop (fBM isL gApp (fVar 1) (fCons (fCallB (gSortA false) (fCons (fVar 3) (fNil))) (fNil)))) (gSet 2 (fBin (gAdd false) (fBin (gMul false) (fC (.int 2)) (fVar 2)) (fC (.int 1)))))))) (gRet (fVar 1)))
noncomputable def F__law_due : FF := fnOf 6 B__law_due
def N__law_rounds_right : List Str := ["size", "due", "turn", "found", "row", "pair"]
noncomputable def B__law_rounds_right : FS := gSeq (gSet 1 (fFrz (fCall 1 F__law_due [] (fCons (fVar 0) (fNil))))) (gSeq (gFor (fItA rngIt1 (fCons (fC (.int 2)) (fNil))) (gtName 2) (gSeq (gSet 3 (fIfE (fTst (fBin gEq (fVar 2) (fC (.int 1)))) (fCallK 1 F_told_rounds (fCons (fVar 0) (fNil))) (fCall 1 F_told_rounds [] (fCons (fVar 0) (fNil))))) (gSeq (gIf (fOrT (fNotT (fTst (fCallB (gIsi ct) (fCons (fVar 3) (fCons (fC (.ty "list")) (fNil)))))) (fOrT (fTst (fBin gNe (fComp false ([4] : List Nat) (fSeqIt (fVar 3)) (gtName 4) (fNotT (fTst (fCallB (gIsi ct) (fCons (fVar 4) (fCons (fC (.ty "list")) (fNil)))))) (fVar 4)) (fLst false (fNil)))) (fTst (fBin gNeN (fVar 3) (fVar 1))))) (gRet (fC (.bl false))) (gNext)) (gSeq (gFor (fSeqIt (fVar 3)) (gtName 4) (gSeq (gIf (fTst (fBin gNe (fCallB (gSortA false) (fCons (fBin (gAdd false) (fComp false ([5] : List Nat) (fSeqIt (fVar 4)) (gtName 5) (fYes) (fBin gIx (fVar 5) (fC (.int 0)))) (fComp false ([5] : List Nat) (fSeqIt (fVar 4)) (gtName 5) (fYes) (fBin gIx (fVar 5) (fC (.int 1))))) (fNil))) (fLstRg false (fVar 0)))) (gRet (fC (.bl false))) (gNext)) (gDrop (fBM isL gApp (fVar 4) (fCons (fTup (fCons (fC (.int 0)) (fCons (fC (.int 0)) (fNil)))) (fNil)))))) (gDrop (fBM isL gApp (fVar 3) (fCons (fLst false (fNil)) (fNil)))))))) (gRet (fC (.bl true))))
noncomputable def F__law_rounds_right : FF := fnOf 6 B__law_rounds_right
def N__law_group_right : List Str := ["size", "people", "group", "person", "page", "one"]
noncomputable def B__law_group_right : FS := gSeq (gSet 1 (fCallB (gListA false) (fCons (fSlice (gSl false) (fC (.str (PySem.Str.ofString "abcdef"))) (fNo) (fPart (fVar 0))) (fNil)))) (gSeq (gSet 2 (fFrz (fCallK 1 F_round_group (fCons (fVar 0) (fNil))))) (gSeq (gIf (fTst (fBin (gOwn 17 F_Group___eq__ not) (fVar 2) (fFrz (fCall 1 F_round_group [] (fCons (fVar 0) (fNil)))))) (gRet (fC (.bl false))) (gNext)) (gSeq (gIf (fOrT (fTst (fBin gNe (fMeth 17 "people" 1 F_Group_people (fVar 2) fNil) (fVar 1))) (fOrT (fTst (fBin gNe (fMeth 17 "pages" 1 F_Group_pages (fVar 2) fNil) (fVar 1))) (fTst (fBin gNe (fMeth 17 "barred" 1 F_Group_barred (fVar 2) fNil) (fLst false (fNil)))))) (gRet (fC (.bl false))) (gNext)) (gSeq (gIf (fTst (fBin gNe (fComp false ([3] : List Nat) (fSeqIt (fVar 1)) (gtName 3) (fYes) (fMeth 17 "held" 2 F_Group_held (fVar 2) (fCons (fVar 3) (fNil)))) (fComp false ([3] : List Nat) (fSeqIt (fVar 1)) (gtName 3) (fYes) (fTup (fCons (fVar 3) (fNil)))))) (gRet (fC (.bl false))) (gNext)) (gSeq (gIf (fTst (fBin gNe (fComp false ([4] : List Nat) (fSeqIt (fVar 1)) (gtName 4) (fYes) (fMeth 17 "leaves" 2 F_Group_leaves (fVar 2) (fCons (fVar 4) (fNil)))) (fBin (gMul false) (fLst false (fCons (fC (.int 1)) (fNil))) (fVar 0)))) (gRet (fC (.bl false))) (gNext)) (gRet (fBin (gOwn 17 F_Group___eq__ id) (fVar 2) (fFrz (fMake 17 1 0 4 F_Group___init__ gmk_Group_1 (fCons (fFrz (fCallB gDictP (fCons (fComp false ([5] : List Nat) (fSeqIt (fVar 1)) (gtName 5) (fYes) (fTup (fCons (fVar 5) (fCons (fLst false (fCons (fVar 5) (fNil))) (fNil))))) (fNil)))) (fNil)) (fNil))))))))))
noncomputable def F__law_group_right : FF := fnOf 6 B__law_group_right
def N__law_no_number : List Str := ["work", "found", "e"]
noncomputable def GB (n : Nat) (q : Str) (fb : FE) (f c' : Addr) (σ : L2.St) : FS := gSeq (gSet 1 (fC .non)) (gSeq (gKeep 2 1 catchNN (gDrop (fWork 0 n f c' q σ fb))) (gSeq (gIf (fOrT (fTst (fBin gIsN (fVar 1) (fC .non))) (fOrT (fNotT (fTst (fCallB (gIsi ct) (fCons (fVar 1) (fCons (fC (.cls 10)) (fNil)))))) (fNotT (fTst (fCallB (gIsi ct) (fCons (fVar 1) (fCons (fC (.ty "ValueError")) (fNil)))))))) (gRet (fC (.bl false))) (gNext)) (gSeq (gIf (fTst (fCallB (gIsi ct) (fCons (fVar 1) (fCons (fTup (fCons (fC (.cls 1)) (fCons (fC (.cls 2)) (fCons (fC (.cls 4)) (fCons (fC (.cls 3)) (fCons (fC (.cls 5)) (fCons (fC (.cls 6)) (fCons (fC (.cls 7)) (fCons (fC (.cls 8)) (fCons (fC (.cls 9)) (fNil))))))))))) (fNil))))) (gRet (fC (.bl false))) (gNext)) (gRet (fNotV (fCallB (gIsi ct) (fCons (fVar 1) (fCons (fTup (fCons (fC (.cls 11)) (fCons (fC (.cls 12)) (fCons (fC (.cls 14)) (fCons (fC (.cls 16)) (fCons (fC (.cls 13)) (fCons (fC (.cls 15)) (fNil)))))))) (fNil)))))))))
def N_law : List Str := ["script", "draw", "turn", "odd", "wrong", "none"]
noncomputable def B_law : FS := gSeq (gSet 1 (fCall 1 F__law_begun [] (fCons (fVar 0) (fNil)))) (gSeq (gFor (fItA rngIt1 (fCons (fCallB gMax2 (fCons (fC (.int 1)) (fCons (fCallB gMin2 (fCons (fC (.int 8)) (fCons (fCallB gLenA (fCons (fVar 0) (fNil))) (fNil)))) (fNil)))) (fNil))) (gtName 2) (gSeq (gIf (fNotT (fTst (fFrz (fCall 1 F__law_rounds_right [] (fCons (fBin (gAdd false) (fC (.int 2)) (fBin (gMul false) (fC (.int 2)) (fCall 2 F__law_take [] (fCons (fVar 1) (fCons (fC (.int 32)) (fNil)))))) (fNil)))))) (gRet (fC (.bl false))) (gNext)) (gSeq (gSet 3 (fLst false (fCons (fBin (gAdd false) (fC (.int 1)) (fBin (gMul false) (fC (.int 2)) (fBin (gI2 iSub) (fCall 2 F__law_take [] (fCons (fVar 1) (fCons (fC (.int 600)) (fNil)))) (fC (.int 300))))) (fCons (fBin (gAdd false) (fC (.int 66)) (fBin (gMul false) (fC (.int 2)) (fCall 2 F__law_take [] (fCons (fVar 1) (fCons (fC (.int 1000)) (fNil)))))) (fCons (fBin (gI2 iSub) (fC (.int 0)) (fBin (gMul false) (fC (.int 2)) (fCall 2 F__law_take [] (fCons (fVar 1) (fCons (fC (.int 1000)) (fNil)))))) (fNil)))))) (gSeq (gSet 4 (fCall 2 F__law_pick [] (fCons (fVar 1) (fCons (fBin (gAdd false) (fVar 3) (fLst false (fCons (fC (.int 66)) (fCons (fBin (gI2 iPow) (fC (.int 10)) (fC (.int 9))) (fCons (fC (.bl true)) (fCons (fC (.bl false)) (fCons (fC (.str (PySem.Str.ofString "2"))) (fCons (fC .non) (fCons (fLst false (fCons (fC (.int 2)) (fNil))) (fCons (fTup (fCons (fC (.int 2)) (fNil))) (fCons (fFrz (fDict0)) (fCons (fUn gNeg (fC (.int 64))) (fNil))))))))))))) (fNil))))) (gSeq (gIf (fNotT (fTst (fLam 6 [4] (fCall 1 F_told_rounds [] (fCons (fVar 4) (fNil))) postNN))) (gRet (fC (.bl false))) (gNext)) (gSeq (gSet 3 (fLst false (fCons (fBin (gAdd false) (fC (.int 7)) (fCall 2 F__law_take [] (fCons (fVar 1) (fCons (fC (.int 100)) (fNil))))) (fCons (fBin (gI2 iSub) (fC (.int 0)) (fCall 2 F__law_take [] (fCons (fVar 1) (fCons (fC (.int 100)) (fNil))))) (fCons (fC (.int 7)) (fCons (fC (.bl true)) (fCons (fC (.str (PySem.Str.ofString "a"))) (fCons (fC .non) (fCons (fLst false (fCons (fC (.int 1)) (fNil))) (fCons (fBin (gI2 iPow) (fC (.int 10)) (fC (.int 9))) (fCons (fC (.bl false)) (fCons (fTup (fCons (fC (.int 1)) (fCons (fC (.int 2)) (fNil)))) (fNil))))))))))))) (gSeq (gSet 5 (fCall 2 F__law_pick [] (fCons (fVar 1) (fCons (fVar 3) (fNil))))) (gIf (fOrT (fNotT (fTst (fLam 6 [5] (fCall 1 F_round_group [] (fCons (fVar 5) (fNil))) postNN))) (fNotT (fTst (fFrz (fCall 1 F__law_group_right [] (fCons (fBin (gAdd false) (fC (.int 1)) (fCall 2 F__law_take [] (fCons (fVar 1) (fCons (fC (.int 6)) (fNil))))) (fNil))))))) (gRet (fC (.bl false))) (gNext))))))))) (gRet (fC (.bl true))))
noncomputable def F_law : FF := fnOf 6 B_law
end K14

-- Wk14
set_option maxHeartbeats 4000000
namespace K14
open PySem PySem.Spec L2 Pl
def top (i : Nat) : Stmt := PySem.Challenge.pw_evenhands_k14_told_rounds.main.body.getD i (.Pass ⟨0, 0, 0, 0⟩)
def mth (i j : Nat) : Stmt := match top i with
  | .ClassDef _ _ _ b _ _ _ _ _ _ _ => b.getD j (.Pass ⟨0, 0, 0, 0⟩)
  | s => s
structure Tx (z : Bz) (mg : Str → Option Value) (ad : Nat → Addr) : Prop where
  cls_17 : Cls z.K (z.ca 17)
  mt_Group_barred : Meth z.K (z.ca 17) "barred" (ad 32006)
  mt_Group_held : Meth z.K (z.ca 17) "held" (ad 32003)
  mt_Group_leaves : Meth z.K (z.ca 17) "leaves" (ad 32005)
  mt_Group_pages : Meth z.K (z.ca 17) "pages" (ad 32002)
  mt_Group_people : Meth z.K (z.ca 17) "people" (ad 32001)
  na_17_holdings : NoAttr z.K (z.ca 17) "holdings"
  na_17_pairs : NoAttr z.K (z.ca 17) "pairs"
  na_17_sizes : NoAttr z.K (z.ca 17) "sizes"
  own_17 : OwnE z.K (z.ca 17) (ad 32011)
  b_ValueError : mg "ValueError" = none
  b_abs : mg "abs" = none
  b_all : mg "all" = none
  b_bool : mg "bool" = none
  b_dict : mg "dict" = none
  b_int : mg "int" = none
  b_isinstance : mg "isinstance" = none
  b_len : mg "len" = none
  b_list : mg "list" = none
  b_max : mg "max" = none
  b_min : mg "min" = none
  b_range : mg "range" = none
  b_sorted : mg "sorted" = none
  b_str : mg "str" = none
  b_tuple : mg "tuple" = none
  c_BadGroup : mg "BadGroup" = some (.ref (z.ca 1))
  c_Barred : mg "Barred" = some (.ref (z.ca 6))
  c_Group : mg "Group" = some (.ref (z.ca 17))
  c_HandError : mg "HandError" = some (.ref (z.ca 0))
  c_Idle : mg "Idle" = some (.ref (z.ca 7))
  c_NoBack : mg "NoBack" = some (.ref (z.ca 15))
  c_NoCall : mg "NoCall" = some (.ref (z.ca 9))
  c_NoDeed : mg "NoDeed" = some (.ref (z.ca 14))
  c_NoName : mg "NoName" = some (.ref (z.ca 2))
  c_NoNumber : mg "NoNumber" = some (.ref (z.ca 10))
  c_NoPage : mg "NoPage" = some (.ref (z.ca 4))
  c_NoPerson : mg "NoPerson" = some (.ref (z.ca 3))
  c_NoText : mg "NoText" = some (.ref (z.ca 16))
  c_NoWay : mg "NoWay" = some (.ref (z.ca 11))
  c_Spoils : mg "Spoils" = some (.ref (z.ca 13))
  c_TooMany : mg "TooMany" = some (.ref (z.ca 12))
  c_Twice : mg "Twice" = some (.ref (z.ca 5))
  c_Uneven : mg "Uneven" = some (.ref (z.ca 8))
  f__law_begun : mg "_law_begun" = some (.ref (ad 39))
  f__law_due : mg "_law_due" = some (.ref (ad 43))
  f__law_group_right : mg "_law_group_right" = some (.ref (ad 45))
  f__law_no_number : mg "_law_no_number" = some (.ref (ad 42))
  f__law_pick : mg "_law_pick" = some (.ref (ad 41))
  f__law_rounds_right : mg "_law_rounds_right" = some (.ref (ad 44))
  f__law_take : mg "_law_take" = some (.ref (ad 40))
  f_are_unlike_names : mg "are_unlike_names" = some (.ref (ad 26))
  f_bars_told : mg "bars_told" = some (.ref (ad 30))
  f_is_held : mg "is_held" = some (.ref (ad 27))
  f_is_name : mg "is_name" = some (.ref (ad 24))
  f_is_whole : mg "is_whole" = some (.ref (ad 25))
  f_leaves_told : mg "leaves_told" = some (.ref (ad 29))
  f_pages_in : mg "pages_in" = some (.ref (ad 28))
  f_round_group : mg "round_group" = some (.ref (ad 37))
  f_told_rounds : mg "told_rounds" = some (.ref (ad 36))
  k_MOST_PAGES : ∃ t, mg "MOST_PAGES" = some (.int 12 t)
  k_MOST_PEOPLE_groups : ∃ t, mg "MOST_PEOPLE_groups" = some (.int 6 t)
  k_MOST_PEOPLE_rounds : ∃ t, mg "MOST_PEOPLE_rounds" = some (.int 6 t)
  k_MOST_SIGNS : ∃ t, mg "MOST_SIGNS" = some (.int 6 t)
  k_MOST_TOLD : ∃ t, mg "MOST_TOLD" = some (.int 64 t)
  r_NoNumber : RaiseC z.K (z.ca 10) [.type "ValueError", .type "Exception", .type "BaseException", .type "object"] "ValueError" "ValueError.__new__" "ValueError.__init__"
  t_SIGNS : ∃ t, mg "SIGNS" = some (.str (PySem.Str.ofString "abcdef") t)
theorem sc_is_name : FnScope N_is_name ["thing"] (defScope (top 24)) := ⟨rfl, rfl, rfl, by decide +kernel, rfl, by decide +kernel, by decide +kernel⟩
theorem bd_is_name {z : Bz} {mg : Str → Option Value} {base : Heap} {ad : Nat → Addr} (T : Tx z mg ad) (ctok : CTok z ct)  (cdv : Value) (A : Around) (outer : List PySem.Env) (s : Shared) (H : Hp) (E : XK) (Wx : WX) (hr : Room 0 (fcx z.prog z.w z.K mg base N_is_name "is_name" (defScope (top 24)) (ad 24) cdv A outer s H E).A) (tk : Takes (fcx z.prog z.w z.K mg base N_is_name "is_name" (defScope (top 24)) (ad 24) cdv A outer s H E) Wx) : PSs (fcx z.prog z.w z.K mg base N_is_name "is_name" (defScope (top 24)) (ad 24) cdv A outer s H E) (defBody (top 24)) (tS z Wx B_is_name) := by
  have hu := hr.units
  have hp : PassesOwn (model z.prog z.w) (fcx z.prog z.w z.K mg base N_is_name "is_name" (defScope (top 24)) (ad 24) cdv A outer s H E).A (fcx z.prog z.w z.K mg base N_is_name "is_name" (defScope (top 24)) (ad 24) cdv A outer s H E).env (fcx z.prog z.w z.K mg base N_is_name "is_name" (defScope (top 24)) (ad 24) cdv A outer s H E).xe := PassesOwn.leaving
  exact (pds_cons (pd_if (pd_or (pd_tnot (pd_tval (pd_callB (cr_isi ⟨rfl, rfl, rfl⟩ ctok) (by rfl) T.b_isinstance (by rfl) (pd_cons (v_ 0) (pd_cons (pd_ty (by rfl) T.b_str) pd_nil))))) (pd_or1 (pd_tnot (pd_tchain (op_leP ⟨rfl, rfl, rfl⟩ hu) (op_leP ⟨rfl, rfl, rfl⟩ hu) pd_int (pd_callB (cr_lenA ⟨rfl, rfl, rfl⟩) (by rfl) T.b_len (by rfl) (pd_cons (v_ 0) pd_nil)) (pd_gint (by rfl) T.k_MOST_SIGNS))))).pt (pds_one (pd_ret pd_bl)) pds_nil) (pds_one (pd_ret (pd_callB (cr_allL rfl) (by rfl) T.b_all (by rfl) (pd_cons (pd_comp rfl sc_is_name.nd (pdi_seq ⟨rfl, rfl, rfl⟩ (v_ 0)) (blkOk_by (own := [((PySem.Str.ofString "sign"), 1)]) (by show blkC N_is_name (defScope (top 24)) _ _ = true; decide +kernel)) (fun _ _ _ _ _ => (pdg_name (i := 1) sc_is_name.nd rfl (by first | exact .inl rfl | exact .inr rfl) (by first | exact .inl rfl | exact .inr rfl))) (fun _ _ _ _ _ => pdt_nil) (fun _ _ _ _ _ => (pd_chain (op_leP ⟨rfl, rfl, rfl⟩ hu) (op_leP ⟨rfl, rfl, rfl⟩ hu) pd_str (v_ 1) pd_str)) (by decide)) pd_nil)))))
theorem ok_is_name {z : Bz} {mg : Str → Option Value} {base : Heap} {ad : Nat → Addr} (T : Tx z mg ad) (ctok : CTok z ct) (D : DefAt z.K "is_name" (top 24) (ad 24) ["thing"])  : FnR z mg base 1 (ad 24) ["thing"] 1 F_is_name :=
  fn_r (k := 0) (N := N_is_name) D sc_is_name (bd_is_name T ctok )
theorem sc_is_whole : FnScope N_is_whole ["thing", "least", "most"] (defScope (top 25)) := ⟨rfl, rfl, rfl, by decide +kernel, rfl, by decide +kernel, by decide +kernel⟩
theorem bd_is_whole {z : Bz} {mg : Str → Option Value} {base : Heap} {ad : Nat → Addr} (T : Tx z mg ad) (ctok : CTok z ct)  (cdv : Value) (A : Around) (outer : List PySem.Env) (s : Shared) (H : Hp) (E : XK) (Wx : WX) (hr : Room 0 (fcx z.prog z.w z.K mg base N_is_whole "is_whole" (defScope (top 25)) (ad 25) cdv A outer s H E).A) (tk : Takes (fcx z.prog z.w z.K mg base N_is_whole "is_whole" (defScope (top 25)) (ad 25) cdv A outer s H E) Wx) : PSs (fcx z.prog z.w z.K mg base N_is_whole "is_whole" (defScope (top 25)) (ad 25) cdv A outer s H E) (defBody (top 25)) (tS z Wx B_is_whole) := by
  have hu := hr.units
  have hp : PassesOwn (model z.prog z.w) (fcx z.prog z.w z.K mg base N_is_whole "is_whole" (defScope (top 25)) (ad 25) cdv A outer s H E).A (fcx z.prog z.w z.K mg base N_is_whole "is_whole" (defScope (top 25)) (ad 25) cdv A outer s H E).env (fcx z.prog z.w z.K mg base N_is_whole "is_whole" (defScope (top 25)) (ad 25) cdv A outer s H E).xe := PassesOwn.leaving
  exact (pds_one (pd_ret (pd_andV (pd_callB (cr_isi ⟨rfl, rfl, rfl⟩ ctok) (by rfl) T.b_isinstance (by rfl) (pd_cons (v_ 0) (pd_cons (pd_ty (by rfl) T.b_int) pd_nil))) (pd_andV (pd_notV (pd_callB (cr_isi ⟨rfl, rfl, rfl⟩ ctok) (by rfl) T.b_isinstance (by rfl) (pd_cons (v_ 0) (pd_cons (pd_ty (by rfl) T.b_bool) pd_nil)))) (pd_one (pd_chain (op_leP ⟨rfl, rfl, rfl⟩ hu) (op_leP ⟨rfl, rfl, rfl⟩ hu) (v_ 1) (v_ 0) (v_ 2)))))))
theorem ok_is_whole {z : Bz} {mg : Str → Option Value} {base : Heap} {ad : Nat → Addr} (T : Tx z mg ad) (ctok : CTok z ct) (D : DefAt z.K "is_whole" (top 25) (ad 25) ["thing", "least", "most"])  : FnR z mg base 1 (ad 25) ["thing", "least", "most"] 3 F_is_whole :=
  fn_r (k := 0) (N := N_is_whole) D sc_is_whole (bd_is_whole T ctok )
theorem sc_are_unlike_names : FnScope N_are_unlike_names ["thing"] (defScope (top 26)) := ⟨rfl, rfl, rfl, by decide +kernel, rfl, by decide +kernel, by decide +kernel⟩
theorem bd_are_unlike_names {z : Bz} {mg : Str → Option Value} {base : Heap} {ad : Nat → Addr} (T : Tx z mg ad) (ctok : CTok z ct) (G_is_name : FnR z mg base 1 (ad 24) ["thing"] 1 F_is_name) (cdv : Value) (A : Around) (outer : List PySem.Env) (s : Shared) (H : Hp) (E : XK) (Wx : WX) (hr : Room 1 (fcx z.prog z.w z.K mg base N_are_unlike_names "are_unlike_names" (defScope (top 26)) (ad 26) cdv A outer s H E).A) (tk : Takes (fcx z.prog z.w z.K mg base N_are_unlike_names "are_unlike_names" (defScope (top 26)) (ad 26) cdv A outer s H E) Wx) : PSs (fcx z.prog z.w z.K mg base N_are_unlike_names "are_unlike_names" (defScope (top 26)) (ad 26) cdv A outer s H E) (defBody (top 26)) (tS z Wx B_are_unlike_names) := by
  have hu := hr.units
  have hp : PassesOwn (model z.prog z.w) (fcx z.prog z.w z.K mg base N_are_unlike_names "are_unlike_names" (defScope (top 26)) (ad 26) cdv A outer s H E).A (fcx z.prog z.w z.K mg base N_are_unlike_names "are_unlike_names" (defScope (top 26)) (ad 26) cdv A outer s H E).env (fcx z.prog z.w z.K mg base N_are_unlike_names "are_unlike_names" (defScope (top 26)) (ad 26) cdv A outer s H E).xe := PassesOwn.leaving
  exact (pds_cons (pd_if (pd_or (pd_tnot (pd_tval (pd_callB (cr_isi ⟨rfl, rfl, rfl⟩ ctok) (by rfl) T.b_isinstance (by rfl) (pd_cons (v_ 0) (pd_cons (pd_tup (pd_cons (pd_ty (by rfl) T.b_list) (pd_cons (pd_ty (by rfl) T.b_tuple) pd_nil))) pd_nil))))) (pd_or1 (pd_tnot (pd_tval (pd_callB (cr_allL rfl) (by rfl) T.b_all (by rfl) (pd_cons (pd_comp rfl sc_are_unlike_names.nd (pdi_seq ⟨rfl, rfl, rfl⟩ (v_ 0)) (blkOk_by (own := [((PySem.Str.ofString "name"), 1)]) (by show blkC N_are_unlike_names (defScope (top 26)) _ _ = true; decide +kernel)) (fun _ _ _ _ _ => (pdg_name (i := 1) sc_are_unlike_names.nd rfl (by first | exact .inl rfl | exact .inr rfl) (by first | exact .inl rfl | exact .inr rfl))) (fun _ _ _ _ _ => pdt_nil) (fun _ _ _ _ _ => (c_ G_is_name ⟨rfl, rfl, rfl⟩ hr T.f_is_name LamX.takes0 (pd_cons (v_ 1) pd_nil))) (by decide)) pd_nil)))))).pt (pds_one (pd_ret pd_bl)) pds_nil) (pds_one (pd_ret (pd_cmp (op_eqP ⟨rfl, rfl, rfl⟩ hu) (pd_callB (cr_lenA ⟨rfl, rfl, rfl⟩) (by rfl) T.b_len (by rfl) (pd_cons (pd_scomp ⟨rfl, rfl, rfl⟩ rfl sc_are_unlike_names.nd (pdi_seq ⟨rfl, rfl, rfl⟩ (v_ 0)) (blkOk_by (own := [((PySem.Str.ofString "name"), 1)]) (by show blkC N_are_unlike_names (defScope (top 26)) _ _ = true; decide +kernel)) (fun _ _ _ _ _ => (pdg_name (i := 1) sc_are_unlike_names.nd rfl (by first | exact .inl rfl | exact .inr rfl) (by first | exact .inl rfl | exact .inr rfl))) (fun _ _ _ _ _ => pdt_nil) (fun _ _ _ _ _ => (v_ 1)) (by decide)) pd_nil)) (pd_callB (cr_lenA ⟨rfl, rfl, rfl⟩) (by rfl) T.b_len (by rfl) (pd_cons (v_ 0) pd_nil)) (by rfl)))))
theorem ok_are_unlike_names {z : Bz} {mg : Str → Option Value} {base : Heap} {ad : Nat → Addr} (T : Tx z mg ad) (ctok : CTok z ct) (D : DefAt z.K "are_unlike_names" (top 26) (ad 26) ["thing"]) (G_is_name : FnR z mg base 1 (ad 24) ["thing"] 1 F_is_name) : FnR z mg base 2 (ad 26) ["thing"] 1 F_are_unlike_names :=
  fn_r (k := 1) (N := N_are_unlike_names) D sc_are_unlike_names (bd_are_unlike_names T ctok G_is_name)
theorem sc_pages_in : FnScope N_pages_in ["held"] (defScope (top 28)) := ⟨rfl, rfl, rfl, by decide +kernel, rfl, by decide +kernel, by decide +kernel⟩
theorem bd_pages_in {z : Bz} {mg : Str → Option Value} {base : Heap} {ad : Nat → Addr} (T : Tx z mg ad) (ctok : CTok z ct)  (cdv : Value) (A : Around) (outer : List PySem.Env) (s : Shared) (H : Hp) (E : XK) (Wx : WX) (hr : Room 0 (fcx z.prog z.w z.K mg base N_pages_in "pages_in" (defScope (top 28)) (ad 28) cdv A outer s H E).A) (tk : Takes (fcx z.prog z.w z.K mg base N_pages_in "pages_in" (defScope (top 28)) (ad 28) cdv A outer s H E) Wx) : PSs (fcx z.prog z.w z.K mg base N_pages_in "pages_in" (defScope (top 28)) (ad 28) cdv A outer s H E) (defBody (top 28)) (tS z Wx B_pages_in) := by
  have hu := hr.units
  have hp : PassesOwn (model z.prog z.w) (fcx z.prog z.w z.K mg base N_pages_in "pages_in" (defScope (top 28)) (ad 28) cdv A outer s H E).A (fcx z.prog z.w z.K mg base N_pages_in "pages_in" (defScope (top 28)) (ad 28) cdv A outer s H E).env (fcx z.prog z.w z.K mg base N_pages_in "pages_in" (defScope (top 28)) (ad 28) cdv A outer s H E).xe := PassesOwn.leaving
  exact (pds_one (pd_ret (pd_callB (cr_sortA ⟨rfl, rfl, rfl⟩ (by exact hu) rfl) (by rfl) T.b_sorted (by rfl) (pd_cons (pd_scomp2 ⟨rfl, rfl, rfl⟩ rfl sc_pages_in.nd (pdi_values (v_ 0)) (blkOk_by (own := [((PySem.Str.ofString "pages"), 1), ((PySem.Str.ofString "page"), 2)]) (by show blkC N_pages_in (defScope (top 28)) _ _ = true; decide +kernel)) (fun _ _ _ _ _ => (pdg_name (i := 1) sc_pages_in.nd rfl (by first | exact .inl rfl | exact .inr rfl) (by first | exact .inl rfl | exact .inr rfl))) (fun _ _ _ _ _ => (pdi_seq ⟨rfl, rfl, rfl⟩ (v_ 1))) (fun _ _ _ _ _ => (pdg_name (i := 2) sc_pages_in.nd rfl (by first | exact .inl rfl | exact .inr rfl) (by first | exact .inl rfl | exact .inr rfl))) (fun _ _ _ _ _ => (v_ 2)) (by decide) (by decide)) pd_nil))))
theorem ok_pages_in {z : Bz} {mg : Str → Option Value} {base : Heap} {ad : Nat → Addr} (T : Tx z mg ad) (ctok : CTok z ct) (D : DefAt z.K "pages_in" (top 28) (ad 28) ["held"])  : FnR z mg base 1 (ad 28) ["held"] 1 F_pages_in :=
  fn_r (k := 0) (N := N_pages_in) D sc_pages_in (bd_pages_in T ctok )
theorem sc_is_held : FnScope N_is_held ["thing"] (defScope (top 27)) := ⟨rfl, rfl, rfl, by decide +kernel, rfl, by decide +kernel, by decide +kernel⟩
theorem bd_is_held {z : Bz} {mg : Str → Option Value} {base : Heap} {ad : Nat → Addr} (T : Tx z mg ad) (ctok : CTok z ct) (G_is_name : FnR z mg base 1 (ad 24) ["thing"] 1 F_is_name) (G_are_unlike_names : FnR z mg base 2 (ad 26) ["thing"] 1 F_are_unlike_names) (G_pages_in : FnR z mg base 1 (ad 28) ["held"] 1 F_pages_in) (cdv : Value) (A : Around) (outer : List PySem.Env) (s : Shared) (H : Hp) (E : XK) (Wx : WX) (hr : Room 2 (fcx z.prog z.w z.K mg base N_is_held "is_held" (defScope (top 27)) (ad 27) cdv A outer s H E).A) (tk : Takes (fcx z.prog z.w z.K mg base N_is_held "is_held" (defScope (top 27)) (ad 27) cdv A outer s H E) Wx) : PSs (fcx z.prog z.w z.K mg base N_is_held "is_held" (defScope (top 27)) (ad 27) cdv A outer s H E) (defBody (top 27)) (tS z Wx B_is_held) := by
  have hu := hr.units
  have hp : PassesOwn (model z.prog z.w) (fcx z.prog z.w z.K mg base N_is_held "is_held" (defScope (top 27)) (ad 27) cdv A outer s H E).A (fcx z.prog z.w z.K mg base N_is_held "is_held" (defScope (top 27)) (ad 27) cdv A outer s H E).env (fcx z.prog z.w z.K mg base N_is_held "is_held" (defScope (top 27)) (ad 27) cdv A outer s H E).xe := PassesOwn.leaving
  exact (pds_cons (pd_if (pd_or (pd_tnot (pd_tval (pd_callB (cr_isi ⟨rfl, rfl, rfl⟩ ctok) (by rfl) T.b_isinstance (by rfl) (pd_cons (v_ 0) (pd_cons (pd_ty (by rfl) T.b_dict) pd_nil))))) (pd_or1 (pd_tnot (pd_tchain (op_leP ⟨rfl, rfl, rfl⟩ hu) (op_leP ⟨rfl, rfl, rfl⟩ hu) pd_int (pd_callB (cr_lenA ⟨rfl, rfl, rfl⟩) (by rfl) T.b_len (by rfl) (pd_cons (v_ 0) pd_nil)) (pd_gint (by rfl) T.k_MOST_PEOPLE_groups))))).pt (pds_one (pd_ret pd_bl)) pds_nil) (pds_cons (pd_if (pd_tnot (pd_tval (pd_callB (cr_allL rfl) (by rfl) T.b_all (by rfl) (pd_cons (pd_comp rfl sc_is_held.nd (pdi_items (v_ 0)) (blkOk_by (own := [((PySem.Str.ofString "person"), 1), ((PySem.Str.ofString "pages"), 2)]) (by show blkC N_is_held (defScope (top 27)) _ _ = true; decide +kernel)) (fun _ _ _ _ _ => (pdg_tup ⟨rfl, rfl, rfl⟩ rfl (pdgs_cons (pdg_name (i := 1) sc_is_held.nd rfl (by first | exact .inl rfl | exact .inr rfl) (by first | exact .inl rfl | exact .inr rfl)) (pdgs_cons (pdg_name (i := 2) sc_is_held.nd rfl (by first | exact .inl rfl | exact .inr rfl) (by first | exact .inl rfl | exact .inr rfl)) pdgs_nil)))) (fun _ _ _ _ _ => pdt_nil) (fun _ _ _ _ _ => (pd_andV (c_ G_is_name ⟨rfl, rfl, rfl⟩ hr T.f_is_name LamX.takes0 (pd_cons (v_ 1) pd_nil)) (pd_one (c_ G_are_unlike_names ⟨rfl, rfl, rfl⟩ hr T.f_are_unlike_names LamX.takes0 (pd_cons (v_ 2) pd_nil))))) (by decide)) pd_nil)))) (pds_one (pd_ret pd_bl)) pds_nil) (pds_one (pd_ret (pd_cmp (op_leP ⟨rfl, rfl, rfl⟩ hu) (pd_callB (cr_lenA ⟨rfl, rfl, rfl⟩) (by rfl) T.b_len (by rfl) (pd_cons (c_ G_pages_in ⟨rfl, rfl, rfl⟩ hr T.f_pages_in tk (pd_cons (v_ 0) pd_nil)) pd_nil)) (pd_gint (by rfl) T.k_MOST_PAGES) (by rfl))))))
theorem ok_is_held {z : Bz} {mg : Str → Option Value} {base : Heap} {ad : Nat → Addr} (T : Tx z mg ad) (ctok : CTok z ct) (D : DefAt z.K "is_held" (top 27) (ad 27) ["thing"]) (G_is_name : FnR z mg base 1 (ad 24) ["thing"] 1 F_is_name) (G_are_unlike_names : FnR z mg base 2 (ad 26) ["thing"] 1 F_are_unlike_names) (G_pages_in : FnR z mg base 1 (ad 28) ["held"] 1 F_pages_in) : FnR z mg base 3 (ad 27) ["thing"] 1 F_is_held :=
  fn_r (k := 2) (N := N_is_held) D sc_is_held (bd_is_held T ctok G_is_name G_are_unlike_names G_pages_in)
theorem sc_leaves_told : FnScope N_leaves_told ["thing", "pages"] (defScope (top 29)) := ⟨rfl, rfl, rfl, by decide +kernel, rfl, by decide +kernel, by decide +kernel⟩
theorem bd_leaves_told {z : Bz} {mg : Str → Option Value} {base : Heap} {ad : Nat → Addr} (T : Tx z mg ad) (ctok : CTok z ct)  (cdv : Value) (A : Around) (outer : List PySem.Env) (s : Shared) (H : Hp) (E : XK) (Wx : WX) (hr : Room 1 (fcx z.prog z.w z.K mg base N_leaves_told "leaves_told" (defScope (top 29)) (ad 29) cdv A outer s H E).A) (tk : Takes (fcx z.prog z.w z.K mg base N_leaves_told "leaves_told" (defScope (top 29)) (ad 29) cdv A outer s H E) Wx) : PSs (fcx z.prog z.w z.K mg base N_leaves_told "leaves_told" (defScope (top 29)) (ad 29) cdv A outer s H E) (defBody (top 29)) (tS z Wx B_leaves_told) := by
  have hu := hr.units
  have hp : PassesOwn (model z.prog z.w) (fcx z.prog z.w z.K mg base N_leaves_told "leaves_told" (defScope (top 29)) (ad 29) cdv A outer s H E).A (fcx z.prog z.w z.K mg base N_leaves_told "leaves_told" (defScope (top 29)) (ad 29) cdv A outer s H E).env (fcx z.prog z.w z.K mg base N_leaves_told "leaves_told" (defScope (top 29)) (ad 29) cdv A outer s H E).xe := PassesOwn.leaving
  exact (pds_cons (pd_set (i := 2) sc_leaves_told.nd rfl (by first | exact .inl rfl | exact .inr rfl) (pd_ifE (pd_tval (pd_callB (cr_isi ⟨rfl, rfl, rfl⟩ ctok) (by rfl) T.b_isinstance (by rfl) (pd_cons (v_ 0) (pd_cons (pd_ty (by rfl) T.b_dict) pd_nil)))) pde_never (v_ 0))) (pds_cons (pd_if (pd_tnot (pd_tval (pd_callB (cr_isi ⟨rfl, rfl, rfl⟩ ctok) (by rfl) T.b_isinstance (by rfl) (pd_cons (v_ 2) (pd_cons (pd_tup (pd_cons (pd_ty (by rfl) T.b_list) (pd_cons (pd_ty (by rfl) T.b_tuple) pd_nil))) pd_nil))))) (pds_one (pd_ret pd_non)) pds_nil) (pds_cons (pd_set (i := 3) sc_leaves_told.nd rfl (by first | exact .inl rfl | exact .inr rfl) pd_dict0) (pds_cons (pd_for hp rfl (pdi_seq ⟨rfl, rfl, rfl⟩ (v_ 2)) (pdg_name (i := 4) sc_leaves_told.nd rfl (by first | exact .inl rfl | exact .inr rfl) (by first | exact .inl rfl | exact .inr rfl)) pdss_never) (pds_one (pd_ret (v_ 3)))))))
theorem ok_leaves_told {z : Bz} {mg : Str → Option Value} {base : Heap} {ad : Nat → Addr} (T : Tx z mg ad) (ctok : CTok z ct) (D : DefAt z.K "leaves_told" (top 29) (ad 29) ["thing", "pages"])  : FnR z mg base 2 (ad 29) ["thing", "pages"] 2 F_leaves_told :=
  fn_r (k := 1) (N := N_leaves_told) D sc_leaves_told (bd_leaves_told T ctok )
theorem sc_bars_told : FnScope N_bars_told ["thing", "people"] (defScope (top 30)) := ⟨rfl, rfl, rfl, by decide +kernel, rfl, by decide +kernel, by decide +kernel⟩
theorem bd_bars_told {z : Bz} {mg : Str → Option Value} {base : Heap} {ad : Nat → Addr} (T : Tx z mg ad) (ctok : CTok z ct)  (cdv : Value) (A : Around) (outer : List PySem.Env) (s : Shared) (H : Hp) (E : XK) (Wx : WX) (hr : Room 2 (fcx z.prog z.w z.K mg base N_bars_told "bars_told" (defScope (top 30)) (ad 30) cdv A outer s H E).A) (tk : Takes (fcx z.prog z.w z.K mg base N_bars_told "bars_told" (defScope (top 30)) (ad 30) cdv A outer s H E) Wx) : PSs (fcx z.prog z.w z.K mg base N_bars_told "bars_told" (defScope (top 30)) (ad 30) cdv A outer s H E) (defBody (top 30)) (tS z Wx B_bars_told) := by
  have hu := hr.units
  have hp : PassesOwn (model z.prog z.w) (fcx z.prog z.w z.K mg base N_bars_told "bars_told" (defScope (top 30)) (ad 30) cdv A outer s H E).A (fcx z.prog z.w z.K mg base N_bars_told "bars_told" (defScope (top 30)) (ad 30) cdv A outer s H E).env (fcx z.prog z.w z.K mg base N_bars_told "bars_told" (defScope (top 30)) (ad 30) cdv A outer s H E).xe := PassesOwn.leaving
  exact (pds_cons (pd_if (pd_tnot (pd_tval (pd_callB (cr_isi ⟨rfl, rfl, rfl⟩ ctok) (by rfl) T.b_isinstance (by rfl) (pd_cons (v_ 0) (pd_cons (pd_tup (pd_cons (pd_ty (by rfl) T.b_list) (pd_cons (pd_ty (by rfl) T.b_tuple) pd_nil))) pd_nil))))) (pds_one (pd_ret pd_non)) pds_nil) (pds_cons (pd_set (i := 2) sc_bars_told.nd rfl (by first | exact .inl rfl | exact .inr rfl) (pd_lst pd_nil)) (pds_cons (pd_for hp rfl (pdi_seq ⟨rfl, rfl, rfl⟩ (v_ 0)) (pdg_name (i := 3) sc_bars_told.nd rfl (by first | exact .inl rfl | exact .inr rfl) (by first | exact .inl rfl | exact .inr rfl)) pdss_never) (pds_one (pd_ret (pd_callB (cr_sortA ⟨rfl, rfl, rfl⟩ (by exact hu) rfl) (by rfl) T.b_sorted (by rfl) (pd_cons (pd_scomp ⟨rfl, rfl, rfl⟩ rfl sc_bars_told.nd (pdi_seq ⟨rfl, rfl, rfl⟩ (v_ 2)) (blkOk_by (own := [((PySem.Str.ofString "pair"), 3)]) (by show blkC N_bars_told (defScope (top 30)) _ _ = true; decide +kernel)) (fun _ _ _ _ _ => (pdg_name (i := 3) sc_bars_told.nd rfl (by first | exact .inl rfl | exact .inr rfl) (by first | exact .inl rfl | exact .inr rfl))) (fun _ _ _ _ _ => pdt_nil) (fun _ _ _ _ _ => (v_ 3)) (by decide)) pd_nil)))))))
theorem ok_bars_told {z : Bz} {mg : Str → Option Value} {base : Heap} {ad : Nat → Addr} (T : Tx z mg ad) (ctok : CTok z ct) (D : DefAt z.K "bars_told" (top 30) (ad 30) ["thing", "people"])  : FnR z mg base 3 (ad 30) ["thing", "people"] 2 F_bars_told :=
  fn_r (k := 2) (N := N_bars_told) D sc_bars_told (bd_bars_told T ctok )
theorem sc_Group___init__ : FnScope N_Group___init__ ["self", "held", "leaves", "barred"] (defScope (mth 31 0)) := ⟨rfl, rfl, rfl, by decide +kernel, rfl, by decide +kernel, by decide +kernel⟩
theorem bd_Group___init__ {z : Bz} {mg : Str → Option Value} {base : Heap} {ad : Nat → Addr} (T : Tx z mg ad) (ctok : CTok z ct) (G_is_held : FnR z mg base 3 (ad 27) ["thing"] 1 F_is_held) (G_pages_in : FnR z mg base 1 (ad 28) ["held"] 1 F_pages_in) (G_leaves_told : FnR z mg base 2 (ad 29) ["thing", "pages"] 2 F_leaves_told) (G_bars_told : FnR z mg base 3 (ad 30) ["thing", "people"] 2 F_bars_told) (cdv : Value) (A : Around) (outer : List PySem.Env) (s : Shared) (H : Hp) (E : XK) (Wx : WX) (hr : Room 3 (fcx z.prog z.w z.K mg base N_Group___init__ "Group.__init__" (defScope (mth 31 0)) (ad 32000) cdv A outer s H E).A) (tk : Takes (fcx z.prog z.w z.K mg base N_Group___init__ "Group.__init__" (defScope (mth 31 0)) (ad 32000) cdv A outer s H E) Wx) : PSs (fcx z.prog z.w z.K mg base N_Group___init__ "Group.__init__" (defScope (mth 31 0)) (ad 32000) cdv A outer s H E) (defBody (mth 31 0)) (tS z Wx B_Group___init__) := by
  have hu := hr.units
  have hp : PassesOwn (model z.prog z.w) (fcx z.prog z.w z.K mg base N_Group___init__ "Group.__init__" (defScope (mth 31 0)) (ad 32000) cdv A outer s H E).A (fcx z.prog z.w z.K mg base N_Group___init__ "Group.__init__" (defScope (mth 31 0)) (ad 32000) cdv A outer s H E).env (fcx z.prog z.w z.K mg base N_Group___init__ "Group.__init__" (defScope (mth 31 0)) (ad 32000) cdv A outer s H E).xe := PassesOwn.leaving
  exact (pds_cons (pd_if (pd_tnot (pd_tval (c_ G_is_held ⟨rfl, rfl, rfl⟩ hr T.f_is_held tk (pd_cons (v_ 1) pd_nil)))) (pds_one pds_never) pds_nil) (pds_cons (pd_set (i := 4) sc_Group___init__.nd rfl (by first | exact .inl rfl | exact .inr rfl) (c_ G_pages_in ⟨rfl, rfl, rfl⟩ hr T.f_pages_in tk (pd_cons (v_ 1) pd_nil))) (pds_cons (pd_set (i := 5) sc_Group___init__.nd rfl (by first | exact .inl rfl | exact .inr rfl) (pd_frz (c_ G_leaves_told ⟨rfl, rfl, rfl⟩ hr T.f_leaves_told tk (pd_cons (v_ 2) (pd_cons (v_ 4) pd_nil))))) (pds_cons (pd_if (pd_tcmp (op_isN ⟨rfl, rfl, rfl⟩) (v_ 5) pd_non (by rfl)) (pds_one pds_never) pds_nil) (pds_cons (pd_set (i := 6) sc_Group___init__.nd rfl (by first | exact .inl rfl | exact .inr rfl) (pd_frz (c_ G_bars_told ⟨rfl, rfl, rfl⟩ hr T.f_bars_told tk (pd_cons (v_ 3) (pd_cons (pd_callTy (cr_listA ⟨rfl, rfl, rfl⟩ rfl) (by rfl) T.b_list (by rfl) (pd_cons (v_ 1) pd_nil)) pd_nil))))) (pds_cons (pd_if (pd_tcmp (op_isN ⟨rfl, rfl, rfl⟩) (v_ 6) pd_non (by rfl)) (pds_one pds_never) pds_nil) (pds_cons (pd_fldput ⟨rfl, rfl, rfl⟩ (by intro c hc; rw [List.mem_singleton.mp hc]; exact ⟨T.cls_17, T.na_17_holdings⟩) (v_ 0) (pd_dcomp rfl sc_Group___init__.nd (pdi_seq ⟨rfl, rfl, rfl⟩ (pd_callB (cr_sortA ⟨rfl, rfl, rfl⟩ (by exact hu) rfl) (by rfl) T.b_sorted (by rfl) (pd_cons (v_ 1) pd_nil))) (blkOk_by (own := [((PySem.Str.ofString "person"), 7)]) (by show blkC N_Group___init__ (defScope (mth 31 0)) _ _ = true; decide +kernel)) (fun _ _ _ _ _ => (pdg_name (i := 7) sc_Group___init__.nd rfl (by first | exact .inl rfl | exact .inr rfl) (by first | exact .inl rfl | exact .inr rfl))) (fun _ _ _ _ _ => pdt_nil) (fun _ _ _ _ _ => (v_ 7)) (fun _ _ _ _ _ => (pd_callTy (cr_tupOf ⟨rfl, rfl, rfl⟩) (by rfl) T.b_tuple (by rfl) (pd_cons (pd_callB (cr_sortA ⟨rfl, rfl, rfl⟩ (by exact hu) rfl) (by rfl) T.b_sorted (by rfl) (pd_cons (pd_dget hu (v_ 1) (v_ 7) (by intro _ _; rfl)) pd_nil)) pd_nil))) (by decide))) (pds_cons (pd_fldput ⟨rfl, rfl, rfl⟩ (by intro c hc; rw [List.mem_singleton.mp hc]; exact ⟨T.cls_17, T.na_17_sizes⟩) (v_ 0) (pd_dcomp rfl sc_Group___init__.nd (pdi_seq ⟨rfl, rfl, rfl⟩ (v_ 4)) (blkOk_by (own := [((PySem.Str.ofString "page"), 8)]) (by show blkC N_Group___init__ (defScope (mth 31 0)) _ _ = true; decide +kernel)) (fun _ _ _ _ _ => (pdg_name (i := 8) sc_Group___init__.nd rfl (by first | exact .inl rfl | exact .inr rfl) (by first | exact .inl rfl | exact .inr rfl))) (fun _ _ _ _ _ => pdt_nil) (fun _ _ _ _ _ => (v_ 8)) (fun _ _ _ _ _ => (pd_dget2 hu (v_ 5) (v_ 8) pd_int ⟨by rfl, by rfl, by rfl, by rfl⟩)) (by decide))) (pds_one (pd_fldput ⟨rfl, rfl, rfl⟩ (by intro c hc; rw [List.mem_singleton.mp hc]; exact ⟨T.cls_17, T.na_17_pairs⟩) (v_ 0) (v_ 6)))))))))))
theorem sc_Group_people : FnScope N_Group_people ["self"] (defScope (mth 31 1)) := ⟨rfl, rfl, rfl, by decide +kernel, rfl, by decide +kernel, by decide +kernel⟩
theorem bd_Group_people {z : Bz} {mg : Str → Option Value} {base : Heap} {ad : Nat → Addr} (T : Tx z mg ad) (ctok : CTok z ct)  (cdv : Value) (A : Around) (outer : List PySem.Env) (s : Shared) (H : Hp) (E : XK) (Wx : WX) (hr : Room 0 (fcx z.prog z.w z.K mg base N_Group_people "Group.people" (defScope (mth 31 1)) (ad 32001) cdv A outer s H E).A) (tk : Takes (fcx z.prog z.w z.K mg base N_Group_people "Group.people" (defScope (mth 31 1)) (ad 32001) cdv A outer s H E) Wx) : PSs (fcx z.prog z.w z.K mg base N_Group_people "Group.people" (defScope (mth 31 1)) (ad 32001) cdv A outer s H E) (defBody (mth 31 1)) (tS z Wx B_Group_people) := by
  have hu := hr.units
  have hp : PassesOwn (model z.prog z.w) (fcx z.prog z.w z.K mg base N_Group_people "Group.people" (defScope (mth 31 1)) (ad 32001) cdv A outer s H E).A (fcx z.prog z.w z.K mg base N_Group_people "Group.people" (defScope (mth 31 1)) (ad 32001) cdv A outer s H E).env (fcx z.prog z.w z.K mg base N_Group_people "Group.people" (defScope (mth 31 1)) (ad 32001) cdv A outer s H E).xe := PassesOwn.leaving
  exact (pds_one (pd_ret (pd_callTy (cr_listA ⟨rfl, rfl, rfl⟩ rfl) (by rfl) T.b_list (by rfl) (pd_cons (pd_fld ⟨rfl, rfl, rfl⟩ (by intro c hc; rw [List.mem_singleton.mp hc]; exact ⟨T.cls_17, T.na_17_holdings⟩) (v_ 0)) pd_nil))))
theorem ok_Group_people {z : Bz} {mg : Str → Option Value} {base : Heap} {ad : Nat → Addr} (T : Tx z mg ad) (ctok : CTok z ct) (D : DefQ z.K "people" "Group.people" (mth 31 1) (ad 32001) ["self"])  : FnR z mg base 1 (ad 32001) ["self"] 1 F_Group_people :=
  fn_rq (k := 0) (N := N_Group_people) D sc_Group_people (bd_Group_people T ctok )
theorem sc_Group_pages : FnScope N_Group_pages ["self"] (defScope (mth 31 2)) := ⟨rfl, rfl, rfl, by decide +kernel, rfl, by decide +kernel, by decide +kernel⟩
theorem bd_Group_pages {z : Bz} {mg : Str → Option Value} {base : Heap} {ad : Nat → Addr} (T : Tx z mg ad) (ctok : CTok z ct)  (cdv : Value) (A : Around) (outer : List PySem.Env) (s : Shared) (H : Hp) (E : XK) (Wx : WX) (hr : Room 0 (fcx z.prog z.w z.K mg base N_Group_pages "Group.pages" (defScope (mth 31 2)) (ad 32002) cdv A outer s H E).A) (tk : Takes (fcx z.prog z.w z.K mg base N_Group_pages "Group.pages" (defScope (mth 31 2)) (ad 32002) cdv A outer s H E) Wx) : PSs (fcx z.prog z.w z.K mg base N_Group_pages "Group.pages" (defScope (mth 31 2)) (ad 32002) cdv A outer s H E) (defBody (mth 31 2)) (tS z Wx B_Group_pages) := by
  have hu := hr.units
  have hp : PassesOwn (model z.prog z.w) (fcx z.prog z.w z.K mg base N_Group_pages "Group.pages" (defScope (mth 31 2)) (ad 32002) cdv A outer s H E).A (fcx z.prog z.w z.K mg base N_Group_pages "Group.pages" (defScope (mth 31 2)) (ad 32002) cdv A outer s H E).env (fcx z.prog z.w z.K mg base N_Group_pages "Group.pages" (defScope (mth 31 2)) (ad 32002) cdv A outer s H E).xe := PassesOwn.leaving
  exact (pds_one (pd_ret (pd_callTy (cr_listA ⟨rfl, rfl, rfl⟩ rfl) (by rfl) T.b_list (by rfl) (pd_cons (pd_fld ⟨rfl, rfl, rfl⟩ (by intro c hc; rw [List.mem_singleton.mp hc]; exact ⟨T.cls_17, T.na_17_sizes⟩) (v_ 0)) pd_nil))))
theorem ok_Group_pages {z : Bz} {mg : Str → Option Value} {base : Heap} {ad : Nat → Addr} (T : Tx z mg ad) (ctok : CTok z ct) (D : DefQ z.K "pages" "Group.pages" (mth 31 2) (ad 32002) ["self"])  : FnR z mg base 1 (ad 32002) ["self"] 1 F_Group_pages :=
  fn_rq (k := 0) (N := N_Group_pages) D sc_Group_pages (bd_Group_pages T ctok )
theorem sc_Group_held : FnScope N_Group_held ["self", "person"] (defScope (mth 31 3)) := ⟨rfl, rfl, rfl, by decide +kernel, rfl, by decide +kernel, by decide +kernel⟩
theorem bd_Group_held {z : Bz} {mg : Str → Option Value} {base : Heap} {ad : Nat → Addr} (T : Tx z mg ad) (ctok : CTok z ct) (G_is_name : FnR z mg base 1 (ad 24) ["thing"] 1 F_is_name) (cdv : Value) (A : Around) (outer : List PySem.Env) (s : Shared) (H : Hp) (E : XK) (Wx : WX) (hr : Room 1 (fcx z.prog z.w z.K mg base N_Group_held "Group.held" (defScope (mth 31 3)) (ad 32003) cdv A outer s H E).A) (tk : Takes (fcx z.prog z.w z.K mg base N_Group_held "Group.held" (defScope (mth 31 3)) (ad 32003) cdv A outer s H E) Wx) : PSs (fcx z.prog z.w z.K mg base N_Group_held "Group.held" (defScope (mth 31 3)) (ad 32003) cdv A outer s H E) (defBody (mth 31 3)) (tS z Wx B_Group_held) := by
  have hu := hr.units
  have hp : PassesOwn (model z.prog z.w) (fcx z.prog z.w z.K mg base N_Group_held "Group.held" (defScope (mth 31 3)) (ad 32003) cdv A outer s H E).A (fcx z.prog z.w z.K mg base N_Group_held "Group.held" (defScope (mth 31 3)) (ad 32003) cdv A outer s H E).env (fcx z.prog z.w z.K mg base N_Group_held "Group.held" (defScope (mth 31 3)) (ad 32003) cdv A outer s H E).xe := PassesOwn.leaving
  exact (pds_cons (pd_if (pd_or (pd_tnot (pd_tval (c_ G_is_name ⟨rfl, rfl, rfl⟩ hr T.f_is_name tk (pd_cons (v_ 1) pd_nil)))) (pd_or1 (pd_tcmp (op_dNotIn hu) (v_ 1) (pd_fld ⟨rfl, rfl, rfl⟩ (by intro c hc; rw [List.mem_singleton.mp hc]; exact ⟨T.cls_17, T.na_17_holdings⟩) (v_ 0)) (by rfl)))).pt (pds_one pds_never) pds_nil) (pds_one (pd_ret (pd_dget hu (pd_fld ⟨rfl, rfl, rfl⟩ (by intro c hc; rw [List.mem_singleton.mp hc]; exact ⟨T.cls_17, T.na_17_holdings⟩) (v_ 0)) (v_ 1) (by intro _ _; rfl)))))
theorem ok_Group_held {z : Bz} {mg : Str → Option Value} {base : Heap} {ad : Nat → Addr} (T : Tx z mg ad) (ctok : CTok z ct) (D : DefQ z.K "held" "Group.held" (mth 31 3) (ad 32003) ["self", "person"]) (G_is_name : FnR z mg base 1 (ad 24) ["thing"] 1 F_is_name) : FnR z mg base 2 (ad 32003) ["self", "person"] 2 F_Group_held :=
  fn_rq (k := 1) (N := N_Group_held) D sc_Group_held (bd_Group_held T ctok G_is_name)
theorem sc_Group_leaves : FnScope N_Group_leaves ["self", "page"] (defScope (mth 31 5)) := ⟨rfl, rfl, rfl, by decide +kernel, rfl, by decide +kernel, by decide +kernel⟩
theorem bd_Group_leaves {z : Bz} {mg : Str → Option Value} {base : Heap} {ad : Nat → Addr} (T : Tx z mg ad) (ctok : CTok z ct) (G_is_name : FnR z mg base 1 (ad 24) ["thing"] 1 F_is_name) (cdv : Value) (A : Around) (outer : List PySem.Env) (s : Shared) (H : Hp) (E : XK) (Wx : WX) (hr : Room 1 (fcx z.prog z.w z.K mg base N_Group_leaves "Group.leaves" (defScope (mth 31 5)) (ad 32005) cdv A outer s H E).A) (tk : Takes (fcx z.prog z.w z.K mg base N_Group_leaves "Group.leaves" (defScope (mth 31 5)) (ad 32005) cdv A outer s H E) Wx) : PSs (fcx z.prog z.w z.K mg base N_Group_leaves "Group.leaves" (defScope (mth 31 5)) (ad 32005) cdv A outer s H E) (defBody (mth 31 5)) (tS z Wx B_Group_leaves) := by
  have hu := hr.units
  have hp : PassesOwn (model z.prog z.w) (fcx z.prog z.w z.K mg base N_Group_leaves "Group.leaves" (defScope (mth 31 5)) (ad 32005) cdv A outer s H E).A (fcx z.prog z.w z.K mg base N_Group_leaves "Group.leaves" (defScope (mth 31 5)) (ad 32005) cdv A outer s H E).env (fcx z.prog z.w z.K mg base N_Group_leaves "Group.leaves" (defScope (mth 31 5)) (ad 32005) cdv A outer s H E).xe := PassesOwn.leaving
  exact (pds_cons (pd_if (pd_or (pd_tnot (pd_tval (c_ G_is_name ⟨rfl, rfl, rfl⟩ hr T.f_is_name tk (pd_cons (v_ 1) pd_nil)))) (pd_or1 (pd_tcmp (op_dNotIn hu) (v_ 1) (pd_fld ⟨rfl, rfl, rfl⟩ (by intro c hc; rw [List.mem_singleton.mp hc]; exact ⟨T.cls_17, T.na_17_sizes⟩) (v_ 0)) (by rfl)))).pt (pds_one pds_never) pds_nil) (pds_one (pd_ret (pd_dget hu (pd_fld ⟨rfl, rfl, rfl⟩ (by intro c hc; rw [List.mem_singleton.mp hc]; exact ⟨T.cls_17, T.na_17_sizes⟩) (v_ 0)) (v_ 1) (by intro _ _; rfl)))))
theorem ok_Group_leaves {z : Bz} {mg : Str → Option Value} {base : Heap} {ad : Nat → Addr} (T : Tx z mg ad) (ctok : CTok z ct) (D : DefQ z.K "leaves" "Group.leaves" (mth 31 5) (ad 32005) ["self", "page"]) (G_is_name : FnR z mg base 1 (ad 24) ["thing"] 1 F_is_name) : FnR z mg base 2 (ad 32005) ["self", "page"] 2 F_Group_leaves :=
  fn_rq (k := 1) (N := N_Group_leaves) D sc_Group_leaves (bd_Group_leaves T ctok G_is_name)
theorem sc_Group_barred : FnScope N_Group_barred ["self"] (defScope (mth 31 6)) := ⟨rfl, rfl, rfl, by decide +kernel, rfl, by decide +kernel, by decide +kernel⟩
theorem bd_Group_barred {z : Bz} {mg : Str → Option Value} {base : Heap} {ad : Nat → Addr} (T : Tx z mg ad) (ctok : CTok z ct)  (cdv : Value) (A : Around) (outer : List PySem.Env) (s : Shared) (H : Hp) (E : XK) (Wx : WX) (hr : Room 0 (fcx z.prog z.w z.K mg base N_Group_barred "Group.barred" (defScope (mth 31 6)) (ad 32006) cdv A outer s H E).A) (tk : Takes (fcx z.prog z.w z.K mg base N_Group_barred "Group.barred" (defScope (mth 31 6)) (ad 32006) cdv A outer s H E) Wx) : PSs (fcx z.prog z.w z.K mg base N_Group_barred "Group.barred" (defScope (mth 31 6)) (ad 32006) cdv A outer s H E) (defBody (mth 31 6)) (tS z Wx B_Group_barred) := by
  have hu := hr.units
  have hp : PassesOwn (model z.prog z.w) (fcx z.prog z.w z.K mg base N_Group_barred "Group.barred" (defScope (mth 31 6)) (ad 32006) cdv A outer s H E).A (fcx z.prog z.w z.K mg base N_Group_barred "Group.barred" (defScope (mth 31 6)) (ad 32006) cdv A outer s H E).env (fcx z.prog z.w z.K mg base N_Group_barred "Group.barred" (defScope (mth 31 6)) (ad 32006) cdv A outer s H E).xe := PassesOwn.leaving
  exact (pds_one (pd_ret (pd_callTy (cr_listA ⟨rfl, rfl, rfl⟩ rfl) (by rfl) T.b_list (by rfl) (pd_cons (pd_fld ⟨rfl, rfl, rfl⟩ (by intro c hc; rw [List.mem_singleton.mp hc]; exact ⟨T.cls_17, T.na_17_pairs⟩) (v_ 0)) pd_nil))))
theorem ok_Group_barred {z : Bz} {mg : Str → Option Value} {base : Heap} {ad : Nat → Addr} (T : Tx z mg ad) (ctok : CTok z ct) (D : DefQ z.K "barred" "Group.barred" (mth 31 6) (ad 32006) ["self"])  : FnR z mg base 1 (ad 32006) ["self"] 1 F_Group_barred :=
  fn_rq (k := 0) (N := N_Group_barred) D sc_Group_barred (bd_Group_barred T ctok )
theorem sc_Group___eq__ : FnScope N_Group___eq__ ["self", "other"] (defScope (mth 31 11)) := ⟨rfl, rfl, rfl, by decide +kernel, rfl, by decide +kernel, by decide +kernel⟩
theorem bd_Group___eq__ {z : Bz} {mg : Str → Option Value} {base : Heap} {ad : Nat → Addr} (T : Tx z mg ad) (ctok : CTok z ct)  (cdv : Value) (A : Around) (outer : List PySem.Env) (s : Shared) (H : Hp) (E : XK) (Wx : WX) (hr : Room 0 (fcx z.prog z.w z.K mg base N_Group___eq__ "Group.__eq__" (defScope (mth 31 11)) (ad 32011) cdv A outer s H E).A) (tk : Takes (fcx z.prog z.w z.K mg base N_Group___eq__ "Group.__eq__" (defScope (mth 31 11)) (ad 32011) cdv A outer s H E) Wx) : PSs (fcx z.prog z.w z.K mg base N_Group___eq__ "Group.__eq__" (defScope (mth 31 11)) (ad 32011) cdv A outer s H E) (defBody (mth 31 11)) (tS z Wx B_Group___eq__) := by
  have hu := hr.units
  have hp : PassesOwn (model z.prog z.w) (fcx z.prog z.w z.K mg base N_Group___eq__ "Group.__eq__" (defScope (mth 31 11)) (ad 32011) cdv A outer s H E).A (fcx z.prog z.w z.K mg base N_Group___eq__ "Group.__eq__" (defScope (mth 31 11)) (ad 32011) cdv A outer s H E).env (fcx z.prog z.w z.K mg base N_Group___eq__ "Group.__eq__" (defScope (mth 31 11)) (ad 32011) cdv A outer s H E).xe := PassesOwn.leaving
  exact (pds_cons (pd_if (pd_tnot (pd_tval (pd_callB (cr_isi ⟨rfl, rfl, rfl⟩ ctok) (by rfl) T.b_isinstance (by rfl) (pd_cons (v_ 1) (pd_cons (pd_cls (c := 17) (by rfl) T.c_Group) pd_nil))))) (pds_one (pd_ret pd_bl)) pds_nil) (pds_cons (pd_if (pd_or (pd_tcmp (op_dicNe ⟨rfl, rfl, rfl⟩ hu) (pd_fld ⟨rfl, rfl, rfl⟩ (by intro c hc; rw [List.mem_singleton.mp hc]; exact ⟨T.cls_17, T.na_17_holdings⟩) (v_ 0)) (pd_fld ⟨rfl, rfl, rfl⟩ (by intro c hc; rw [List.mem_singleton.mp hc]; exact ⟨T.cls_17, T.na_17_holdings⟩) (v_ 1)) (by rfl)) (pd_or1 (pd_tcmp (op_dicNe ⟨rfl, rfl, rfl⟩ hu) (pd_fld ⟨rfl, rfl, rfl⟩ (by intro c hc; rw [List.mem_singleton.mp hc]; exact ⟨T.cls_17, T.na_17_sizes⟩) (v_ 0)) (pd_fld ⟨rfl, rfl, rfl⟩ (by intro c hc; rw [List.mem_singleton.mp hc]; exact ⟨T.cls_17, T.na_17_sizes⟩) (v_ 1)) (by rfl)))).pt (pds_one (pd_ret pd_bl)) pds_nil) (pds_one (pd_ret (pd_cmp (op_eqP ⟨rfl, rfl, rfl⟩ hu) (pd_fld ⟨rfl, rfl, rfl⟩ (by intro c hc; rw [List.mem_singleton.mp hc]; exact ⟨T.cls_17, T.na_17_pairs⟩) (v_ 0)) (pd_fld ⟨rfl, rfl, rfl⟩ (by intro c hc; rw [List.mem_singleton.mp hc]; exact ⟨T.cls_17, T.na_17_pairs⟩) (v_ 1)) (by rfl))))))
theorem ok_Group___eq__ {z : Bz} {mg : Str → Option Value} {base : Heap} {ad : Nat → Addr} (T : Tx z mg ad) (ctok : CTok z ct) (D : DefQ z.K "__eq__" "Group.__eq__" (mth 31 11) (ad 32011) ["self", "other"])  : FnR z mg base 1 (ad 32011) ["self", "other"] 2 F_Group___eq__ :=
  fn_rq (k := 0) (N := N_Group___eq__) D sc_Group___eq__ (bd_Group___eq__ T ctok )
theorem sc_told_rounds : FnScope N_told_rounds ["many"] (defScope (top 36)) := ⟨rfl, rfl, rfl, by decide +kernel, rfl, by decide +kernel, by decide +kernel⟩
theorem bd_told_rounds {z : Bz} {mg : Str → Option Value} {base : Heap} {ad : Nat → Addr} (T : Tx z mg ad) (ctok : CTok z ct) (G_is_whole : FnR z mg base 1 (ad 25) ["thing", "least", "most"] 3 F_is_whole) (cdv : Value) (A : Around) (outer : List PySem.Env) (s : Shared) (H : Hp) (E : XK) (Wx : WX) (hr : Room 1 (fcx z.prog z.w z.K mg base N_told_rounds "told_rounds" (defScope (top 36)) (ad 36) cdv A outer s H E).A) (tk : Takes (fcx z.prog z.w z.K mg base N_told_rounds "told_rounds" (defScope (top 36)) (ad 36) cdv A outer s H E) Wx) : PSs (fcx z.prog z.w z.K mg base N_told_rounds "told_rounds" (defScope (top 36)) (ad 36) cdv A outer s H E) (defBody (top 36)) (tS z Wx B_told_rounds) := by
  have hu := hr.units
  have hp : PassesOwn (model z.prog z.w) (fcx z.prog z.w z.K mg base N_told_rounds "told_rounds" (defScope (top 36)) (ad 36) cdv A outer s H E).A (fcx z.prog z.w z.K mg base N_told_rounds "told_rounds" (defScope (top 36)) (ad 36) cdv A outer s H E).env (fcx z.prog z.w z.K mg base N_told_rounds "told_rounds" (defScope (top 36)) (ad 36) cdv A outer s H E).xe := PassesOwn.leaving
  exact (pds_cons (pd_if (pd_or (pd_tnot (pd_tval (c_ G_is_whole ⟨rfl, rfl, rfl⟩ hr T.f_is_whole tk (pd_cons (v_ 0) (pd_cons pd_int (pd_cons (pd_gint (by rfl) T.k_MOST_TOLD) pd_nil)))))) (pd_or1 (pd_tcmp (op_eqP ⟨rfl, rfl, rfl⟩ hu) (pd_bin op_modP (v_ 0) pd_int) pd_int (by rfl)))).pt (pds_one (pd_raise (c := 10) ⟨rfl, rfl, rfl⟩ T.r_NoNumber rfl tk T.c_NoNumber (by rfl))) pds_nil) (pds_cons (pd_set (i := 1) sc_told_rounds.nd rfl (by first | exact .inl rfl | exact .inr rfl) (pd_bin op_fdivP (v_ 0) pd_int)) (pds_cons (pd_set (i := 2) sc_told_rounds.nd rfl (by first | exact .inl rfl | exact .inr rfl) (pd_lst pd_nil)) (pds_cons (pd_set (i := 3) sc_told_rounds.nd rfl (by first | exact .inl rfl | exact .inr rfl) pd_int) (pds_cons (pd_while hp (pd_tcmp (op_ltP ⟨rfl, rfl, rfl⟩ hu) (v_ 3) (v_ 0) (by rfl)) (pds_cons (by first | exact (pd_set (i := 4) sc_told_rounds.nd rfl (by first | exact .inl rfl | exact .inr rfl) (pd_comp rfl sc_told_rounds.nd (pdi_range1 (by rfl) T.b_range (pd_cons (v_ 1) pd_nil)) (blkOk_by (own := [((PySem.Str.ofString "j"), 5)]) (by show blkC N_told_rounds (defScope (top 36)) _ _ = true; decide +kernel)) (fun _ _ _ _ _ => (pdg_name (i := 5) sc_told_rounds.nd rfl (by first | exact .inl rfl | exact .inr rfl) (by first | exact .inl rfl | exact .inr rfl))) (fun _ _ _ _ _ => pdt_nil) (fun _ _ _ _ _ => (pd_tup (pd_cons (pd_bin op_mulP pd_int (v_ 5)) (pd_cons (pd_bin (op_addP ⟨rfl, rfl, rfl⟩) (pd_bin op_mulP pd_int (pd_bin op_modP (pd_bin op_subP (pd_bin (op_addP ⟨rfl, rfl, rfl⟩) (v_ 5) (v_ 3)) pd_int) (v_ 1))) pd_int) pd_nil)))) (by decide))) | exact (pd_setComp rfl sc_told_rounds.nd (i := 4) (y := (PySem.Str.ofString "pairs")) rfl (by rfl) (by rfl) (pdi_range1 (by rfl) T.b_range (pd_cons (v_ 1) pd_nil)) (blkOk_by (own := [((PySem.Str.ofString "j"), 5)]) (by show blkC N_told_rounds (defScope (top 36)) _ _ = true; decide +kernel)) (fun _ _ _ _ _ => (pdg_name (i := 5) sc_told_rounds.nd rfl (by first | exact .inl rfl | exact .inr rfl) (by first | exact .inl rfl | exact .inr rfl))) (fun _ _ _ _ _ => pdt_nil) (fun _ _ _ _ _ => (pd_tup (pd_cons (pd_bin op_mulP pd_int (v_ 5)) (pd_cons (pd_bin (op_addP ⟨rfl, rfl, rfl⟩) (pd_bin op_mulP pd_int (pd_bin op_modP (pd_bin op_subP (pd_bin (op_addP ⟨rfl, rfl, rfl⟩) (v_ 5) (v_ 3)) pd_int) (v_ 1))) pd_int) pd_nil)))) (by decide))) (pds_cons (pd_expr (pd_append (v_ 2) (pd_cons (pd_callB (cr_sortA ⟨rfl, rfl, rfl⟩ (by exact hu) rfl) (by rfl) T.b_sorted (by rfl) (pd_cons (pd_comp rfl sc_told_rounds.nd (pdi_seq ⟨rfl, rfl, rfl⟩ (v_ 4)) (blkOk_by (own := [((PySem.Str.ofString "one"), 6), ((PySem.Str.ofString "other"), 7)]) (by show blkC N_told_rounds (defScope (top 36)) _ _ = true; decide +kernel)) (fun _ _ _ _ _ => (pdg_tup ⟨rfl, rfl, rfl⟩ rfl (pdgs_cons (pdg_name (i := 6) sc_told_rounds.nd rfl (by first | exact .inl rfl | exact .inr rfl) (by first | exact .inl rfl | exact .inr rfl)) (pdgs_cons (pdg_name (i := 7) sc_told_rounds.nd rfl (by first | exact .inl rfl | exact .inr rfl) (by first | exact .inl rfl | exact .inr rfl)) pdgs_nil)))) (fun _ _ _ _ _ => pdt_nil) (fun _ _ _ _ _ => (pd_tup (pd_cons (pd_callB (cr_min2 rfl) (by rfl) T.b_min (by rfl) (pd_cons (v_ 6) (pd_cons (v_ 7) pd_nil))) (pd_cons (pd_callB (cr_max2 rfl) (by rfl) T.b_max (by rfl) (pd_cons (v_ 6) (pd_cons (v_ 7) pd_nil))) pd_nil)))) (by decide)) pd_nil)) pd_nil))) (pds_one (pd_set (i := 3) sc_told_rounds.nd rfl (by first | exact .inl rfl | exact .inr rfl) (pd_bin op_mulP pd_int (v_ 3))))))) (pds_one (pd_ret (v_ 2))))))))
theorem ok_told_rounds {z : Bz} {mg : Str → Option Value} {base : Heap} {ad : Nat → Addr} (T : Tx z mg ad) (ctok : CTok z ct) (D : DefAt z.K "told_rounds" (top 36) (ad 36) ["many"]) (G_is_whole : FnR z mg base 1 (ad 25) ["thing", "least", "most"] 3 F_is_whole) : FnR z mg base 2 (ad 36) ["many"] 1 F_told_rounds :=
  fn_r (k := 1) (N := N_told_rounds) D sc_told_rounds (bd_told_rounds T ctok G_is_whole)
theorem sc_round_group : FnScope N_round_group ["many"] (defScope (top 37)) := ⟨rfl, rfl, rfl, by decide +kernel, rfl, by decide +kernel, by decide +kernel⟩
theorem bd_round_group {z : Bz} {mg : Str → Option Value} {base : Heap} {ad : Nat → Addr} (T : Tx z mg ad) (ctok : CTok z ct) (G_is_whole : FnR z mg base 1 (ad 25) ["thing", "least", "most"] 3 F_is_whole) (MK_Group_1 : MkR z mg base 4 17 1 4 [] F_Group___init__ gmk_Group_1) (cdv : Value) (A : Around) (outer : List PySem.Env) (s : Shared) (H : Hp) (E : XK) (Wx : WX) (hr : Room 5 (fcx z.prog z.w z.K mg base N_round_group "round_group" (defScope (top 37)) (ad 37) cdv A outer s H E).A) (tk : Takes (fcx z.prog z.w z.K mg base N_round_group "round_group" (defScope (top 37)) (ad 37) cdv A outer s H E) Wx) : PSs (fcx z.prog z.w z.K mg base N_round_group "round_group" (defScope (top 37)) (ad 37) cdv A outer s H E) (defBody (top 37)) (tS z Wx B_round_group) := by
  have hu := hr.units
  have hp : PassesOwn (model z.prog z.w) (fcx z.prog z.w z.K mg base N_round_group "round_group" (defScope (top 37)) (ad 37) cdv A outer s H E).A (fcx z.prog z.w z.K mg base N_round_group "round_group" (defScope (top 37)) (ad 37) cdv A outer s H E).env (fcx z.prog z.w z.K mg base N_round_group "round_group" (defScope (top 37)) (ad 37) cdv A outer s H E).xe := PassesOwn.leaving
  exact (pds_cons (pd_if (pd_tnot (pd_tval (c_ G_is_whole ⟨rfl, rfl, rfl⟩ hr T.f_is_whole tk (pd_cons (v_ 0) (pd_cons pd_int (pd_cons (pd_gint (by rfl) T.k_MOST_PEOPLE_rounds) pd_nil)))))) (pds_one (pd_raise (c := 10) ⟨rfl, rfl, rfl⟩ T.r_NoNumber rfl tk T.c_NoNumber (by rfl))) pds_nil) (pds_one (pd_ret (pd_frz (pd_make MK_Group_1 ⟨rfl, rfl, rfl⟩ hr tk T.c_Group (pd_cons (pd_frz (pd_dcomp rfl sc_round_group.nd (pdi_seq ⟨rfl, rfl, rfl⟩ (pd_slice (sl_P ⟨rfl, rfl, rfl⟩) (pd_gstr (by rfl) T.t_SIGNS) pd_no (pd_part (v_ 0)))) (blkOk_by (own := [((PySem.Str.ofString "sign"), 1)]) (by show blkC N_round_group (defScope (top 37)) _ _ = true; decide +kernel)) (fun _ _ _ _ _ => (pdg_name (i := 1) sc_round_group.nd rfl (by first | exact .inl rfl | exact .inr rfl) (by first | exact .inl rfl | exact .inr rfl))) (fun _ _ _ _ _ => pdt_nil) (fun _ _ _ _ _ => (v_ 1)) (fun _ _ _ _ _ => (pd_lst (pd_cons (v_ 1) pd_nil))) (by decide))) pd_nil) pdk_nil)))))
theorem ok_round_group {z : Bz} {mg : Str → Option Value} {base : Heap} {ad : Nat → Addr} (T : Tx z mg ad) (ctok : CTok z ct) (D : DefAt z.K "round_group" (top 37) (ad 37) ["many"]) (G_is_whole : FnR z mg base 1 (ad 25) ["thing", "least", "most"] 3 F_is_whole) (MK_Group_1 : MkR z mg base 4 17 1 4 [] F_Group___init__ gmk_Group_1) : FnR z mg base 6 (ad 37) ["many"] 1 F_round_group :=
  fn_r (k := 5) (N := N_round_group) D sc_round_group (bd_round_group T ctok G_is_whole MK_Group_1)
theorem sc__law_begun : FnScope N__law_begun ["script"] (defScope (top 39)) := ⟨rfl, rfl, rfl, by decide +kernel, rfl, by decide +kernel, by decide +kernel⟩
theorem bd__law_begun {z : Bz} {mg : Str → Option Value} {base : Heap} {ad : Nat → Addr} (T : Tx z mg ad) (ctok : CTok z ct)  (cdv : Value) (A : Around) (outer : List PySem.Env) (s : Shared) (H : Hp) (E : XK) (Wx : WX) (hr : Room 0 (fcx z.prog z.w z.K mg base N__law_begun "_law_begun" (defScope (top 39)) (ad 39) cdv A outer s H E).A) (tk : Takes (fcx z.prog z.w z.K mg base N__law_begun "_law_begun" (defScope (top 39)) (ad 39) cdv A outer s H E) Wx) : PSs (fcx z.prog z.w z.K mg base N__law_begun "_law_begun" (defScope (top 39)) (ad 39) cdv A outer s H E) (defBody (top 39)) (tS z Wx B__law_begun) := by
  have hu := hr.units
  have hp : PassesOwn (model z.prog z.w) (fcx z.prog z.w z.K mg base N__law_begun "_law_begun" (defScope (top 39)) (ad 39) cdv A outer s H E).A (fcx z.prog z.w z.K mg base N__law_begun "_law_begun" (defScope (top 39)) (ad 39) cdv A outer s H E).env (fcx z.prog z.w z.K mg base N__law_begun "_law_begun" (defScope (top 39)) (ad 39) cdv A outer s H E).xe := PassesOwn.leaving
  exact (pds_cons (by first | exact (pd_set (i := 1) sc__law_begun.nd rfl (by first | exact .inl rfl | exact .inr rfl) (pd_comp rfl sc__law_begun.nd (pdi_seq ⟨rfl, rfl, rfl⟩ (v_ 0)) (blkOk_by (own := [((PySem.Str.ofString "cell"), 2)]) (by show blkC N__law_begun (defScope (top 39)) _ _ = true; decide +kernel)) (fun _ _ _ _ _ => (pdg_name (i := 2) sc__law_begun.nd rfl (by first | exact .inl rfl | exact .inr rfl) (by first | exact .inl rfl | exact .inr rfl))) (fun _ _ _ _ _ => pdt_nil) (fun _ _ _ _ _ => (pd_callB cr_abs (by rfl) T.b_abs (by rfl) (pd_cons (v_ 2) pd_nil))) (by decide))) | exact (pd_setComp rfl sc__law_begun.nd (i := 1) (y := (PySem.Str.ofString "cells")) rfl (by rfl) (by rfl) (pdi_seq ⟨rfl, rfl, rfl⟩ (v_ 0)) (blkOk_by (own := [((PySem.Str.ofString "cell"), 2)]) (by show blkC N__law_begun (defScope (top 39)) _ _ = true; decide +kernel)) (fun _ _ _ _ _ => (pdg_name (i := 2) sc__law_begun.nd rfl (by first | exact .inl rfl | exact .inr rfl) (by first | exact .inl rfl | exact .inr rfl))) (fun _ _ _ _ _ => pdt_nil) (fun _ _ _ _ _ => (pd_callB cr_abs (by rfl) T.b_abs (by rfl) (pd_cons (v_ 2) pd_nil))) (by decide))) (pds_one (pd_ret (pd_dict (.cons pd_str (pd_comp rfl sc__law_begun.nd (pdi_seq ⟨rfl, rfl, rfl⟩ (v_ 1)) (blkOk_by (own := [((PySem.Str.ofString "cell"), 2)]) (by show blkC N__law_begun (defScope (top 39)) _ _ = true; decide +kernel)) (fun _ _ _ _ _ => (pdg_name (i := 2) sc__law_begun.nd rfl (by first | exact .inl rfl | exact .inr rfl) (by first | exact .inl rfl | exact .inr rfl))) (fun _ _ _ _ _ => (pdt_one (pd_tcmp (op_geP ⟨rfl, rfl, rfl⟩ hu) (v_ 2) (pd_bin op_powP pd_int pd_int) (by rfl)))) (fun _ _ _ _ _ => (v_ 2)) (by decide)) (.cons pd_str (v_ 1) (.cons pd_str pd_int (.cons pd_str pd_int (.cons pd_str pd_int .nil)))))))))
theorem ok__law_begun {z : Bz} {mg : Str → Option Value} {base : Heap} {ad : Nat → Addr} (T : Tx z mg ad) (ctok : CTok z ct) (D : DefAt z.K "_law_begun" (top 39) (ad 39) ["script"])  : FnR z mg base 1 (ad 39) ["script"] 1 F__law_begun :=
  fn_r (k := 0) (N := N__law_begun) D sc__law_begun (bd__law_begun T ctok )
theorem sc__law_take : FnScope N__law_take ["draw", "size"] (defScope (top 40)) := ⟨rfl, rfl, rfl, by decide +kernel, rfl, by decide +kernel, by decide +kernel⟩
theorem bd__law_take {z : Bz} {mg : Str → Option Value} {base : Heap} {ad : Nat → Addr} (T : Tx z mg ad) (ctok : CTok z ct)  (cdv : Value) (A : Around) (outer : List PySem.Env) (s : Shared) (H : Hp) (E : XK) (Wx : WX) (hr : Room 0 (fcx z.prog z.w z.K mg base N__law_take "_law_take" (defScope (top 40)) (ad 40) cdv A outer s H E).A) (tk : Takes (fcx z.prog z.w z.K mg base N__law_take "_law_take" (defScope (top 40)) (ad 40) cdv A outer s H E) Wx) : PSs (fcx z.prog z.w z.K mg base N__law_take "_law_take" (defScope (top 40)) (ad 40) cdv A outer s H E) (defBody (top 40)) (tS z Wx B__law_take) := by
  have hu := hr.units
  have hp : PassesOwn (model z.prog z.w) (fcx z.prog z.w z.K mg base N__law_take "_law_take" (defScope (top 40)) (ad 40) cdv A outer s H E).A (fcx z.prog z.w z.K mg base N__law_take "_law_take" (defScope (top 40)) (ad 40) cdv A outer s H E).env (fcx z.prog z.w z.K mg base N__law_take "_law_take" (defScope (top 40)) (ad 40) cdv A outer s H E).xe := PassesOwn.leaving
  exact (pds_cons (pd_while hp (pd_and (pd_tcmp (op_eqP ⟨rfl, rfl, rfl⟩ hu) (pd_dget hu (v_ 0) pd_str (by intro _ _; rfl)) pd_int (by rfl)) (pd_and1 (pd_tcmp (op_neP ⟨rfl, rfl, rfl⟩ hu) (pd_dget hu (v_ 0) pd_str (by intro _ _; rfl)) (pd_lst pd_nil) (by rfl)))).pt (pds_one (pd_dput hu (v_ 0) pd_str (pd_pop0 (pd_dget hu (v_ 0) pd_str (by intro _ _; rfl)) (pd_cons pd_int pd_nil))))) (pds_cons (pd_if (pd_tcmp (op_gtP ⟨rfl, rfl, rfl⟩ hu) (pd_dget hu (v_ 0) pd_str (by intro _ _; rfl)) pd_int (by rfl)) (pds_cons (pd_set (i := 4) sc__law_take.nd rfl (by first | exact .inl rfl | exact .inr rfl) (pd_bin op_modP (pd_dget hu (v_ 0) pd_str (by intro _ _; rfl)) (v_ 1))) (pds_cons (pd_dput hu (v_ 0) pd_str (pd_bin op_fdivP (pd_dget hu (v_ 0) pd_str (by intro _ _; rfl)) (v_ 1))) (pds_one (pd_ret (v_ 4))))) pds_nil) (pds_cons (pd_set (i := 2) sc__law_take.nd rfl (by first | exact .inl rfl | exact .inr rfl) pd_int) (pds_cons (pd_if (pd_tcmp (op_neP ⟨rfl, rfl, rfl⟩ hu) (pd_dget hu (v_ 0) pd_str (by intro _ _; rfl)) (pd_lst pd_nil) (by rfl)) (pds_one (pd_set (i := 2) sc__law_take.nd rfl (by first | exact .inl rfl | exact .inr rfl) (pd_ix (ix_P ⟨rfl, rfl, rfl⟩) (pd_dget hu (v_ 0) pd_str (by intro _ _; rfl)) (pd_bin op_modP (pd_dget hu (v_ 0) pd_str (by intro _ _; rfl)) (pd_callB (cr_lenA ⟨rfl, rfl, rfl⟩) (by rfl) T.b_len (by rfl) (pd_cons (pd_dget hu (v_ 0) pd_str (by intro _ _; rfl)) pd_nil))) (by intro _ _; rfl)))) pds_nil) (pds_cons (pd_dput hu (v_ 0) pd_str (pd_bin (op_addP ⟨rfl, rfl, rfl⟩) (pd_dget hu (v_ 0) pd_str (by intro _ _; rfl)) pd_int)) (pds_cons (pd_dput hu (v_ 0) pd_str (pd_bin op_modP (pd_bin (op_addP ⟨rfl, rfl, rfl⟩) (pd_bin (op_addP ⟨rfl, rfl, rfl⟩) (pd_bin op_mulP (pd_dget hu (v_ 0) pd_str (by intro _ _; rfl)) pd_int) (v_ 2)) (pd_bin op_mulP pd_int (pd_dget hu (v_ 0) pd_str (by intro _ _; rfl)))) pd_int)) (pds_cons (pd_set (i := 3) sc__law_take.nd rfl (by first | exact .inl rfl | exact .inr rfl) (pd_bin op_modP (pd_bin (op_addP ⟨rfl, rfl, rfl⟩) (pd_bin (op_addP ⟨rfl, rfl, rfl⟩) (pd_bin op_mulP (pd_dget hu (v_ 0) pd_str (by intro _ _; rfl)) (pd_dget hu (v_ 0) pd_str (by intro _ _; rfl))) (pd_bin op_mulP pd_int (pd_dget hu (v_ 0) pd_str (by intro _ _; rfl)))) pd_int) pd_int)) (pds_one (pd_ret (pd_bin op_modP (pd_bin op_fdivP (pd_bin op_modP (pd_bin op_mulP (v_ 3) (v_ 3)) pd_int) pd_int) (v_ 1)))))))))))
theorem ok__law_take {z : Bz} {mg : Str → Option Value} {base : Heap} {ad : Nat → Addr} (T : Tx z mg ad) (ctok : CTok z ct) (D : DefAt z.K "_law_take" (top 40) (ad 40) ["draw", "size"])  : FnR z mg base 1 (ad 40) ["draw", "size"] 2 F__law_take :=
  fn_r (k := 0) (N := N__law_take) D sc__law_take (bd__law_take T ctok )
theorem sc__law_pick : FnScope N__law_pick ["draw", "some"] (defScope (top 41)) := ⟨rfl, rfl, rfl, by decide +kernel, rfl, by decide +kernel, by decide +kernel⟩
theorem bd__law_pick {z : Bz} {mg : Str → Option Value} {base : Heap} {ad : Nat → Addr} (T : Tx z mg ad) (ctok : CTok z ct) (G__law_take : FnR z mg base 1 (ad 40) ["draw", "size"] 2 F__law_take) (cdv : Value) (A : Around) (outer : List PySem.Env) (s : Shared) (H : Hp) (E : XK) (Wx : WX) (hr : Room 1 (fcx z.prog z.w z.K mg base N__law_pick "_law_pick" (defScope (top 41)) (ad 41) cdv A outer s H E).A) (tk : Takes (fcx z.prog z.w z.K mg base N__law_pick "_law_pick" (defScope (top 41)) (ad 41) cdv A outer s H E) Wx) : PSs (fcx z.prog z.w z.K mg base N__law_pick "_law_pick" (defScope (top 41)) (ad 41) cdv A outer s H E) (defBody (top 41)) (tS z Wx B__law_pick) := by
  have hu := hr.units
  have hp : PassesOwn (model z.prog z.w) (fcx z.prog z.w z.K mg base N__law_pick "_law_pick" (defScope (top 41)) (ad 41) cdv A outer s H E).A (fcx z.prog z.w z.K mg base N__law_pick "_law_pick" (defScope (top 41)) (ad 41) cdv A outer s H E).env (fcx z.prog z.w z.K mg base N__law_pick "_law_pick" (defScope (top 41)) (ad 41) cdv A outer s H E).xe := PassesOwn.leaving
  exact (pds_one (pd_ret (pd_ix (ix_P ⟨rfl, rfl, rfl⟩) (v_ 1) (c_ G__law_take ⟨rfl, rfl, rfl⟩ hr T.f__law_take tk (pd_cons (v_ 0) (pd_cons (pd_callB (cr_lenA ⟨rfl, rfl, rfl⟩) (by rfl) T.b_len (by rfl) (pd_cons (v_ 1) pd_nil)) pd_nil))) (by intro _ _; rfl))))
theorem ok__law_pick {z : Bz} {mg : Str → Option Value} {base : Heap} {ad : Nat → Addr} (T : Tx z mg ad) (ctok : CTok z ct) (D : DefAt z.K "_law_pick" (top 41) (ad 41) ["draw", "some"]) (G__law_take : FnR z mg base 1 (ad 40) ["draw", "size"] 2 F__law_take) : FnR z mg base 2 (ad 41) ["draw", "some"] 2 F__law_pick :=
  fn_r (k := 1) (N := N__law_pick) D sc__law_pick (bd__law_pick T ctok G__law_take)
theorem sc__law_due : FnScope N__law_due ["size"] (defScope (top 43)) := ⟨rfl, rfl, rfl, by decide +kernel, rfl, by decide +kernel, by decide +kernel⟩
theorem bd__law_due {z : Bz} {mg : Str → Option Value} {base : Heap} {ad : Nat → Addr} (T : Tx z mg ad) (ctok : CTok z ct)  (cdv : Value) (A : Around) (outer : List PySem.Env) (s : Shared) (H : Hp) (E : XK) (Wx : WX) (hr : Room 0 (fcx z.prog z.w z.K mg base N__law_due "_law_due" (defScope (top 43)) (ad 43) cdv A outer s H E).A) (tk : Takes (fcx z.prog z.w z.K mg base N__law_due "_law_due" (defScope (top 43)) (ad 43) cdv A outer s H E) Wx) : PSs (fcx z.prog z.w z.K mg base N__law_due "_law_due" (defScope (top 43)) (ad 43) cdv A outer s H E) (defBody (top 43)) (tS z Wx B__law_due) := by
  have hu := hr.units
  have hp : PassesOwn (model z.prog z.w) (fcx z.prog z.w z.K mg base N__law_due "_law_due" (defScope (top 43)) (ad 43) cdv A outer s H E).A (fcx z.prog z.w z.K mg base N__law_due "_law_due" (defScope (top 43)) (ad 43) cdv A outer s H E).env (fcx z.prog z.w z.K mg base N__law_due "_law_due" (defScope (top 43)) (ad 43) cdv A outer s H E).xe := PassesOwn.leaving
  exact (pds_cons (pd_par (i := 1) (j := 2) rfl sc__law_due.nd rfl rfl (by decide) (by rfl) (by rfl) (pd_cons (pd_lst pd_nil) (pd_cons pd_int pd_nil)) (by rfl)) (pds_cons (pd_while hp (pd_tcmp (op_ltP ⟨rfl, rfl, rfl⟩ hu) (pd_bin (op_addP ⟨rfl, rfl, rfl⟩) (v_ 2) pd_int) (v_ 0) (by rfl)) (pds_cons (pd_set (i := 3) sc__law_due.nd rfl (by first | exact .inl rfl | exact .inr rfl) (pd_lst pd_nil)) (pds_cons (pd_for hp rfl (pdi_range1 (by rfl) T.b_range (pd_cons (pd_bin op_fdivP (v_ 0) pd_int) pd_nil)) (pdg_name (i := 4) sc__law_due.nd rfl (by first | exact .inl rfl | exact .inr rfl) (by first | exact .inl rfl | exact .inr rfl)) (pds_cons (pd_set (i := 5) sc__law_due.nd rfl (by first | exact .inl rfl | exact .inr rfl) (pd_bin op_modP (pd_bin (op_addP ⟨rfl, rfl, rfl⟩) (v_ 4) (v_ 2)) (pd_bin op_fdivP (v_ 0) pd_int))) (pds_one (pd_expr (pd_append (v_ 3) (pd_cons (pd_tup (pd_cons (pd_callB (cr_min2 rfl) (by rfl) T.b_min (by rfl) (pd_cons (pd_bin op_mulP pd_int (v_ 4)) (pd_cons (pd_bin (op_addP ⟨rfl, rfl, rfl⟩) (pd_bin op_mulP pd_int (v_ 5)) pd_int) pd_nil))) (pd_cons (pd_callB (cr_max2 rfl) (by rfl) T.b_max (by rfl) (pd_cons (pd_bin op_mulP pd_int (v_ 4)) (pd_cons (pd_bin (op_addP ⟨rfl, rfl, rfl⟩) (pd_bin op_mulP pd_int (v_ 5)) pd_int) pd_nil))) pd_nil))) pd_nil)))))) (pds_cons (pd_expr (pd_append (v_ 1) (pd_cons (pd_callB (cr_sortA ⟨rfl, rfl, rfl⟩ (by exact hu) rfl) (by rfl) T.b_sorted (by rfl) (pd_cons (v_ 3) pd_nil)) pd_nil))) (pds_one (pd_set (i := 2) sc__law_due.nd rfl (by first | exact .inl rfl | exact .inr rfl) (pd_bin (op_addP ⟨rfl, rfl, rfl⟩) (pd_bin op_mulP pd_int (v_ 2)) pd_int))))))) (pds_one (pd_ret (v_ 1)))))
theorem ok__law_due {z : Bz} {mg : Str → Option Value} {base : Heap} {ad : Nat → Addr} (T : Tx z mg ad) (ctok : CTok z ct) (D : DefAt z.K "_law_due" (top 43) (ad 43) ["size"])  : FnR z mg base 1 (ad 43) ["size"] 1 F__law_due :=
  fn_r (k := 0) (N := N__law_due) D sc__law_due (bd__law_due T ctok )
theorem sc__law_rounds_right : FnScope N__law_rounds_right ["size"] (defScope (top 44)) := ⟨rfl, rfl, rfl, by decide +kernel, rfl, by decide +kernel, by decide +kernel⟩
theorem bd__law_rounds_right {z : Bz} {mg : Str → Option Value} {base : Heap} {ad : Nat → Addr} (T : Tx z mg ad) (ctok : CTok z ct) (G_told_rounds : FnR z mg base 2 (ad 36) ["many"] 1 F_told_rounds) (G__law_due : FnR z mg base 1 (ad 43) ["size"] 1 F__law_due) (GK_told_rounds : ∃ fd, FnOk z.prog z.w z.K mg base (L2.CX z.prog z.w) 2 (ad 36) fd ["many"] (spD z 1 F_told_rounds) ∧ PySem.W.keepIn z.K (.ref (ad 36)) = true ∧ KBinds z.K fd ["many"] ["many"] (fun us ws => us ++ ws) (fun vs zs => vs ++ zs)) (cdv : Value) (A : Around) (outer : List PySem.Env) (s : Shared) (H : Hp) (E : XK) (Wx : WX) (hr : Room 2 (fcx z.prog z.w z.K mg base N__law_rounds_right "_law_rounds_right" (defScope (top 44)) (ad 44) cdv A outer s H E).A) (tk : Takes (fcx z.prog z.w z.K mg base N__law_rounds_right "_law_rounds_right" (defScope (top 44)) (ad 44) cdv A outer s H E) Wx) : PSs (fcx z.prog z.w z.K mg base N__law_rounds_right "_law_rounds_right" (defScope (top 44)) (ad 44) cdv A outer s H E) (defBody (top 44)) (tS z Wx B__law_rounds_right) := by
  have hu := hr.units
  have hp : PassesOwn (model z.prog z.w) (fcx z.prog z.w z.K mg base N__law_rounds_right "_law_rounds_right" (defScope (top 44)) (ad 44) cdv A outer s H E).A (fcx z.prog z.w z.K mg base N__law_rounds_right "_law_rounds_right" (defScope (top 44)) (ad 44) cdv A outer s H E).env (fcx z.prog z.w z.K mg base N__law_rounds_right "_law_rounds_right" (defScope (top 44)) (ad 44) cdv A outer s H E).xe := PassesOwn.leaving
  exact (pds_cons (pd_set (i := 1) sc__law_rounds_right.nd rfl (by first | exact .inl rfl | exact .inr rfl) (pd_frz (c_ G__law_due ⟨rfl, rfl, rfl⟩ hr T.f__law_due tk (pd_cons (v_ 0) pd_nil)))) (pds_cons (pd_for hp rfl (pdi_range1 (by rfl) T.b_range (pd_cons pd_int pd_nil)) (pdg_name (i := 2) sc__law_rounds_right.nd rfl (by first | exact .inl rfl | exact .inr rfl) (by first | exact .inl rfl | exact .inr rfl)) (pds_cons (pd_set (i := 3) sc__law_rounds_right.nd rfl (by first | exact .inl rfl | exact .inr rfl) (pd_ifE (pd_tcmp (op_eqP ⟨rfl, rfl, rfl⟩ hu) (v_ 2) pd_int (by rfl)) (ck_ GK_told_rounds ⟨rfl, rfl, rfl⟩ hr T.f_told_rounds tk (pdk_cons (v_ 0) pdk_nil)) (c_ G_told_rounds ⟨rfl, rfl, rfl⟩ hr T.f_told_rounds tk (pd_cons (v_ 0) pd_nil)))) (pds_cons (pd_if (pd_or (pd_tnot (pd_tval (pd_callB (cr_isi ⟨rfl, rfl, rfl⟩ ctok) (by rfl) T.b_isinstance (by rfl) (pd_cons (v_ 3) (pd_cons (pd_ty (by rfl) T.b_list) pd_nil))))) (pd_or (pd_tcmp (op_neP ⟨rfl, rfl, rfl⟩ hu) (pd_comp rfl sc__law_rounds_right.nd (pdi_seq ⟨rfl, rfl, rfl⟩ (v_ 3)) (blkOk_by (own := [((PySem.Str.ofString "row"), 4)]) (by show blkC N__law_rounds_right (defScope (top 44)) _ _ = true; decide +kernel)) (fun _ _ _ _ _ => (pdg_name (i := 4) sc__law_rounds_right.nd rfl (by first | exact .inl rfl | exact .inr rfl) (by first | exact .inl rfl | exact .inr rfl))) (fun _ _ _ _ _ => (pdt_one (pd_tnot (pd_tval (pd_callB (cr_isi ⟨rfl, rfl, rfl⟩ ctok) (by rfl) T.b_isinstance (by rfl) (pd_cons (v_ 4) (pd_cons (pd_ty (by rfl) T.b_list) pd_nil))))))) (fun _ _ _ _ _ => (v_ 4)) (by decide)) (pd_lst pd_nil) (by rfl)) (pd_or1 (pd_tcmp (op_neN ⟨rfl, rfl, rfl⟩ hu) (v_ 3) (v_ 1) (by rfl))))).pt (pds_one (pd_ret pd_bl)) pds_nil) (pds_cons (pd_for hp rfl (pdi_seq ⟨rfl, rfl, rfl⟩ (v_ 3)) (pdg_name (i := 4) sc__law_rounds_right.nd rfl (by first | exact .inl rfl | exact .inr rfl) (by first | exact .inl rfl | exact .inr rfl)) (pds_cons (pd_if (pd_tcmp (op_neP ⟨rfl, rfl, rfl⟩ hu) (pd_callB (cr_sortA ⟨rfl, rfl, rfl⟩ (by exact hu) rfl) (by rfl) T.b_sorted (by rfl) (pd_cons (pd_bin (op_addP ⟨rfl, rfl, rfl⟩) (pd_comp rfl sc__law_rounds_right.nd (pdi_seq ⟨rfl, rfl, rfl⟩ (v_ 4)) (blkOk_by (own := [((PySem.Str.ofString "pair"), 5)]) (by show blkC N__law_rounds_right (defScope (top 44)) _ _ = true; decide +kernel)) (fun _ _ _ _ _ => (pdg_name (i := 5) sc__law_rounds_right.nd rfl (by first | exact .inl rfl | exact .inr rfl) (by first | exact .inl rfl | exact .inr rfl))) (fun _ _ _ _ _ => pdt_nil) (fun _ _ _ _ _ => (pd_ix (ix_P ⟨rfl, rfl, rfl⟩) (v_ 5) pd_int (by intro _ _; rfl))) (by decide)) (pd_comp rfl sc__law_rounds_right.nd (pdi_seq ⟨rfl, rfl, rfl⟩ (v_ 4)) (blkOk_by (own := [((PySem.Str.ofString "pair"), 5)]) (by show blkC N__law_rounds_right (defScope (top 44)) _ _ = true; decide +kernel)) (fun _ _ _ _ _ => (pdg_name (i := 5) sc__law_rounds_right.nd rfl (by first | exact .inl rfl | exact .inr rfl) (by first | exact .inl rfl | exact .inr rfl))) (fun _ _ _ _ _ => pdt_nil) (fun _ _ _ _ _ => (pd_ix (ix_P ⟨rfl, rfl, rfl⟩) (v_ 5) pd_int (by intro _ _; rfl))) (by decide))) pd_nil)) (pd_lstRg rfl (by rfl) T.b_list (by rfl) T.b_range (v_ 0)) (by rfl)) (pds_one (pd_ret pd_bl)) pds_nil) (pds_one (pd_expr (pd_append (v_ 4) (pd_cons (pd_tup (pd_cons pd_int (pd_cons pd_int pd_nil))) pd_nil)))))) (pds_one (pd_expr (pd_append (v_ 3) (pd_cons (pd_lst pd_nil) pd_nil)))))))) (pds_one (pd_ret pd_bl))))
theorem ok__law_rounds_right {z : Bz} {mg : Str → Option Value} {base : Heap} {ad : Nat → Addr} (T : Tx z mg ad) (ctok : CTok z ct) (D : DefAt z.K "_law_rounds_right" (top 44) (ad 44) ["size"]) (G_told_rounds : FnR z mg base 2 (ad 36) ["many"] 1 F_told_rounds) (G__law_due : FnR z mg base 1 (ad 43) ["size"] 1 F__law_due) (GK_told_rounds : ∃ fd, FnOk z.prog z.w z.K mg base (L2.CX z.prog z.w) 2 (ad 36) fd ["many"] (spD z 1 F_told_rounds) ∧ PySem.W.keepIn z.K (.ref (ad 36)) = true ∧ KBinds z.K fd ["many"] ["many"] (fun us ws => us ++ ws) (fun vs zs => vs ++ zs)) : FnR z mg base 3 (ad 44) ["size"] 1 F__law_rounds_right :=
  fn_r (k := 2) (N := N__law_rounds_right) D sc__law_rounds_right (bd__law_rounds_right T ctok G_told_rounds G__law_due GK_told_rounds)
theorem sc__law_group_right : FnScope N__law_group_right ["size"] (defScope (top 45)) := ⟨rfl, rfl, rfl, by decide +kernel, rfl, by decide +kernel, by decide +kernel⟩
theorem bd__law_group_right {z : Bz} {mg : Str → Option Value} {base : Heap} {ad : Nat → Addr} (T : Tx z mg ad) (ctok : CTok z ct) (G_round_group : FnR z mg base 6 (ad 37) ["many"] 1 F_round_group) (G_Group_people : FnR z mg base 1 (ad 32001) ["self"] 1 F_Group_people) (G_Group_pages : FnR z mg base 1 (ad 32002) ["self"] 1 F_Group_pages) (G_Group_held : FnR z mg base 2 (ad 32003) ["self", "person"] 2 F_Group_held) (G_Group_leaves : FnR z mg base 2 (ad 32005) ["self", "page"] 2 F_Group_leaves) (G_Group_barred : FnR z mg base 1 (ad 32006) ["self"] 1 F_Group_barred) (G_Group___eq__ : FnR z mg base 1 (ad 32011) ["self", "other"] 2 F_Group___eq__) (MK_Group_1 : MkR z mg base 4 17 1 4 [] F_Group___init__ gmk_Group_1) (GK_round_group : ∃ fd, FnOk z.prog z.w z.K mg base (L2.CX z.prog z.w) 6 (ad 37) fd ["many"] (spD z 1 F_round_group) ∧ PySem.W.keepIn z.K (.ref (ad 37)) = true ∧ KBinds z.K fd ["many"] ["many"] (fun us ws => us ++ ws) (fun vs zs => vs ++ zs)) (cdv : Value) (A : Around) (outer : List PySem.Env) (s : Shared) (H : Hp) (E : XK) (Wx : WX) (hr : Room 6 (fcx z.prog z.w z.K mg base N__law_group_right "_law_group_right" (defScope (top 45)) (ad 45) cdv A outer s H E).A) (tk : Takes (fcx z.prog z.w z.K mg base N__law_group_right "_law_group_right" (defScope (top 45)) (ad 45) cdv A outer s H E) Wx) : PSs (fcx z.prog z.w z.K mg base N__law_group_right "_law_group_right" (defScope (top 45)) (ad 45) cdv A outer s H E) (defBody (top 45)) (tS z Wx B__law_group_right) := by
  have hu := hr.units
  have hp : PassesOwn (model z.prog z.w) (fcx z.prog z.w z.K mg base N__law_group_right "_law_group_right" (defScope (top 45)) (ad 45) cdv A outer s H E).A (fcx z.prog z.w z.K mg base N__law_group_right "_law_group_right" (defScope (top 45)) (ad 45) cdv A outer s H E).env (fcx z.prog z.w z.K mg base N__law_group_right "_law_group_right" (defScope (top 45)) (ad 45) cdv A outer s H E).xe := PassesOwn.leaving
  exact (pds_cons (pd_set (i := 1) sc__law_group_right.nd rfl (by first | exact .inl rfl | exact .inr rfl) (pd_callTy (cr_listA ⟨rfl, rfl, rfl⟩ rfl) (by rfl) T.b_list (by rfl) (pd_cons (pd_slice (sl_P ⟨rfl, rfl, rfl⟩) pd_str pd_no (pd_part (v_ 0))) pd_nil))) (pds_cons (pd_set (i := 2) sc__law_group_right.nd rfl (by first | exact .inl rfl | exact .inr rfl) (pd_frz (ck_ GK_round_group ⟨rfl, rfl, rfl⟩ hr T.f_round_group tk (pdk_cons (v_ 0) pdk_nil)))) (pds_cons (pd_if (pd_tcmp (op_ownNe G_Group___eq__ ⟨rfl, rfl, rfl⟩ T.own_17 hr) (v_ 2) (pd_frz (c_ G_round_group ⟨rfl, rfl, rfl⟩ hr T.f_round_group tk (pd_cons (v_ 0) pd_nil))) (by rfl)) (pds_one (pd_ret pd_bl)) pds_nil) (pds_cons (pd_if (pd_or (pd_tcmp (op_neP ⟨rfl, rfl, rfl⟩ hu) (pd_meth0 G_Group_people ⟨rfl, rfl, rfl⟩ hr tk T.cls_17 T.mt_Group_people (v_ 2)) (v_ 1) (by rfl)) (pd_or (pd_tcmp (op_neP ⟨rfl, rfl, rfl⟩ hu) (pd_meth0 G_Group_pages ⟨rfl, rfl, rfl⟩ hr tk T.cls_17 T.mt_Group_pages (v_ 2)) (v_ 1) (by rfl)) (pd_or1 (pd_tcmp (op_neP ⟨rfl, rfl, rfl⟩ hu) (pd_meth0 G_Group_barred ⟨rfl, rfl, rfl⟩ hr tk T.cls_17 T.mt_Group_barred (v_ 2)) (pd_lst pd_nil) (by rfl))))).pt (pds_one (pd_ret pd_bl)) pds_nil) (pds_cons (pd_if (pd_tcmp (op_neP ⟨rfl, rfl, rfl⟩ hu) (pd_comp rfl sc__law_group_right.nd (pdi_seq ⟨rfl, rfl, rfl⟩ (v_ 1)) (blkOk_by (own := [((PySem.Str.ofString "person"), 3)]) (by show blkC N__law_group_right (defScope (top 45)) _ _ = true; decide +kernel)) (fun _ _ _ _ _ => (pdg_name (i := 3) sc__law_group_right.nd rfl (by first | exact .inl rfl | exact .inr rfl) (by first | exact .inl rfl | exact .inr rfl))) (fun _ _ _ _ _ => pdt_nil) (fun _ _ _ _ _ => (pd_meth G_Group_held ⟨rfl, rfl, rfl⟩ hr LamX.takes0 T.cls_17 T.mt_Group_held (v_ 2) (pd_cons (v_ 3) pd_nil))) (by decide)) (pd_comp rfl sc__law_group_right.nd (pdi_seq ⟨rfl, rfl, rfl⟩ (v_ 1)) (blkOk_by (own := [((PySem.Str.ofString "person"), 3)]) (by show blkC N__law_group_right (defScope (top 45)) _ _ = true; decide +kernel)) (fun _ _ _ _ _ => (pdg_name (i := 3) sc__law_group_right.nd rfl (by first | exact .inl rfl | exact .inr rfl) (by first | exact .inl rfl | exact .inr rfl))) (fun _ _ _ _ _ => pdt_nil) (fun _ _ _ _ _ => (pd_tup (pd_cons (v_ 3) pd_nil))) (by decide)) (by rfl)) (pds_one (pd_ret pd_bl)) pds_nil) (pds_cons (pd_if (pd_tcmp (op_neP ⟨rfl, rfl, rfl⟩ hu) (pd_comp rfl sc__law_group_right.nd (pdi_seq ⟨rfl, rfl, rfl⟩ (v_ 1)) (blkOk_by (own := [((PySem.Str.ofString "page"), 4)]) (by show blkC N__law_group_right (defScope (top 45)) _ _ = true; decide +kernel)) (fun _ _ _ _ _ => (pdg_name (i := 4) sc__law_group_right.nd rfl (by first | exact .inl rfl | exact .inr rfl) (by first | exact .inl rfl | exact .inr rfl))) (fun _ _ _ _ _ => pdt_nil) (fun _ _ _ _ _ => (pd_meth G_Group_leaves ⟨rfl, rfl, rfl⟩ hr LamX.takes0 T.cls_17 T.mt_Group_leaves (v_ 2) (pd_cons (v_ 4) pd_nil))) (by decide)) (pd_bin op_mulP (pd_lst (pd_cons pd_int pd_nil)) (v_ 0)) (by rfl)) (pds_one (pd_ret pd_bl)) pds_nil) (pds_one (pd_ret (pd_cmp (op_ownEq G_Group___eq__ ⟨rfl, rfl, rfl⟩ T.own_17 hr) (v_ 2) (pd_frz (pd_make MK_Group_1 ⟨rfl, rfl, rfl⟩ hr tk T.c_Group (pd_cons (pd_frz (pd_callTy (cr_dictP ⟨rfl, rfl, rfl⟩ rfl) (by rfl) T.b_dict (by rfl) (pd_cons (pd_comp rfl sc__law_group_right.nd (pdi_seq ⟨rfl, rfl, rfl⟩ (v_ 1)) (blkOk_by (own := [((PySem.Str.ofString "one"), 5)]) (by show blkC N__law_group_right (defScope (top 45)) _ _ = true; decide +kernel)) (fun _ _ _ _ _ => (pdg_name (i := 5) sc__law_group_right.nd rfl (by first | exact .inl rfl | exact .inr rfl) (by first | exact .inl rfl | exact .inr rfl))) (fun _ _ _ _ _ => pdt_nil) (fun _ _ _ _ _ => (pd_tup (pd_cons (v_ 5) (pd_cons (pd_lst (pd_cons (v_ 5) pd_nil)) pd_nil)))) (by decide)) pd_nil))) pd_nil) pdk_nil)) (by rfl))))))))))
theorem ok__law_group_right {z : Bz} {mg : Str → Option Value} {base : Heap} {ad : Nat → Addr} (T : Tx z mg ad) (ctok : CTok z ct) (D : DefAt z.K "_law_group_right" (top 45) (ad 45) ["size"]) (G_round_group : FnR z mg base 6 (ad 37) ["many"] 1 F_round_group) (G_Group_people : FnR z mg base 1 (ad 32001) ["self"] 1 F_Group_people) (G_Group_pages : FnR z mg base 1 (ad 32002) ["self"] 1 F_Group_pages) (G_Group_held : FnR z mg base 2 (ad 32003) ["self", "person"] 2 F_Group_held) (G_Group_leaves : FnR z mg base 2 (ad 32005) ["self", "page"] 2 F_Group_leaves) (G_Group_barred : FnR z mg base 1 (ad 32006) ["self"] 1 F_Group_barred) (G_Group___eq__ : FnR z mg base 1 (ad 32011) ["self", "other"] 2 F_Group___eq__) (MK_Group_1 : MkR z mg base 4 17 1 4 [] F_Group___init__ gmk_Group_1) (GK_round_group : ∃ fd, FnOk z.prog z.w z.K mg base (L2.CX z.prog z.w) 6 (ad 37) fd ["many"] (spD z 1 F_round_group) ∧ PySem.W.keepIn z.K (.ref (ad 37)) = true ∧ KBinds z.K fd ["many"] ["many"] (fun us ws => us ++ ws) (fun vs zs => vs ++ zs)) : FnR z mg base 7 (ad 45) ["size"] 1 F__law_group_right :=
  fn_r (k := 6) (N := N__law_group_right) D sc__law_group_right (bd__law_group_right T ctok G_round_group G_Group_people G_Group_pages G_Group_held G_Group_leaves G_Group_barred G_Group___eq__ MK_Group_1 GK_round_group)
end K14

-- Xk14
set_option maxHeartbeats 4000000
namespace K14
open PySem PySem.Spec L2 Pl
theorem sc__law_no_number : FnScope N__law_no_number ["work"] (defScope (top 42)) := ⟨rfl, rfl, rfl, by decide +kernel, rfl, by decide +kernel, by decide +kernel⟩
theorem bd_nn {z : Bz} {mg : Str → Option Value} {base : Heap} {ad : Nat → Addr} (T : Tx z mg ad) (ctok : CTok z ct) (hcatch : ∀ k b, catchNN k = some b → PySem.W.exmOne z.K (.ref (z.ca k)) (.ref (z.ca 0)) = some b) (n : Nat) (q : Str) (fb : FE) (f c' : Addr) (σ : L2.St) (cdv : Value) (A : Around) (outer : List PySem.Env) (s : Shared) (H : Hp) (E : XK)
    (hw : ∀ pn xe Wg p1 p2, Takes ((fcx z.prog z.w z.K mg base N__law_no_number "_law_no_number" (defScope (top 42)) (ad 42) cdv A outer s H E).tr pn xe) Wg → PE ((fcx z.prog z.w z.K mg base N__law_no_number "_law_no_number" (defScope (top 42)) (ad 42) cdv A outer s H E).tr pn xe) (.Call (.Name "work" p1) [] [] p2) (tE z Wg (fWork 0 n f c' q σ fb))) (Wx : WX) (hr : Room 7 (fcx z.prog z.w z.K mg base N__law_no_number "_law_no_number" (defScope (top 42)) (ad 42) cdv A outer s H E).A) (tk : Takes (fcx z.prog z.w z.K mg base N__law_no_number "_law_no_number" (defScope (top 42)) (ad 42) cdv A outer s H E) Wx) : PSs (fcx z.prog z.w z.K mg base N__law_no_number "_law_no_number" (defScope (top 42)) (ad 42) cdv A outer s H E) (defBody (top 42)) (tS z Wx (GB n q fb f c' σ)) := by
  have hu := hr.units
  have hp : PassesOwn (model z.prog z.w) (fcx z.prog z.w z.K mg base N__law_no_number "_law_no_number" (defScope (top 42)) (ad 42) cdv A outer s H E).A (fcx z.prog z.w z.K mg base N__law_no_number "_law_no_number" (defScope (top 42)) (ad 42) cdv A outer s H E).env (fcx z.prog z.w z.K mg base N__law_no_number "_law_no_number" (defScope (top 42)) (ad 42) cdv A outer s H E).xe := PassesOwn.leaving
  exact pds_cons (pd_set (i := 1) sc__law_no_number.nd rfl (.inl rfl) pd_non) (pds_cons (pd_keep (catch_ := catchNN) (i := 2) (j := 1) ⟨rfl, rfl, rfl⟩ hcatch (by decide) rfl rfl rfl sc__law_no_number.nd rfl rfl rfl rfl ⟨by rfl, by decide, .inl T.c_HandError⟩ tk (fun W pn xe tk2 _ => pds_one (pd_expr (hw pn xe W _ _ tk2)))) (pds_cons (pd_if (pd_or (pd_tcmp (op_isN ⟨rfl, rfl, rfl⟩) (v_ 1) pd_non (by rfl)) (pd_or (pd_tnot (pd_tval (pd_callB (cr_isi ⟨rfl, rfl, rfl⟩ ctok) (by rfl) T.b_isinstance (by rfl) (pd_cons (v_ 1) (pd_cons (pd_cls (c := 10) (by rfl) T.c_NoNumber) pd_nil))))) (pd_or1 (pd_tnot (pd_tval (pd_callB (cr_isi ⟨rfl, rfl, rfl⟩ ctok) (by rfl) T.b_isinstance (by rfl) (pd_cons (v_ 1) (pd_cons (pd_ty (by rfl) T.b_ValueError) pd_nil)))))))).pt (pds_one (pd_ret pd_bl)) pds_nil) (pds_cons (pd_if (pd_tval (pd_callB (cr_isi ⟨rfl, rfl, rfl⟩ ctok) (by rfl) T.b_isinstance (by rfl) (pd_cons (v_ 1) (pd_cons (pd_tup (pd_cons (pd_cls (c := 1) (by rfl) T.c_BadGroup) (pd_cons (pd_cls (c := 2) (by rfl) T.c_NoName) (pd_cons (pd_cls (c := 4) (by rfl) T.c_NoPage) (pd_cons (pd_cls (c := 3) (by rfl) T.c_NoPerson) (pd_cons (pd_cls (c := 5) (by rfl) T.c_Twice) (pd_cons (pd_cls (c := 6) (by rfl) T.c_Barred) (pd_cons (pd_cls (c := 7) (by rfl) T.c_Idle) (pd_cons (pd_cls (c := 8) (by rfl) T.c_Uneven) (pd_cons (pd_cls (c := 9) (by rfl) T.c_NoCall) pd_nil)))))))))) pd_nil)))) (pds_one (pd_ret pd_bl)) pds_nil) (pds_one (pd_ret (pd_notV (pd_callB (cr_isi ⟨rfl, rfl, rfl⟩ ctok) (by rfl) T.b_isinstance (by rfl) (pd_cons (v_ 1) (pd_cons (pd_tup (pd_cons (pd_cls (c := 11) (by rfl) T.c_NoWay) (pd_cons (pd_cls (c := 12) (by rfl) T.c_TooMany) (pd_cons (pd_cls (c := 14) (by rfl) T.c_NoDeed) (pd_cons (pd_cls (c := 16) (by rfl) T.c_NoText) (pd_cons (pd_cls (c := 13) (by rfl) T.c_Spoils) (pd_cons (pd_cls (c := 15) (by rfl) T.c_NoBack) pd_nil))))))) pd_nil)))))))))
theorem sc_law : FnScope N_law ["script"] (defScope (top 46)) := ⟨rfl, rfl, rfl, by decide +kernel, rfl, by decide +kernel, by decide +kernel⟩
theorem post_ok {n : Nat} {q : Str} {fb : FE} {ix : List Nat} {cs : List (Sum PD Nat)} {M : Store} {r : Sum Xn E × Store} {f c' : Addr} {σ : L2.St} (h : postNN (fb (capEnv n ix cs) M) = some r) : fnOf N__law_no_number.length (GB n q fb f c' σ) [.fn f c' q σ ix cs] M = some r := by
  unfold postNN at h
  split at h
  · rename_i M' e
    have hw : fWork 0 n f c' q σ fb ([some (.fn f c' q σ ix cs), some (.p .non), none] : Pl.Env) M = some (.inl ⟨10, []⟩, M') := by
      show (if f = f ∧ c' = c' ∧ q = q ∧ σ = σ then fb (capEnv n ix cs) M else none) = _
      rw [if_pos ⟨rfl, rfl, rfl, rfl⟩, e]
    have hk : gKeep 2 1 catchNN (gDrop (fWork 0 n f c' q σ fb)) ([some (.fn f c' q σ ix cs), some (.p .non), none] : Pl.Env) M = some (.nx [some (.fn f c' q σ ix cs), some (.p (.exn 10 [])), none], M') := by
      unfold gKeep gDrop
      rw [hw]
      rfl
    cases h
    unfold fnOf
    show (match (match gKeep 2 1 catchNN (gDrop (fWork 0 n f c' q σ fb)) ([some (.fn f c' q σ ix cs), some (.p .non), none] : Pl.Env) M with | some (.nx ρ1, M1) => _ | r => r) with | some (.nx _, M') => _ | some (.rt e, M') => _ | some (.xn x _, M') => _ | _ => none) = _
    rw [hk]
    rfl
  · cases h
theorem bd_law {z : Bz} {mg : Str → Option Value} {base : Heap} {ad : Nat → Addr} (T : Tx z mg ad) (ctok : CTok z ct) (hcatch : ∀ k b, catchNN k = some b → PySem.W.exmOne z.K (.ref (z.ca k)) (.ref (z.ca 0)) = some b) (DN : DefAt z.K "_law_no_number" (top 42) (ad 42) ["work"]) (G_told_rounds : FnR z mg base 2 (ad 36) ["many"] 1 F_told_rounds) (G_round_group : FnR z mg base 6 (ad 37) ["many"] 1 F_round_group) (G__law_begun : FnR z mg base 1 (ad 39) ["script"] 1 F__law_begun) (G__law_take : FnR z mg base 1 (ad 40) ["draw", "size"] 2 F__law_take) (G__law_pick : FnR z mg base 2 (ad 41) ["draw", "some"] 2 F__law_pick) (G__law_rounds_right : FnR z mg base 3 (ad 44) ["size"] 1 F__law_rounds_right) (G__law_group_right : FnR z mg base 7 (ad 45) ["size"] 1 F__law_group_right)
    {cc P : Addr} (TB : LamX.TabB base mg cc P) (hmT : (P, PySem.Str.ofString "law.<locals>.<lambda>") ∈ z.T) (hu2 : ∀ p ∈ z.T, p.1 = P → p.2 = PySem.Str.ofString "law.<locals>.<lambda>") (A : Around) (outer : List PySem.Env) (s : Shared) (H : Hp) (E : XK) (Wx : WX) (hr : Room 9 (fcx z.prog z.w z.K mg base N_law "law" (defScope (top 46)) (ad 46) (.ref cc) A outer s H E).A) (tk : Takes (fcx z.prog z.w z.K mg base N_law "law" (defScope (top 46)) (ad 46) (.ref cc) A outer s H E) Wx) : PSs (fcx z.prog z.w z.K mg base N_law "law" (defScope (top 46)) (ad 46) (.ref cc) A outer s H E) (defBody (top 46)) (tS z Wx B_law) := by
  have hu := hr.units
  have hp : PassesOwn (model z.prog z.w) (fcx z.prog z.w z.K mg base N_law "law" (defScope (top 46)) (ad 46) (.ref cc) A outer s H E).A (fcx z.prog z.w z.K mg base N_law "law" (defScope (top 46)) (ad 46) (.ref cc) A outer s H E).env (fcx z.prog z.w z.K mg base N_law "law" (defScope (top 46)) (ad 46) (.ref cc) A outer s H E).xe := PassesOwn.leaving
  exact (pds_cons (pd_set (i := 1) sc_law.nd rfl (by first | exact .inl rfl | exact .inr rfl) (c_ G__law_begun ⟨rfl, rfl, rfl⟩ hr T.f__law_begun tk (pd_cons (v_ 0) pd_nil))) (pds_cons (pd_for hp rfl (pdi_range1 (by rfl) T.b_range (pd_cons (pd_callB (cr_max2 rfl) (by rfl) T.b_max (by rfl) (pd_cons pd_int (pd_cons (pd_callB (cr_min2 rfl) (by rfl) T.b_min (by rfl) (pd_cons pd_int (pd_cons (pd_callB (cr_lenA ⟨rfl, rfl, rfl⟩) (by rfl) T.b_len (by rfl) (pd_cons (v_ 0) pd_nil)) pd_nil))) pd_nil))) pd_nil)) (pdg_name (i := 2) sc_law.nd rfl (by first | exact .inl rfl | exact .inr rfl) (by first | exact .inl rfl | exact .inr rfl)) (pds_cons (pd_if (pd_tnot (pd_tval (pd_frz (c_ G__law_rounds_right ⟨rfl, rfl, rfl⟩ hr T.f__law_rounds_right tk (pd_cons (pd_bin (op_addP ⟨rfl, rfl, rfl⟩) pd_int (pd_bin op_mulP pd_int (c_ G__law_take ⟨rfl, rfl, rfl⟩ hr T.f__law_take tk (pd_cons (v_ 1) (pd_cons pd_int pd_nil))))) pd_nil))))) (pds_one (pd_ret pd_bl)) pds_nil) (pds_cons (pd_set (i := 3) sc_law.nd rfl (by first | exact .inl rfl | exact .inr rfl) (pd_lst (pd_cons (pd_bin (op_addP ⟨rfl, rfl, rfl⟩) pd_int (pd_bin op_mulP pd_int (pd_bin op_subP (c_ G__law_take ⟨rfl, rfl, rfl⟩ hr T.f__law_take tk (pd_cons (v_ 1) (pd_cons pd_int pd_nil))) pd_int))) (pd_cons (pd_bin (op_addP ⟨rfl, rfl, rfl⟩) pd_int (pd_bin op_mulP pd_int (c_ G__law_take ⟨rfl, rfl, rfl⟩ hr T.f__law_take tk (pd_cons (v_ 1) (pd_cons pd_int pd_nil))))) (pd_cons (pd_bin op_subP pd_int (pd_bin op_mulP pd_int (c_ G__law_take ⟨rfl, rfl, rfl⟩ hr T.f__law_take tk (pd_cons (v_ 1) (pd_cons pd_int pd_nil))))) pd_nil))))) (pds_cons (pd_set (i := 4) sc_law.nd rfl (by first | exact .inl rfl | exact .inr rfl) (c_ G__law_pick ⟨rfl, rfl, rfl⟩ hr T.f__law_pick tk (pd_cons (v_ 1) (pd_cons (pd_bin (op_addP ⟨rfl, rfl, rfl⟩) (v_ 3) (pd_lst (pd_cons pd_int (pd_cons (pd_bin op_powP pd_int pd_int) (pd_cons pd_bl (pd_cons pd_bl (pd_cons pd_str (pd_cons pd_non (pd_cons (pd_lst (pd_cons pd_int pd_nil)) (pd_cons (pd_tup (pd_cons pd_int pd_nil)) (pd_cons (pd_frz pd_dict0) (pd_cons (pd_un un_negP pd_int) pd_nil)))))))))))) pd_nil)))) (pds_cons (pd_if (pd_tnot (pd_tval (by obtain ⟨fdN, FN, BN⟩ := DN; obtain ⟨oc, od, kV, doc, pm, an, cdv, ct', osl, rfl, lk, hcd⟩ := FN.ex; exact pd_lamcall (n := 6) (Ng := N__law_no_number) (k := 6) (gB := fun f c' σ => GB 6 "law.<locals>.<lambda>" (fCall 1 F_told_rounds [] (fCons (fVar 4) fNil)) f c' σ) ⟨rfl, rfl, rfl⟩ rfl (by rfl) T.f__law_no_number FN.kp lk hcd BN sc__law_no_number rfl (.inl rfl) (fun f c' s H σ E hw hr2 Wg tkg => bd_nn T ctok hcatch 6 _ _ f c' σ _ _ _ s H E hw Wg hr2 tkg) (fun cs M r h f c' σ => post_ok h) TB rfl hmT hu2 (hr.mono (by decide)) (LamX.lamS_by (by show LamX.lamSB (defScope (top 46)) _ = true; decide +kernel)) rfl (fun _ _ _ _ _ => rfl) (fun A outer s H E f c' hr3 => c_ G_told_rounds ⟨rfl, rfl, rfl⟩ hr3 T.f_told_rounds (takes_of rfl rfl rfl rfl) (pd_cons (v_ 4) pd_nil)) tk))) (pds_one (pd_ret pd_bl)) pds_nil) (pds_cons (pd_set (i := 3) sc_law.nd rfl (by first | exact .inl rfl | exact .inr rfl) (pd_lst (pd_cons (pd_bin (op_addP ⟨rfl, rfl, rfl⟩) pd_int (c_ G__law_take ⟨rfl, rfl, rfl⟩ hr T.f__law_take tk (pd_cons (v_ 1) (pd_cons pd_int pd_nil)))) (pd_cons (pd_bin op_subP pd_int (c_ G__law_take ⟨rfl, rfl, rfl⟩ hr T.f__law_take tk (pd_cons (v_ 1) (pd_cons pd_int pd_nil)))) (pd_cons pd_int (pd_cons pd_bl (pd_cons pd_str (pd_cons pd_non (pd_cons (pd_lst (pd_cons pd_int pd_nil)) (pd_cons (pd_bin op_powP pd_int pd_int) (pd_cons pd_bl (pd_cons (pd_tup (pd_cons pd_int (pd_cons pd_int pd_nil))) pd_nil)))))))))))) (pds_cons (pd_set (i := 5) sc_law.nd rfl (by first | exact .inl rfl | exact .inr rfl) (c_ G__law_pick ⟨rfl, rfl, rfl⟩ hr T.f__law_pick tk (pd_cons (v_ 1) (pd_cons (v_ 3) pd_nil)))) (pds_one (pd_if (pd_or (pd_tnot (pd_tval (by obtain ⟨fdN, FN, BN⟩ := DN; obtain ⟨oc, od, kV, doc, pm, an, cdv, ct', osl, rfl, lk, hcd⟩ := FN.ex; exact pd_lamcall (n := 6) (Ng := N__law_no_number) (k := 6) (gB := fun f c' σ => GB 6 "law.<locals>.<lambda>" (fCall 1 F_round_group [] (fCons (fVar 5) fNil)) f c' σ) ⟨rfl, rfl, rfl⟩ rfl (by rfl) T.f__law_no_number FN.kp lk hcd BN sc__law_no_number rfl (.inl rfl) (fun f c' s H σ E hw hr2 Wg tkg => bd_nn T ctok hcatch 6 _ _ f c' σ _ _ _ s H E hw Wg hr2 tkg) (fun cs M r h f c' σ => post_ok h) TB rfl hmT hu2 (hr.mono (by decide)) (LamX.lamS_by (by show LamX.lamSB (defScope (top 46)) _ = true; decide +kernel)) rfl (fun _ _ _ _ _ => rfl) (fun A outer s H E f c' hr3 => c_ G_round_group ⟨rfl, rfl, rfl⟩ hr3 T.f_round_group (takes_of rfl rfl rfl rfl) (pd_cons (v_ 5) pd_nil)) tk))) (pd_or1 (pd_tnot (pd_tval (pd_frz (c_ G__law_group_right ⟨rfl, rfl, rfl⟩ hr T.f__law_group_right tk (pd_cons (pd_bin (op_addP ⟨rfl, rfl, rfl⟩) pd_int (c_ G__law_take ⟨rfl, rfl, rfl⟩ hr T.f__law_take tk (pd_cons (v_ 1) (pd_cons pd_int pd_nil)))) pd_nil))))))).pt (pds_one (pd_ret pd_bl)) pds_nil))))))))) (pds_one (pd_ret pd_bl))))
end K14

-- R1
namespace K14
open PySem L2 Pl
abbrev kS (x : String) : Key := .inr (PySem.Str.ofString x)
def iE (i : Int) : E := .p (.int i)
def dr (g : Nat) (cs : List Int) (r t m : Int) : List (Key × E) := [(kS "great", .r g), (kS "cells", .p (.lst (cs.map .int))), (kS "rest", iE r), (kS "turn", iE t), (kS "more", iE m)]
theorem g1 (g : Nat) (cs : List Int) (r t m : Int) : getD (dr g cs r t m) (kS "great") = some (.r g) := by rfl
theorem g2 (g : Nat) (cs : List Int) (r t m : Int) : getD (dr g cs r t m) (kS "cells") = some (.p (.lst (cs.map .int))) := by rfl
theorem g3 (g : Nat) (cs : List Int) (r t m : Int) : getD (dr g cs r t m) (kS "rest") = some (iE r) := by rfl
theorem g4 (g : Nat) (cs : List Int) (r t m : Int) : getD (dr g cs r t m) (kS "turn") = some (iE t) := by rfl
theorem g5 (g : Nat) (cs : List Int) (r t m : Int) : getD (dr g cs r t m) (kS "more") = some (iE m) := by rfl
theorem s3 (g : Nat) (cs : List Int) (r t m x : Int) : setD (dr g cs r t m) (kS "rest") (iE x) = dr g cs x t m := by rfl
theorem s4 (g : Nat) (cs : List Int) (r t m x : Int) : setD (dr g cs r t m) (kS "turn") (iE x) = dr g cs r x m := by rfl
theorem s5 (g : Nat) (cs : List Int) (r t m x : Int) : setD (dr g cs r t m) (kS "more") (iE x) = dr g cs r t x := by rfl
theorem ko (g : Nat) (cs : List Int) (r t m : Int) : keysOk (dr g cs r t m) = true := by rfl
theorem eqI (M : Store) (i j : Int) : pyEq M (iE i) (iE j) = some (decide (i = j)) := by
  show (if min 0 0 ≤ 60 then some (i == j) else none) = _
  rfl
theorem ltI (M : Store) (i j : Int) : pyLt M (iE i) (iE j) = some (decide (i < j)) := rfl
theorem leI (M : Store) (i j : Int) : pyLe M (iE i) (iE j) = some (decide (i ≤ j)) := rfl
/-- the draw: its cell, the cell of its great ones -/
structure Dr (M : Store) (k g : Nat) (gs cs : List Int) (r t m : Int) : Prop where
  a : M[k]? = some (some (.dic (dr g cs r t m)))
  b : M[g]? = some (some (.lst (gs.map iE)))
  ne : g ≠ k
section
variable {M : Store} {k g : Nat} {gs cs : List Int} {r t m : Int} {ρ : Pl.Env}
theorem dget_ev {x : String} {D : List (Key × E)} {e : E} (hρ : ρ[0]? = some (some (.r k))) (hM : M[k]? = some (some (.dic D))) (hx : getD D (kS x) = some e) : fBin gDGet (fVar 0) (fC (.str (PySem.Str.ofString x))) ρ M = some (.inr e, M) := by
  have h1 : fVar 0 ρ M = some (.inr (.r k), M) := by unfold fVar; rw [hρ]
  unfold fBin
  rw [h1]
  show lft (gDGet (.r k) (.p (.str (PySem.Str.ofString x))) M) = _
  have h2 : gDGet (.r k) (.p (.str (PySem.Str.ofString x))) M = some (e, M) := by
    unfold gDGet asDic asKey
    simp only [hM, hx]
  rw [h2]
  rfl
theorem dput_ev {x : String} {D : List (Key × E)} {v : E} {fv : FE} {M1 : Store} (hρ : ρ[0]? = some (some (.r k))) (hv : fv ρ M = some (.inr v, M1)) (hM : M1[k]? = some (some (.dic D))) (hl : D.length < 16777216) (hk : keysOk D = true) :
    gDPut (fVar 0) (fC (.str (PySem.Str.ofString x))) fv ρ M = some (.nx ρ, M1.set k (some (.dic (setD D (kS x) v)))) := by
  unfold gDPut stx
  rw [hv]
  have h1 : fVar 0 ρ M1 = some (.inr (.r k), M1) := by unfold fVar; rw [hρ]
  simp only [h1]
  show (match M1[k]? with | some (some (.dic es)) => if es.length < 16777216 ∧ keysOk es = true then some (Fl.nx ρ, M1.set k (some (.dic (setD es (kS x) v)))) else none | _ => none) = _
  rw [hM]
  simp only [hl, hk, and_self, if_true]
theorem Dr.put (d : Dr M k g gs cs r t m) {r' t' m' : Int} : Dr (M.set k (some (.dic (dr g cs r' t' m')))) k g gs cs r' t' m' := by
  have hk : k < M.length := (List.getElem?_eq_some_iff.mp d.a).1
  exact ⟨by rw [List.getElem?_set_self hk], by rw [List.getElem?_set_ne (Ne.symm d.ne)]; exact d.b, d.ne⟩
abbrev tW : FT := fAndT (fTst (fBin gEq (fBin gDGet (fVar 0) (fC (.str (PySem.Str.ofString "rest")))) (fC (.int 0)))) (fTst (fBin gNe (fBin gDGet (fVar 0) (fC (.str (PySem.Str.ofString "great")))) (fLst false (fNil))))
abbrev gW : FS := gDPut (fVar 0) (fC (.str (PySem.Str.ofString "rest"))) (fBM isL gPop0 (fBin gDGet (fVar 0) (fC (.str (PySem.Str.ofString "great")))) (fCons (fC (.int 0)) (fNil)))
theorem bin_ev {g2 : G2} {fa fb : FE} {x y e : E} {M1 M2 M3 : Store} (ha : fa ρ M = some (.inr x, M1)) (hb : fb ρ M1 = some (.inr y, M2)) (hg : g2 x y M2 = some (e, M3)) : fBin g2 fa fb ρ M = some (.inr e, M3) := by
  unfold fBin
  rw [ha]
  show bnd (fb ρ M1) _ = _
  rw [hb]
  show lft (g2 x y M2) = _
  rw [hg]
  rfl
theorem tst_ev {f : FE} {b : Bool} {M1 : Store} (h : f ρ M = some (.inr (.p (.bl b)), M1)) : fTst f ρ M = some (.inr b, M1) := by
  unfold fTst
  rw [h]
  rfl
theorem neL {es : List Int} (hg : M[g]? = some (some (.lst (es.map iE)))) : pyEq M (.r g) (.p (.lst [])) = some (decide (es = [])) := by
  have h1 : ∀ l : List Int, asPs (l.map iE) = some (l.map .int) := fun l => by
    induction l with
    | nil => rfl
    | cons a l ih => show asPs (.p (.int a) :: l.map iE) = _; unfold asPs; rw [ih]; rfl
  have h2 : ∀ l : List Int, toPys (l.map .int) = some (l.map .int) := fun l => by
    induction l with
    | nil => rfl
    | cons a l ih => show toPys (.int a :: l.map .int) = _; unfold toPys; rw [ih]; rfl
  have h3 : toPyE M (.r g) = some (.list (es.map .int)) := by
    show cellPy M[g]? = _
    rw [hg]
    unfold cellPy
    simp only [h1, h2, Option.map_some]
  unfold pyEq
  rw [h3]
  cases es with
  | nil => rfl
  | cons a l =>
    show (if min _ (PyData.depth (.list [])) ≤ 60 then _ else none) = _
    rw [if_pos (Nat.le_trans (Nat.min_le_right _ _) (by decide))]
    rfl
theorem tW_ev (hρ : ρ[0]? = some (some (.r k))) (d : Dr M k g gs cs r t m) : tW ρ M = some (.inr (decide (r = 0) && !decide (gs = [])), M) := by
  have h1 : fTst (fBin gEq (fBin gDGet (fVar 0) (fC (.str (PySem.Str.ofString "rest")))) (fC (.int 0))) ρ M = some (.inr (decide (r = 0)), M) :=
    tst_ev (bin_ev (dget_ev hρ d.a (g3 g cs r t m)) rfl (by unfold gEq; rw [show E.p (PD.int 0) = iE 0 from rfl, eqI]; rfl))
  have h2 : fTst (fBin gNe (fBin gDGet (fVar 0) (fC (.str (PySem.Str.ofString "great")))) (fLst false (fNil))) ρ M = some (.inr (!decide (gs = [])), M) :=
    tst_ev (bin_ev (dget_ev hρ d.a (g1 g cs r t m)) (y := .p (.lst [])) rfl (by unfold gNe; rw [neL d.b]; rfl))
  unfold tW fAndT
  rw [h1]
  show (if decide (r = 0) = true then fTst (fBin gNe (fBin gDGet (fVar 0) (fC (.str (PySem.Str.ofString "great")))) (fLst false (fNil))) ρ M else some (.inr false, M)) = _
  by_cases hr : r = 0
  · simp only [hr, decide_true, if_true, Bool.true_and]; exact h2
  · simp only [hr, decide_false, Bool.false_and]; rfl
theorem gW_ev {x : Int} (hρ : ρ[0]? = some (some (.r k))) (d : Dr M k g (x :: gs) cs r t m) : ∃ M', gW ρ M = some (.nx ρ, M') ∧ Dr M' k g gs cs x t m ∧ M'.length = M.length ∧ ∀ j, j ≠ k → j ≠ g → M'[j]? = M[j]? := by
  have hg : g < M.length := (List.getElem?_eq_some_iff.mp d.b).1
  have hb : M[g]? = some (some (.lst (iE x :: gs.map iE))) := d.b
  have h1 : fBM isL gPop0 (fBin gDGet (fVar 0) (fC (.str (PySem.Str.ofString "great")))) (fCons (fC (.int 0)) (fNil)) ρ M = some (.inr (iE x), M.set g (some (.lst (gs.map iE)))) := by
    unfold fBM
    rw [dget_ev hρ d.a (g1 g cs r t m)]
    have h2 : isL M (.r g) = true := by
      show (match M[g]? with | some (some (.lst es)) => some es | _ => none).isSome = true
      rw [hb]; rfl
    show (if isL M (.r g) = true then bnd (fCons (fC (.int 0)) fNil ρ M) _ else none) = _
    rw [if_pos h2]
    show lft (gPop0 (.r g) [.p (.int 0)] M) = _
    have h3 : gPop0 (.r g) [.p (.int 0)] M = some (iE x, M.set g (some (.lst (gs.map iE)))) := by
      show (match M[g]? with | some (some (.lst (e :: es))) => some (e, M.set g (some (.lst es))) | _ => none) = _
      rw [hb]
    rw [h3]
    rfl
  have ha : (M.set g (some (.lst (gs.map iE))))[k]? = some (some (.dic (dr g cs r t m))) := by rw [List.getElem?_set_ne d.ne]; exact d.a
  refine ⟨_, dput_ev hρ h1 ha (by show 5 < _; decide) (ko g cs r t m), ?_, by simp, fun j hk hg' => ?_⟩
  · rw [s3]
    have d1 : Dr (M.set g (some (.lst (gs.map iE)))) k g gs cs r t m := ⟨ha, by rw [List.getElem?_set_self hg], d.ne⟩
    exact d1.put
  · rw [List.getElem?_set_ne (Ne.symm hk), List.getElem?_set_ne (Ne.symm hg')]
/-- the while: great ones are taken till there is a rest -/
theorem while_ev (hρ : ρ[0]? = some (some (.r k))) : ∀ (n : Nat) (M : Store) (gs : List Int) (r : Int), gs.length < n → 0 ≤ r → (∀ x ∈ gs, 0 ≤ x) → Dr M k g gs cs r t m → ∃ M' gs' r', whileN tW gW n ρ M = some (.nx ρ, M') ∧ Dr M' k g gs' cs r' t m ∧ 0 ≤ r' ∧ gs'.length ≤ gs.length ∧ (∀ x ∈ gs', 0 ≤ x) ∧ M'.length = M.length ∧ ∀ j, j ≠ k → j ≠ g → M'[j]? = M[j]?
  | 0, M, gs, r, h, _, _, _ => absurd h (by omega)
  | n + 1, M, gs, r, h, hr, hp, d => by
    unfold whileN
    rw [tW_ev hρ d]
    cases gs with
    | nil =>
      refine ⟨M, [], r, ?_, d, hr, Nat.le_refl _, hp, rfl, fun _ _ _ => rfl⟩
      simp [stx]
    | cons x gs =>
      by_cases e : r = 0
      · obtain ⟨M1, e1, d1, l1, f1⟩ := gW_ev hρ d
        obtain ⟨M', gs', r', e2, d2, h2, h3, h4, h5, h6⟩ := while_ev hρ n M1 gs x (by simp at h; omega) (hp x List.mem_cons_self) (fun y hy => hp y (List.mem_cons_of_mem _ hy)) d1
        refine ⟨M', gs', r', ?_, d2, h2, by simp; omega, h4, h5.trans l1, fun j a b => (h6 j a b).trans (f1 j a b)⟩
        simp only [stx, e, decide_true, Bool.true_and]
        rw [e1]
        exact e2
      · refine ⟨M, x :: gs, r, ?_, d, hr, Nat.le_refl _, hp, rfl, fun _ _ _ => rfl⟩
        simp [stx, e]
end
section
variable {M : Store} {k g : Nat} {gs cs : List Int} {r t m : Int} {ρ : Pl.Env}
theorem add_ev {fa fb : FE} {x y : Int} {M1 M2 : Store} (ha : fa ρ M = some (.inr (iE x), M1)) (hb : fb ρ M1 = some (.inr (iE y), M2)) : fBin (gAdd false) fa fb ρ M = some (.inr (iE (x + y)), M2) := bin_ev ha hb rfl
theorem mul_ev {fa fb : FE} {x y : Int} {M1 M2 : Store} (ha : fa ρ M = some (.inr (iE x), M1)) (hb : fb ρ M1 = some (.inr (iE y), M2)) (h : (-(2 ^ 64) < x ∧ x < 2 ^ 64) ∨ (-(2 ^ 64) < y ∧ y < 2 ^ 64)) : fBin (gMul false) fa fb ρ M = some (.inr (iE (x * y)), M2) := bin_ev ha hb (by
  show (match (match iMul x y with | some k => some (E.p (PD.int k), M2) | none => none) with | some r => some r | none => gMulL false (iE x) (iE y) M2) = _
  unfold iMul; rw [if_pos h]; rfl)
theorem sub_ev {fa fb : FE} {x y : Int} {M1 M2 : Store} (ha : fa ρ M = some (.inr (iE x), M1)) (hb : fb ρ M1 = some (.inr (iE y), M2)) : fBin (gI2 iSub) fa fb ρ M = some (.inr (iE (x - y)), M2) := bin_ev ha hb rfl
theorem mod_ev {fa fb : FE} {x y : Int} {M1 M2 : Store} (ha : fa ρ M = some (.inr (iE x), M1)) (hb : fb ρ M1 = some (.inr (iE y), M2)) (h : 0 < y) : fBin (gI2 iMod) fa fb ρ M = some (.inr (iE (x % y)), M2) := bin_ev ha hb (by
  show (match iMod x y with | some k => some (E.p (PD.int k), M2) | none => none) = _
  unfold iMod; rw [if_pos h]; rfl)
theorem div_ev {fa fb : FE} {x y : Int} {M1 M2 : Store} (ha : fa ρ M = some (.inr (iE x), M1)) (hb : fb ρ M1 = some (.inr (iE y), M2)) (h : 0 < y) (h2 : y < 1073741824) : fBin (gI2 iFdiv) fa fb ρ M = some (.inr (iE (x / y)), M2) := bin_ev ha hb (by
  show (match iFdiv x y with | some k => some (E.p (PD.int k), M2) | none => none) = _
  unfold iFdiv; rw [if_pos ⟨h, h2⟩]; rfl)
theorem var_ev {i : Nat} {e : E} (h : ρ[i]? = some (some e)) : fVar i ρ M = some (.inr e, M) := by unfold fVar; rw [h]
theorem c_ev {d : PD} : fC d ρ M = some (.inr (.p d), M) := rfl
theorem gt_ev {fa fb : FE} {x y : Int} {M1 M2 : Store} (ha : fa ρ M = some (.inr (iE x), M1)) (hb : fb ρ M1 = some (.inr (iE y), M2)) : fTst (fBin gGt fa fb) ρ M = some (.inr (decide (y < x)), M2) := tst_ev (bin_ev ha hb rfl)
theorem lt_ev {fa fb : FE} {x y : Int} {M1 M2 : Store} (ha : fa ρ M = some (.inr (iE x), M1)) (hb : fb ρ M1 = some (.inr (iE y), M2)) : fTst (fBin gLt fa fb) ρ M = some (.inr (decide (x < y)), M2) := tst_ev (bin_ev ha hb rfl)
theorem eq_ev {fa fb : FE} {x y : Int} {M1 M2 : Store} (ha : fa ρ M = some (.inr (iE x), M1)) (hb : fb ρ M1 = some (.inr (iE y), M2)) : fTst (fBin gEq fa fb) ρ M = some (.inr (decide (x = y)), M2) := tst_ev (bin_ev ha hb (by unfold gEq; rw [eqI]; rfl))
theorem set_ev {i : Nat} {f : FE} {e : E} {M1 : Store} (h : f ρ M = some (.inr e, M1)) : gSet i f ρ M = some (.nx (ρ.set i (some e)), M1) := by unfold gSet; rw [h]; rfl
theorem ret_ev {f : FE} {e : E} {M1 : Store} (h : f ρ M = some (.inr e, M1)) : gRet f ρ M = some (.rt e, M1) := by unfold gRet; rw [h]; rfl
theorem seq_ev {g1 g2 : FS} {ρ1 : Pl.Env} {M1 : Store} (h : g1 ρ M = some (.nx ρ1, M1)) : gSeq g1 g2 ρ M = g2 ρ1 M1 := by unfold gSeq; rw [h]
theorem seq_rt {g1 g2 : FS} {e : E} {M1 : Store} (h : g1 ρ M = some (.rt e, M1)) : gSeq g1 g2 ρ M = some (.rt e, M1) := by unfold gSeq; rw [h]
theorem if_t {f : FT} {g1 g2 : FS} {M1 : Store} (h : f ρ M = some (.inr true, M1)) : gIf f g1 g2 ρ M = g1 ρ M1 := by unfold gIf; rw [h]; rfl
theorem if_f {f : FT} {g1 g2 : FS} {M1 : Store} (h : f ρ M = some (.inr false, M1)) : gIf f g1 g2 ρ M = g2 ρ M1 := by unfold gIf; rw [h]; rfl
/-- the cells, a frozen list of ints -/
theorem toPys_ints : ∀ l : List Int, toPys (l.map .int) = some (l.map .int)
  | [] => rfl
  | a :: l => by show toPys (.int a :: l.map .int) = _; unfold toPys; rw [toPys_ints l]; rfl
theorem neF {es : List Int} : pyEq M (.p (.lst (es.map .int))) (.p (.lst [])) = some (decide (es = [])) := by
  have h3 : toPyE M (.p (.lst (es.map .int))) = some (.list (es.map .int)) := by
    show toPy _ = _
    unfold toPy
    rw [toPys_ints]; rfl
  unfold pyEq
  rw [h3]
  cases es with
  | nil => rfl
  | cons a l =>
    show (if min _ (PyData.depth (.list [])) ≤ 60 then _ else none) = _
    rw [if_pos (Nat.le_trans (Nat.min_le_right _ _) (by decide))]
    rfl
end
theorem atI_lt {α : Type} {xs : List α} {i : Int} (h0 : 0 ≤ i) (h1 : i < xs.length) : atI xs i = some (xs[i.toNat]'(by omega)) := by
  unfold atI ixN
  rw [if_pos h0, if_pos h1]
  show xs[i.toNat]? = _
  rw [List.getElem?_eq_getElem]
theorem fn_rt {N : Nat} {g : FS} {es : List E} {M M' : Store} {e : E} (h : g (es.map some ++ List.replicate (N - es.length) none) M = some (.rt e, M')) : fnOf N g es M = some (.inr e, M') := by unfold fnOf; rw [h]
/-- the draw stands well -/
def DrOk (M : Store) (k : Nat) : Prop := ∃ g gs cs r t m, Dr M k g gs cs r t m ∧ 0 ≤ r ∧ gs.length ≤ 63 ∧ (∀ x ∈ gs, 0 ≤ x) ∧ 0 ≤ m ∧ m < 2147483647
/-- all but the draw is kept -/
def Kept (k : Nat) (M M' : Store) : Prop := M'.length = M.length ∧ ∀ j (c : Cell), M[j]? = some (some c) → j ≠ k → (∀ es : List Int, c ≠ .lst (es.map iE)) → M'[j]? = some (some c)
theorem draw_mod (n : Int) (h : 0 < n) (a b : Int) : 0 ≤ a % n ∧ a % n < n := ⟨Int.emod_nonneg _ (by omega), Int.emod_lt_of_pos _ h⟩
theorem take_ok {M : Store} {k : Nat} {n : Int} (hn : 0 < n) (hn2 : n < 1073741824) (d : DrOk M k) : ∃ x M', F__law_take [.r k, iE n] M = some (.inr (iE x), M') ∧ 0 ≤ x ∧ x < n ∧ DrOk M' k ∧ Kept k M M' := by
  obtain ⟨g, gs, cs, r, t, m, D, hr, hg, hp, hm0, hm1⟩ := d
  obtain ⟨M1, gs1, r1, e1, D1, hr1, hg1, hp1, l1, f1⟩ := while_ev (ρ := [some (.r k), some (iE n), none, none, none]) rfl 100 M gs r (by omega) hr hp D
  have kept1 : ∀ (M2 : Store), M2.length = M1.length → (∀ j, j ≠ k → M2[j]? = M1[j]?) → Kept k M M2 := fun M2 hl hj => ⟨hl.trans l1, fun j c hc hk hc2 => by
    have ng : j ≠ g := fun e => by
      rw [e, D.b] at hc
      exact hc2 gs (Option.some.inj (Option.some.inj hc)).symm
    rw [hj j hk, f1 j hk ng]; exact hc⟩
  have rest1 : fBin gDGet (fVar 0) (fC (.str (PySem.Str.ofString "rest"))) [some (.r k), some (iE n), none, none, none] M1 = some (.inr (iE r1), M1) := dget_ev rfl D1.a (g3 g cs r1 t m)
  suffices hs : ∃ x M', B__law_take [some (.r k), some (iE n), none, none, none] M = some (.rt (iE x), M') ∧ 0 ≤ x ∧ x < n ∧ DrOk M' k ∧ Kept k M M' by
    obtain ⟨x, M', e, q⟩ := hs
    exact ⟨x, M', fn_rt (N := 5) (es := [.r k, iE n]) e, q⟩
  unfold B__law_take
  rw [seq_ev (show gWhile (fun _ _ => 100) tW gW [some (.r k), some (iE n), none, none, none] M = _ from e1)]
  by_cases hpos : 0 < r1
  · have t1 := gt_ev rest1 (c_ev (d := .int 0))
    rw [decide_eq_true hpos] at t1
    have hsel := if_t (g1 := gSeq (gSet 4 (fBin (gI2 iMod) (fBin gDGet (fVar 0) (fC (.str (PySem.Str.ofString "rest")))) (fVar 1))) (gSeq (gDPut (fVar 0) (fC (.str (PySem.Str.ofString "rest"))) (fBin (gI2 iFdiv) (fBin gDGet (fVar 0) (fC (.str (PySem.Str.ofString "rest")))) (fVar 1))) (gRet (fVar 4)))) (g2 := gNext) t1
    have a1 := set_ev (i := 4) (mod_ev rest1 (var_ev (i := 1) (e := iE n) rfl) hn)
    have rest2 : fBin gDGet (fVar 0) (fC (.str (PySem.Str.ofString "rest"))) [some (.r k), some (iE n), none, none, some (iE (r1 % n))] M1 = some (.inr (iE r1), M1) := dget_ev rfl D1.a (g3 g cs r1 t m)
    have a2 := dput_ev (ρ := [some (.r k), some (iE n), none, none, some (iE (r1 % n))]) (k := k) (x := "rest") rfl (div_ev rest2 (var_ev (i := 1) (e := iE n) rfl) hn hn2) D1.a (by show 5 < _; decide) (ko g cs r1 t m)
    rw [s3] at a2
    refine ⟨r1 % n, _, ?_, (draw_mod n hn r1 0).1, (draw_mod n hn r1 0).2, ⟨g, gs1, cs, r1 / n, t, m, D1.put, Int.ediv_nonneg hr1 (by omega), by omega, hp1, hm0, hm1⟩, kept1 (M1.set k (some (.dic (dr g cs (r1 / n) t m)))) (by simp) fun j hk => by rw [List.getElem?_set_ne (Ne.symm hk)]⟩
    rw [seq_rt (e := iE (r1 % n)) (M1 := M1.set k (some (.dic (dr g cs (r1 / n) t m))))]
    rw [hsel, seq_ev a1]
    exact (seq_ev (ρ := [some (.r k), some (iE n), none, none, some (iE (r1 % n))]) a2).trans (ret_ev (var_ev rfl))
  · have t1 := gt_ev rest1 (c_ev (d := .int 0))
    rw [decide_eq_false hpos] at t1
    rw [seq_ev (if_f t1)]
    rw [seq_ev (show gSet 2 (fC (.int 0)) [some (.r k), some (iE n), none, none, none] M1 = some (.nx [some (.r k), some (iE n), some (iE 0), none, none], M1) from rfl)]
    obtain ⟨c, hc⟩ : ∃ c, gIf (fTst (fBin gNe (fBin gDGet (fVar 0) (fC (.str (PySem.Str.ofString "cells")))) (fLst false (fNil)))) (gSet 2 (fBin gIx (fBin gDGet (fVar 0) (fC (.str (PySem.Str.ofString "cells")))) (fBin (gI2 iMod) (fBin gDGet (fVar 0) (fC (.str (PySem.Str.ofString "turn")))) (fCallB gLenA (fCons (fBin gDGet (fVar 0) (fC (.str (PySem.Str.ofString "cells")))) (fNil)))))) (gNext) [some (.r k), some (iE n), some (iE 0), none, none] M1 = some (.nx [some (.r k), some (iE n), some (iE c), none, none], M1) := by
      have cl : fBin gDGet (fVar 0) (fC (.str (PySem.Str.ofString "cells"))) [some (.r k), some (iE n), some (iE 0), none, none] M1 = some (.inr (.p (.lst (cs.map .int))), M1) := dget_ev rfl D1.a (g2 g cs r1 t m)
      have tu : fBin gDGet (fVar 0) (fC (.str (PySem.Str.ofString "turn"))) [some (.r k), some (iE n), some (iE 0), none, none] M1 = some (.inr (iE t), M1) := dget_ev rfl D1.a (g4 g cs r1 t m)
      have h2 : fTst (fBin gNe (fBin gDGet (fVar 0) (fC (.str (PySem.Str.ofString "cells")))) (fLst false (fNil))) [some (.r k), some (iE n), some (iE 0), none, none] M1 = some (.inr (!decide (cs = [])), M1) :=
        tst_ev (bin_ev cl (y := .p (.lst [])) rfl (by unfold gNe; rw [neF]; rfl))
      by_cases he : cs = []
      · rw [decide_eq_true he] at h2
        exact ⟨0, (if_f h2).trans rfl⟩
      · rw [decide_eq_false he] at h2
        have lp : 0 < (cs.length : Int) := by
          have := List.length_pos_iff.mpr he
          omega
        have ln : fCallB gLenA (fCons (fBin gDGet (fVar 0) (fC (.str (PySem.Str.ofString "cells")))) (fNil)) [some (.r k), some (iE n), some (iE 0), none, none] M1 = some (.inr (iE cs.length), M1) := by
          unfold fCallB fCons
          rw [cl]
          show some (Sum.inr (E.p (PD.int ((cs.map PD.int).length : Int))), M1) = _
          rw [List.length_map]; rfl
        obtain ⟨a1, a2⟩ := draw_mod cs.length lp t 0
        have hlt : (t % (cs.length : Int)).toNat < cs.length := by omega
        have ix : gIx (.p (.lst (cs.map .int))) (iE (t % (cs.length : Int))) M1 = some (iE (cs[(t % (cs.length : Int)).toNat]'hlt), M1) := by
          have e1 : atI ((cs.map PD.int).map E.p) (t % (cs.length : Int)) = some (iE (cs[(t % (cs.length : Int)).toNat]'hlt)) := by
            rw [atI_lt a1 (by simpa using a2)]
            simp [iE]
          show (match (match atI ((cs.map PD.int).map E.p) (t % (cs.length : Int)) with | some e => some (e, M1) | none => none) with | some r => some r | none => _) = _
          rw [e1]
        exact ⟨_, (if_t h2).trans (set_ev (bin_ev cl (mod_ev tu ln lp) ix))⟩
    rw [seq_ev hc]
    have tu : fBin gDGet (fVar 0) (fC (.str (PySem.Str.ofString "turn"))) [some (.r k), some (iE n), some (iE c), none, none] M1 = some (.inr (iE t), M1) := dget_ev rfl D1.a (g4 g cs r1 t m)
    have b1 := dput_ev (ρ := [some (.r k), some (iE n), some (iE c), none, none]) (k := k) (x := "turn") rfl (add_ev tu (c_ev (d := .int 1))) D1.a (by show 5 < _; decide) (ko g cs r1 t m)
    rw [s4] at b1
    rw [seq_ev b1]
    have D2 : Dr (M1.set k (some (.dic (dr g cs r1 (t + 1) m)))) k g gs1 cs r1 (t + 1) m := D1.put
    have hM2 : (M1.set k (some (.dic (dr g cs r1 (t + 1) m)))).length = M1.length := by simp
    have fM2 : ∀ j, j ≠ k → (M1.set k (some (.dic (dr g cs r1 (t + 1) m))))[j]? = M1[j]? := fun j hk => by rw [List.getElem?_set_ne (Ne.symm hk)]
    generalize M1.set k (some (.dic (dr g cs r1 (t + 1) m))) = M2 at D2 hM2 fM2 ⊢
    have mo : fBin gDGet (fVar 0) (fC (.str (PySem.Str.ofString "more"))) [some (.r k), some (iE n), some (iE c), none, none] M2 = some (.inr (iE m), M2) := dget_ev rfl D2.a (g5 g cs r1 (t + 1) m)
    have tu2 : fBin gDGet (fVar 0) (fC (.str (PySem.Str.ofString "turn"))) [some (.r k), some (iE n), some (iE c), none, none] M2 = some (.inr (iE (t + 1)), M2) := dget_ev rfl D2.a (g4 g cs r1 (t + 1) m)
    have w1 : fBin (gI2 iMod) (fBin (gAdd false) (fBin (gAdd false) (fBin (gMul false) (fBin gDGet (fVar 0) (fC (.str (PySem.Str.ofString "more")))) (fC (.int 48271))) (fVar 2)) (fBin (gMul false) (fC (.int 7919)) (fBin gDGet (fVar 0) (fC (.str (PySem.Str.ofString "turn")))))) (fC (.int 2147483647)) [some (.r k), some (iE n), some (iE c), none, none] M2 = some (.inr (iE ((m * 48271 + c + 7919 * (t + 1)) % 2147483647)), M2) :=
      mod_ev (add_ev (add_ev (mul_ev mo (c_ev (d := .int 48271)) (.inr (by decide))) (var_ev (i := 2) (e := iE c) rfl)) (mul_ev (c_ev (d := .int 7919)) tu2 (.inl (by decide)))) (c_ev (d := .int 2147483647)) (by decide)
    obtain ⟨p1, p2⟩ := draw_mod 2147483647 (by decide) (m * 48271 + c + 7919 * (t + 1)) 0
    generalize (m * 48271 + c + 7919 * (t + 1)) % 2147483647 = m2 at w1 p1 p2
    have b2 := dput_ev (ρ := [some (.r k), some (iE n), some (iE c), none, none]) (k := k) (x := "more") rfl w1 D2.a (by show 5 < _; decide) (ko g cs r1 (t + 1) m)
    rw [s5] at b2
    rw [seq_ev b2]
    have D3 : Dr (M2.set k (some (.dic (dr g cs r1 (t + 1) m2)))) k g gs1 cs r1 (t + 1) m2 := D2.put
    have hM3 : (M2.set k (some (.dic (dr g cs r1 (t + 1) m2)))).length = M1.length := by simp [hM2]
    have fM3 : ∀ j, j ≠ k → (M2.set k (some (.dic (dr g cs r1 (t + 1) m2))))[j]? = M1[j]? := fun j hk => by rw [List.getElem?_set_ne (Ne.symm hk)]; exact fM2 j hk
    generalize M2.set k (some (.dic (dr g cs r1 (t + 1) m2))) = M3 at D3 hM3 fM3 ⊢
    have mo3 : fBin gDGet (fVar 0) (fC (.str (PySem.Str.ofString "more"))) [some (.r k), some (iE n), some (iE c), none, none] M3 = some (.inr (iE m2), M3) := dget_ev rfl D3.a (g5 g cs r1 (t + 1) m2)
    have w2 : fBin (gI2 iMod) (fBin (gAdd false) (fBin (gAdd false) (fBin (gMul false) (fBin gDGet (fVar 0) (fC (.str (PySem.Str.ofString "more")))) (fBin gDGet (fVar 0) (fC (.str (PySem.Str.ofString "more"))))) (fBin (gMul false) (fC (.int 16807)) (fBin gDGet (fVar 0) (fC (.str (PySem.Str.ofString "more")))))) (fC (.int 11))) (fC (.int 2147483629)) [some (.r k), some (iE n), some (iE c), none, none] M3 = some (.inr (iE ((m2 * m2 + 16807 * m2 + 11) % 2147483629)), M3) :=
      mod_ev (add_ev (add_ev (mul_ev mo3 mo3 (.inl (by omega))) (mul_ev (c_ev (d := .int 16807)) mo3 (.inl (by decide)))) (c_ev (d := .int 11))) (c_ev (d := .int 2147483629)) (by decide)
    obtain ⟨p3, p4⟩ := draw_mod 2147483629 (by decide) (m2 * m2 + 16807 * m2 + 11) 0
    generalize (m2 * m2 + 16807 * m2 + 11) % 2147483629 = x at w2 p3 p4
    rw [seq_ev (set_ev (i := 3) w2)]
    have w3 : fBin (gI2 iMod) (fBin (gI2 iFdiv) (fBin (gI2 iMod) (fBin (gMul false) (fVar 3) (fVar 3)) (fC (.int 2147483587))) (fC (.int 7))) (fVar 1) [some (.r k), some (iE n), some (iE c), some (iE x), none] M3 = some (.inr (iE (x * x % 2147483587 / 7 % n)), M3) :=
      mod_ev (div_ev (mod_ev (mul_ev (var_ev (i := 3) (e := iE x) rfl) (var_ev (i := 3) (e := iE x) rfl) (.inl (by omega))) (c_ev (d := .int 2147483587)) (by decide)) (c_ev (d := .int 7)) (by decide) (by decide)) (var_ev (i := 1) (e := iE n) rfl) hn
    exact ⟨_, _, ret_ev w3, (draw_mod n hn _ 0).1, (draw_mod n hn _ 0).2, ⟨g, gs1, cs, r1, t + 1, m2, D3, hr1, by omega, hp1, p1, p2⟩, kept1 M3 hM3 fM3⟩
section
variable {M : Store} {ρ : Pl.Env}
/-- a comprehension over data, nothing stored -/
theorem comp_drop {es : List E} {i : Nat} {tt : FT} {fe : FE} {p : E → Bool} {f : E → E} (ht : ∀ e ∈ es, tt (ρ.set i (some e)) M = some (.inr (p e), M)) (hf : ∀ e ∈ es, p e = true → fe (ρ.set i (some e)) M = some (.inr (f e), M)) :
    ∀ (k j : Nat), j + k = es.length → compN (fixIt es) (gtName i) tt fe k j ρ M = some (((es.drop j).filter p).map f, M)
  | 0, j, h => by
    unfold compN
    rw [List.drop_eq_nil_of_le (by omega)]
    rfl
  | k + 1, j, h => by
    have hj : j < es.length := by omega
    have hm : es[j] ∈ es := List.getElem_mem hj
    unfold compN
    have hg : (fixIt es).get j M = some es[j] := List.getElem?_eq_getElem hj
    rw [hg]
    have h1 := ht _ hm
    have e1 : gtName i es[j] ρ M = some (.inr (ρ.set i (some es[j])), M) := rfl
    simp only [e1, h1]
    rw [List.drop_eq_getElem_cons hj]
    cases hp : p es[j] with
    | true =>
      have h2 := hf _ hm hp
      simp only [h2, comp_drop ht hf k (j + 1) (by omega)]
      rw [List.filter_cons, if_pos hp]
      rfl
    | false =>
      simp only [comp_drop ht hf k (j + 1) (by omega)]
      rw [List.filter_cons, if_neg (by rw [hp]; simp)]
theorem comp_ev {m : Bool} {vs : List Nat} {fi : FI} {es : List E} {i : Nat} {tt : FT} {fe : FE} {p : E → Bool} {f : E → E} {r : E × Store} (hi : fi ρ M = some (.inr (fixIt es), M)) (hl : es.length ≤ 16777216) (ht : ∀ e ∈ es, tt ((wipeE ρ vs).set i (some e)) M = some (.inr (p e), M)) (hf : ∀ e ∈ es, p e = true → fe ((wipeE ρ vs).set i (some e)) M = some (.inr (f e), M))
    (hm : mkLst m ((es.filter p).map f) M = some r) : fComp m vs fi (gtName i) tt fe ρ M = some (.inr r.1, r.2) := by
  unfold fComp
  rw [hi]
  show (if (fixIt es).n ≤ 16777216 then _ else none) = _
  rw [if_pos (show (fixIt es).n ≤ 16777216 from hl)]
  show (match compN (fixIt es) (gtName i) tt fe es.length 0 (wipeE ρ vs) M with | some (es, M2) => lft (mkLst m es M2) | none => none) = _
  rw [comp_drop ht hf es.length 0 (by omega)]
  show lft (mkLst m ((es.drop 0).filter p |>.map f) M) = _
  rw [List.drop_zero, hm]
  rfl
theorem filter_yes {α : Type} (l : List α) : l.filter (fun _ => true) = l := List.filter_eq_self.mpr fun _ _ => rfl
theorem mk_ints (l : List Int) : mkLst false (l.map iE) M = some (.p (.lst (l.map .int)), M) := by
  have h1 : ∀ l : List Int, asPs (l.map iE) = some (l.map .int) := fun l => by
    induction l with
    | nil => rfl
    | cons a l ih => show asPs (.p (.int a) :: l.map iE) = _; unfold asPs; rw [ih]; rfl
  unfold mkLst
  rw [if_neg (by simp), h1]
end
theorem begun_ok2 (ns : List Int) (hl : ns.length ≤ 63) : ∃ M', F__law_begun [.p (.scr (ns.map .int))] [] = some (.inr (.r 1), M') ∧ M'.length = 2 ∧ DrOk M' 1 := by
  let cs := ns.map fun n => if n < 0 then -n else n
  let gs := cs.filter fun c => decide (10 ^ 18 ≤ c)
  have it : ∀ (l : List Int), (l.map PD.int).map E.p = l.map iE := fun l => by rw [List.map_map]; rfl
  have s1 : fComp false ([2] : List Nat) (fSeqIt (fVar 0)) (gtName 2) (fYes) (fCallB gAbs (fCons (fVar 2) (fNil))) [some (.p (.scr (ns.map .int))), none, none] [] = some (.inr (.p (.lst (cs.map .int))), []) := by
    refine comp_ev (es := ns.map iE) (p := fun _ => true) (f := fun e => match e with | .p (.int i) => iE (if i < 0 then -i else i) | e => e) (r := (.p (.lst (cs.map .int)), [])) ?_ (by rw [List.length_map]; omega) (fun _ _ => rfl) (fun e he _ => ?_) ?_
    · show some (Sum.inr (fixIt ((ns.map PD.int).map E.p)), ([] : Store)) = _
      rw [it]
    · obtain ⟨i, _, rfl⟩ := List.mem_map.mp he
      rfl
    · rw [filter_yes, List.map_map, show (ns.map ((fun e => match e with | E.p (.int i) => iE (if i < 0 then -i else i) | e => e) ∘ iE)) = cs.map iE from by show _ = (ns.map _).map iE; rw [List.map_map]; rfl]
      exact mk_ints cs
  have s2 : fComp true ([2] : List Nat) (fSeqIt (fVar 1)) (gtName 2) (fTst (fBin gGe (fVar 2) (fBin (gI2 iPow) (fC (.int 10)) (fC (.int 18))))) (fVar 2) [some (.p (.scr (ns.map .int))), some (.p (.lst (cs.map .int))), none] [] = some (.inr (.r 0), [some (.lst (gs.map iE))]) := by
    refine comp_ev (es := cs.map iE) (p := fun e => match e with | .p (.int i) => decide (10 ^ 18 ≤ i) | _ => false) (f := fun e => e) (r := (.r 0, [some (.lst (gs.map iE))])) ?_ (by rw [List.length_map, List.length_map]; omega) (fun e he => ?_) (fun e he _ => ?_) ?_
    · show some (Sum.inr (fixIt ((cs.map PD.int).map E.p)), ([] : Store)) = _
      rw [it]
    · obtain ⟨i, _, rfl⟩ := List.mem_map.mp he
      rfl
    · obtain ⟨i, _, rfl⟩ := List.mem_map.mp he
      rfl
    · rw [List.map_id']
      have : (cs.map iE).filter (fun e => match e with | .p (.int i) => decide (10 ^ 18 ≤ i) | _ => false) = gs.map iE := by
        rw [List.filter_map]; rfl
      rw [this]
      rfl
  have sum : B__law_begun [some (.p (.scr (ns.map .int))), none, none] [] = some (.rt (.r 1), [some (.lst (gs.map iE)), some (.dic (dr 0 cs 0 0 7))]) := by
    unfold B__law_begun
    refine (seq_ev (ρ1 := [some (.p (.scr (ns.map .int))), some (.p (.lst (cs.map .int))), none]) (M1 := []) (set_ev s1)).trans (ret_ev ?_)
    unfold fDict
    have : (fpCons (fC (.str (PySem.Str.ofString "great"))) (fComp true ([2] : List Nat) (fSeqIt (fVar 1)) (gtName 2) (fTst (fBin gGe (fVar 2) (fBin (gI2 iPow) (fC (.int 10)) (fC (.int 18))))) (fVar 2)) (fpCons (fC (.str (PySem.Str.ofString "cells"))) (fVar 1) (fpCons (fC (.str (PySem.Str.ofString "rest"))) (fC (.int 0)) (fpCons (fC (.str (PySem.Str.ofString "turn"))) (fC (.int 0)) (fpCons (fC (.str (PySem.Str.ofString "more"))) (fC (.int 7)) (fpNil)))))) [some (.p (.scr (ns.map .int))), some (.p (.lst (cs.map .int))), none] [] = some (.inr (dr 0 cs 0 0 7), [some (.lst (gs.map iE))]) := by
      unfold fpCons
      show bnd (fComp true _ _ _ _ _ _ _) _ = _
      rw [s2]
      rfl
    rw [this]
    rfl
  refine ⟨_, fn_rt (N := 3) (es := [.p (.scr (ns.map .int))]) sum, rfl, 0, gs, cs, 0, 0, 7, ⟨rfl, rfl, by decide⟩, by decide, ?_, fun x hx => ?_, by decide, by decide⟩
  · refine Nat.le_trans (List.length_filter_le _ _) ?_
    rw [List.length_map]; exact hl
  · have := (List.mem_filter.mp hx).2
    have : (10 : Int) ^ 18 ≤ x := by simpa using this
    have h2 : (0 : Int) ≤ 10 ^ 18 := by decide
    omega
section
variable {M : Store} {ρ : Pl.Env}
theorem call_ev {n : Nat} {ff : FF} {fa : FA} {es : List E} {r : Sum Xn E × Store} {M1 : Store} (ha : fa ρ M = some (.inr es, M1)) (hl : es.length = n) (hf : ff es M1 = some r) : fCall n ff [] fa ρ M = some r := by
  unfold fCall
  rw [ha]
  show (if es.length + 0 = n then ff (es ++ []) M1 else none) = _
  rw [if_pos (show es.length + 0 = n from hl), List.append_nil, hf]
theorem cons_ev {fa : FE} {fr : FA} {e : E} {es : List E} {M1 M2 : Store} (ha : fa ρ M = some (.inr e, M1)) (hr : fr ρ M1 = some (.inr es, M2)) : fCons fa fr ρ M = some (.inr (e :: es), M2) := by
  unfold fCons
  rw [ha]
  show bnd (fr ρ M1) _ = _
  rw [hr]
  rfl
theorem nil_ev : fNil ρ M = some (.inr [], M) := rfl
theorem not_ev {f : FT} {b : Bool} {M1 : Store} (h : f ρ M = some (.inr b, M1)) : fNotT f ρ M = some (.inr (!b), M1) := by unfold fNotT; rw [h]; rfl
/-- a whole number within bounds -/
theorem whole_int (M : Store) (i a b : Int) : F_is_whole [iE i, iE a, iE b] M = some (.inr (.p (.bl (decide (a ≤ i) && decide (i ≤ b)))), M) := by
  have h : B_is_whole [some (iE i), some (iE a), some (iE b)] M = some (.rt (.p (.bl (decide (a ≤ i) && decide (i ≤ b)))), M) := by
    unfold B_is_whole
    refine ret_ev ?_
    show (match some (decide (a ≤ i)) with | some true => _ | some false => _ | none => _) = _
    cases h1 : decide (a ≤ i) with
    | true =>
      show bnd (fVar 2 _ M) _ = _
      rfl
    | false => rfl
  exact fn_rt (N := 3) (es := [iE i, iE a, iE b]) h
end
section
variable {M : Store} {ρ : Pl.Env}
theorem callB_ev {g : GL} {fa : FA} {xs : List E} {e : E} {M1 M2 : Store} (ha : fa ρ M = some (.inr xs, M1)) (hg : g xs M1 = some (e, M2)) : fCallB g fa ρ M = some (.inr e, M2) := by
  unfold fCallB
  rw [ha]
  show lft (g xs M1) = _
  rw [hg]; rfl
theorem app_ev {n : Nat} {fo : FE} {fa : FA} {xs : List E} {y : E} (ho : fo ρ M = some (.inr (.r n), M)) (ha : fa ρ M = some (.inr [y], M)) (hM : M[n]? = some (some (.lst xs))) (hl : xs.length < 16777216) : fBM isL gApp fo fa ρ M = some (.inr (.p .non), M.set n (some (.lst (xs ++ [y])))) := by
  unfold fBM
  rw [ho]
  have h2 : isL M (.r n) = true := by
    show (match M[n]? with | some (some (.lst es)) => some es | _ => none).isSome = true
    rw [hM]; rfl
  show (if isL M (.r n) = true then bnd (fa ρ M) _ else none) = _
  rw [if_pos h2, ha]
  show lft (match M[n]? with | some (some (.lst es)) => if es.length < 16777216 then some (E.p .non, M.set n (some (.lst (es ++ [y])))) else none | _ => none) = _
  rw [hM]
  simp only [hl, if_true]
  rfl
end
end K14

-- R2
namespace K14
open PySem L2 Pl
noncomputable abbrev gRest : FS := gSeq (gFor (fItA rngIt1 (fCons (fC (.int 2)) (fNil))) (gtName 2) (gSeq (gSet 3 (fIfE (fTst (fBin gEq (fVar 2) (fC (.int 1)))) (fCallK 1 F_told_rounds (fCons (fVar 0) (fNil))) (fCall 1 F_told_rounds [] (fCons (fVar 0) (fNil))))) (gSeq (gIf (fOrT (fNotT (fTst (fCallB (gIsi ct) (fCons (fVar 3) (fCons (fC (.ty "list")) (fNil)))))) (fOrT (fTst (fBin gNe (fComp false ([4] : List Nat) (fSeqIt (fVar 3)) (gtName 4) (fNotT (fTst (fCallB (gIsi ct) (fCons (fVar 4) (fCons (fC (.ty "list")) (fNil)))))) (fVar 4)) (fLst false (fNil)))) (fTst (fBin gNeN (fVar 3) (fVar 1))))) (gRet (fC (.bl false))) (gNext)) (gSeq (gFor (fSeqIt (fVar 3)) (gtName 4) (gSeq (gIf (fTst (fBin gNe (fCallB (gSortA false) (fCons (fBin (gAdd false) (fComp false ([5] : List Nat) (fSeqIt (fVar 4)) (gtName 5) (fYes) (fBin gIx (fVar 5) (fC (.int 0)))) (fComp false ([5] : List Nat) (fSeqIt (fVar 4)) (gtName 5) (fYes) (fBin gIx (fVar 5) (fC (.int 1))))) (fNil))) (fLstRg false (fVar 0)))) (gRet (fC (.bl false))) (gNext)) (gDrop (fBM isL gApp (fVar 4) (fCons (fTup (fCons (fC (.int 0)) (fCons (fC (.int 0)) (fNil)))) (fNil)))))) (gDrop (fBM isL gApp (fVar 3) (fCons (fLst false (fNil)) (fNil)))))))) (gRet (fC (.bl true)))
noncomputable abbrev lFor : FS := gFor (fItA rngIt1 (fCons (fCallB gMax2 (fCons (fC (.int 1)) (fCons (fCallB gMin2 (fCons (fC (.int 8)) (fCons (fCallB gLenA (fCons (fVar 0) (fNil))) (fNil)))) (fNil)))) (fNil))) (gtName 2) (gSeq (gIf (fNotT (fTst (fFrz (fCall 1 F__law_rounds_right [] (fCons (fBin (gAdd false) (fC (.int 2)) (fBin (gMul false) (fC (.int 2)) (fCall 2 F__law_take [] (fCons (fVar 1) (fCons (fC (.int 32)) (fNil)))))) (fNil)))))) (gRet (fC (.bl false))) (gNext)) (gSeq (gSet 3 (fLst false (fCons (fBin (gAdd false) (fC (.int 1)) (fBin (gMul false) (fC (.int 2)) (fBin (gI2 iSub) (fCall 2 F__law_take [] (fCons (fVar 1) (fCons (fC (.int 600)) (fNil)))) (fC (.int 300))))) (fCons (fBin (gAdd false) (fC (.int 66)) (fBin (gMul false) (fC (.int 2)) (fCall 2 F__law_take [] (fCons (fVar 1) (fCons (fC (.int 1000)) (fNil)))))) (fCons (fBin (gI2 iSub) (fC (.int 0)) (fBin (gMul false) (fC (.int 2)) (fCall 2 F__law_take [] (fCons (fVar 1) (fCons (fC (.int 1000)) (fNil)))))) (fNil)))))) (gSeq (gSet 4 (fCall 2 F__law_pick [] (fCons (fVar 1) (fCons (fBin (gAdd false) (fVar 3) (fLst false (fCons (fC (.int 66)) (fCons (fBin (gI2 iPow) (fC (.int 10)) (fC (.int 9))) (fCons (fC (.bl true)) (fCons (fC (.bl false)) (fCons (fC (.str (PySem.Str.ofString "2"))) (fCons (fC .non) (fCons (fLst false (fCons (fC (.int 2)) (fNil))) (fCons (fTup (fCons (fC (.int 2)) (fNil))) (fCons (fFrz (fDict0)) (fCons (fUn gNeg (fC (.int 64))) (fNil))))))))))))) (fNil))))) (gSeq (gIf (fNotT (fTst (fLam 6 [4] (fCall 1 F_told_rounds [] (fCons (fVar 4) (fNil))) postNN))) (gRet (fC (.bl false))) (gNext)) (gSeq (gSet 3 (fLst false (fCons (fBin (gAdd false) (fC (.int 7)) (fCall 2 F__law_take [] (fCons (fVar 1) (fCons (fC (.int 100)) (fNil))))) (fCons (fBin (gI2 iSub) (fC (.int 0)) (fCall 2 F__law_take [] (fCons (fVar 1) (fCons (fC (.int 100)) (fNil))))) (fCons (fC (.int 7)) (fCons (fC (.bl true)) (fCons (fC (.str (PySem.Str.ofString "a"))) (fCons (fC .non) (fCons (fLst false (fCons (fC (.int 1)) (fNil))) (fCons (fBin (gI2 iPow) (fC (.int 10)) (fC (.int 9))) (fCons (fC (.bl false)) (fCons (fTup (fCons (fC (.int 1)) (fCons (fC (.int 2)) (fNil)))) (fNil))))))))))))) (gSeq (gSet 5 (fCall 2 F__law_pick [] (fCons (fVar 1) (fCons (fVar 3) (fNil))))) (gIf (fOrT (fNotT (fTst (fLam 6 [5] (fCall 1 F_round_group [] (fCons (fVar 5) (fNil))) postNN))) (fNotT (fTst (fFrz (fCall 1 F__law_group_right [] (fCons (fBin (gAdd false) (fC (.int 1)) (fCall 2 F__law_take [] (fCons (fVar 1) (fCons (fC (.int 6)) (fNil))))) (fNil))))))) (gRet (fC (.bl false))) (gNext))))))))
noncomputable abbrev lIt : FI := fItA rngIt1 (fCons (fCallB gMax2 (fCons (fC (.int 1)) (fCons (fCallB gMin2 (fCons (fC (.int 8)) (fCons (fCallB gLenA (fCons (fVar 0) (fNil))) (fNil)))) (fNil)))) (fNil))
noncomputable abbrev gL : FS := gSeq (gIf (fNotT (fTst (fFrz (fCall 1 F__law_rounds_right [] (fCons (fBin (gAdd false) (fC (.int 2)) (fBin (gMul false) (fC (.int 2)) (fCall 2 F__law_take [] (fCons (fVar 1) (fCons (fC (.int 32)) (fNil)))))) (fNil)))))) (gRet (fC (.bl false))) (gNext)) (gSeq (gSet 3 (fLst false (fCons (fBin (gAdd false) (fC (.int 1)) (fBin (gMul false) (fC (.int 2)) (fBin (gI2 iSub) (fCall 2 F__law_take [] (fCons (fVar 1) (fCons (fC (.int 600)) (fNil)))) (fC (.int 300))))) (fCons (fBin (gAdd false) (fC (.int 66)) (fBin (gMul false) (fC (.int 2)) (fCall 2 F__law_take [] (fCons (fVar 1) (fCons (fC (.int 1000)) (fNil)))))) (fCons (fBin (gI2 iSub) (fC (.int 0)) (fBin (gMul false) (fC (.int 2)) (fCall 2 F__law_take [] (fCons (fVar 1) (fCons (fC (.int 1000)) (fNil)))))) (fNil)))))) (gSeq (gSet 4 (fCall 2 F__law_pick [] (fCons (fVar 1) (fCons (fBin (gAdd false) (fVar 3) (fLst false (fCons (fC (.int 66)) (fCons (fBin (gI2 iPow) (fC (.int 10)) (fC (.int 9))) (fCons (fC (.bl true)) (fCons (fC (.bl false)) (fCons (fC (.str (PySem.Str.ofString "2"))) (fCons (fC .non) (fCons (fLst false (fCons (fC (.int 2)) (fNil))) (fCons (fTup (fCons (fC (.int 2)) (fNil))) (fCons (fFrz (fDict0)) (fCons (fUn gNeg (fC (.int 64))) (fNil))))))))))))) (fNil))))) (gSeq (gIf (fNotT (fTst (fLam 6 [4] (fCall 1 F_told_rounds [] (fCons (fVar 4) (fNil))) postNN))) (gRet (fC (.bl false))) (gNext)) (gSeq (gSet 3 (fLst false (fCons (fBin (gAdd false) (fC (.int 7)) (fCall 2 F__law_take [] (fCons (fVar 1) (fCons (fC (.int 100)) (fNil))))) (fCons (fBin (gI2 iSub) (fC (.int 0)) (fCall 2 F__law_take [] (fCons (fVar 1) (fCons (fC (.int 100)) (fNil))))) (fCons (fC (.int 7)) (fCons (fC (.bl true)) (fCons (fC (.str (PySem.Str.ofString "a"))) (fCons (fC .non) (fCons (fLst false (fCons (fC (.int 1)) (fNil))) (fCons (fBin (gI2 iPow) (fC (.int 10)) (fC (.int 9))) (fCons (fC (.bl false)) (fCons (fTup (fCons (fC (.int 1)) (fCons (fC (.int 2)) (fNil)))) (fNil))))))))))))) (gSeq (gSet 5 (fCall 2 F__law_pick [] (fCons (fVar 1) (fCons (fVar 3) (fNil))))) (gIf (fOrT (fNotT (fTst (fLam 6 [5] (fCall 1 F_round_group [] (fCons (fVar 5) (fNil))) postNN))) (fNotT (fTst (fFrz (fCall 1 F__law_group_right [] (fCons (fBin (gAdd false) (fC (.int 1)) (fCall 2 F__law_take [] (fCons (fVar 1) (fCons (fC (.int 6)) (fNil))))) (fNil))))))) (gRet (fC (.bl false))) (gNext)))))))
noncomputable abbrev l0 : FS := gIf (fNotT (fTst (fFrz (fCall 1 F__law_rounds_right [] (fCons (fBin (gAdd false) (fC (.int 2)) (fBin (gMul false) (fC (.int 2)) (fCall 2 F__law_take [] (fCons (fVar 1) (fCons (fC (.int 32)) (fNil)))))) (fNil)))))) (gRet (fC (.bl false))) (gNext)
noncomputable abbrev l1 : FS := gSet 3 (fLst false (fCons (fBin (gAdd false) (fC (.int 1)) (fBin (gMul false) (fC (.int 2)) (fBin (gI2 iSub) (fCall 2 F__law_take [] (fCons (fVar 1) (fCons (fC (.int 600)) (fNil)))) (fC (.int 300))))) (fCons (fBin (gAdd false) (fC (.int 66)) (fBin (gMul false) (fC (.int 2)) (fCall 2 F__law_take [] (fCons (fVar 1) (fCons (fC (.int 1000)) (fNil)))))) (fCons (fBin (gI2 iSub) (fC (.int 0)) (fBin (gMul false) (fC (.int 2)) (fCall 2 F__law_take [] (fCons (fVar 1) (fCons (fC (.int 1000)) (fNil)))))) (fNil)))))
noncomputable abbrev l2 : FS := gSet 4 (fCall 2 F__law_pick [] (fCons (fVar 1) (fCons (fBin (gAdd false) (fVar 3) (fLst false (fCons (fC (.int 66)) (fCons (fBin (gI2 iPow) (fC (.int 10)) (fC (.int 9))) (fCons (fC (.bl true)) (fCons (fC (.bl false)) (fCons (fC (.str (PySem.Str.ofString "2"))) (fCons (fC .non) (fCons (fLst false (fCons (fC (.int 2)) (fNil))) (fCons (fTup (fCons (fC (.int 2)) (fNil))) (fCons (fFrz (fDict0)) (fCons (fUn gNeg (fC (.int 64))) (fNil))))))))))))) (fNil))))
noncomputable abbrev l3 : FS := gIf (fNotT (fTst (fLam 6 [4] (fCall 1 F_told_rounds [] (fCons (fVar 4) (fNil))) postNN))) (gRet (fC (.bl false))) (gNext)
noncomputable abbrev l4 : FS := gSet 3 (fLst false (fCons (fBin (gAdd false) (fC (.int 7)) (fCall 2 F__law_take [] (fCons (fVar 1) (fCons (fC (.int 100)) (fNil))))) (fCons (fBin (gI2 iSub) (fC (.int 0)) (fCall 2 F__law_take [] (fCons (fVar 1) (fCons (fC (.int 100)) (fNil))))) (fCons (fC (.int 7)) (fCons (fC (.bl true)) (fCons (fC (.str (PySem.Str.ofString "a"))) (fCons (fC .non) (fCons (fLst false (fCons (fC (.int 1)) (fNil))) (fCons (fBin (gI2 iPow) (fC (.int 10)) (fC (.int 9))) (fCons (fC (.bl false)) (fCons (fTup (fCons (fC (.int 1)) (fCons (fC (.int 2)) (fNil)))) (fNil))))))))))))
noncomputable abbrev l5 : FS := gSet 5 (fCall 2 F__law_pick [] (fCons (fVar 1) (fCons (fVar 3) (fNil))))
noncomputable abbrev l6 : FS := gIf (fOrT (fNotT (fTst (fLam 6 [5] (fCall 1 F_round_group [] (fCons (fVar 5) (fNil))) postNN))) (fNotT (fTst (fFrz (fCall 1 F__law_group_right [] (fCons (fBin (gAdd false) (fC (.int 1)) (fCall 2 F__law_take [] (fCons (fVar 1) (fCons (fC (.int 6)) (fNil))))) (fNil))))))) (gRet (fC (.bl false))) (gNext)
noncomputable abbrev i0 : FS := gIf (fNotT (fTst (fCall 1 F_is_held [] (fCons (fVar 1) (fNil))))) (gNever) (gNext)
noncomputable abbrev i1 : FS := gSet 4 (fCall 1 F_pages_in [] (fCons (fVar 1) (fNil)))
noncomputable abbrev i2 : FS := gSet 5 (fFrz (fCall 2 F_leaves_told [] (fCons (fVar 2) (fCons (fVar 4) (fNil)))))
noncomputable abbrev i3 : FS := gIf (fTst (fBin gIsN (fVar 5) (fC .non))) (gNever) (gNext)
noncomputable abbrev i4 : FS := gSet 6 (fFrz (fCall 2 F_bars_told [] (fCons (fVar 3) (fCons (fCallB (gListA false) (fCons (fVar 1) (fNil))) (fNil)))))
noncomputable abbrev i5 : FS := gIf (fTst (fBin gIsN (fVar 6) (fC .non))) (gNever) (gNext)
noncomputable abbrev i6 : FS := gFldPut [17] "holdings" (fVar 0) (fDComp ([7] : List Nat) (fSeqIt (fCallB (gSortA false) (fCons (fVar 1) (fNil)))) (gtName 7) (fYes) (fVar 7) (fCallB gTupOf (fCons (fCallB (gSortA false) (fCons (fBin gDGet (fVar 1) (fVar 7)) (fNil))) (fNil))))
noncomputable abbrev i7 : FS := gFldPut [17] "sizes" (fVar 0) (fDComp ([8] : List Nat) (fSeqIt (fVar 4)) (gtName 8) (fYes) (fVar 8) (fDGet2 (fVar 5) (fVar 8) (fC (.int 1))))
noncomputable abbrev i8 : FS := gFldPut [17] "pairs" (fVar 0) (fVar 6)
noncomputable abbrev q0 : FS := gSet 1 (fCallB (gListA false) (fCons (fSlice (gSl false) (fC (.str (PySem.Str.ofString "abcdef"))) (fNo) (fPart (fVar 0))) (fNil)))
noncomputable abbrev q1 : FS := gSet 2 (fFrz (fCallK 1 F_round_group (fCons (fVar 0) (fNil))))
noncomputable abbrev q2 : FS := gIf (fTst (fBin (gOwn 17 F_Group___eq__ not) (fVar 2) (fFrz (fCall 1 F_round_group [] (fCons (fVar 0) (fNil)))))) (gRet (fC (.bl false))) (gNext)
noncomputable abbrev q3 : FS := gIf (fOrT (fTst (fBin gNe (fMeth 17 "people" 1 F_Group_people (fVar 2) fNil) (fVar 1))) (fOrT (fTst (fBin gNe (fMeth 17 "pages" 1 F_Group_pages (fVar 2) fNil) (fVar 1))) (fTst (fBin gNe (fMeth 17 "barred" 1 F_Group_barred (fVar 2) fNil) (fLst false (fNil)))))) (gRet (fC (.bl false))) (gNext)
noncomputable abbrev q4 : FS := gIf (fTst (fBin gNe (fComp false ([3] : List Nat) (fSeqIt (fVar 1)) (gtName 3) (fYes) (fMeth 17 "held" 2 F_Group_held (fVar 2) (fCons (fVar 3) (fNil)))) (fComp false ([3] : List Nat) (fSeqIt (fVar 1)) (gtName 3) (fYes) (fTup (fCons (fVar 3) (fNil)))))) (gRet (fC (.bl false))) (gNext)
noncomputable abbrev q5 : FS := gIf (fTst (fBin gNe (fComp false ([4] : List Nat) (fSeqIt (fVar 1)) (gtName 4) (fYes) (fMeth 17 "leaves" 2 F_Group_leaves (fVar 2) (fCons (fVar 4) (fNil)))) (fBin (gMul false) (fLst false (fCons (fC (.int 1)) (fNil))) (fVar 0)))) (gRet (fC (.bl false))) (gNext)
noncomputable abbrev q6 : FS := gRet (fBin (gOwn 17 F_Group___eq__ id) (fVar 2) (fFrz (fMake 17 1 0 4 F_Group___init__ gmk_Group_1 (fCons (fFrz (fCallB gDictP (fCons (fComp false ([5] : List Nat) (fSeqIt (fVar 1)) (gtName 5) (fYes) (fTup (fCons (fVar 5) (fCons (fLst false (fCons (fVar 5) (fNil))) (fNil))))) (fNil)))) (fNil)) (fNil))))
noncomputable abbrev rg0 : FS := gIf (fNotT (fTst (fCall 3 F_is_whole [] (fCons (fVar 0) (fCons (fC (.int 1)) (fCons (fC (.int 6)) (fNil))))))) (gRaise 10) (gNext)
noncomputable abbrev rg1 : FS := gRet (fFrz (fMake 17 1 0 4 F_Group___init__ gmk_Group_1 (fCons (fFrz (fDComp ([1] : List Nat) (fSeqIt (fSlice (gSl false) (fC (.str (PySem.Str.ofString "abcdef"))) (fNo) (fPart (fVar 0)))) (gtName 1) (fYes) (fVar 1) (fLst false (fCons (fVar 1) (fNil))))) (fNil)) (fNil)))
end K14

-- R3
namespace K14
open PySem L2 Pl
/-- the rounds of one number, tried -/
noncomputable def chk (a : Int) (x y : Option Cell) : Option (Bool × Store × Store) := match F__law_due [iE a] [x, y] with
  | some (.inr e, M1) => match dataE 2 M1 8 e with
    | some d => match gRest [some (iE a), some (.p d), none, none, none, none] [x, y] with
      | some (.rt (.p (.bl b)), M2) => some (b && !(eB 2 e), M1.take 2, M2.take 2)
      | _ => none
    | none => none
  | _ => none
theorem chk2 (x y : Option Cell) : chk 2 x y = some (true, [x, y], [x, y]) := by kernel_rfl
theorem chk4 (x y : Option Cell) : chk 4 x y = some (true, [x, y], [x, y]) := by kernel_rfl
theorem chk6 (x y : Option Cell) : chk 6 x y = some (true, [x, y], [x, y]) := by kernel_rfl
theorem chk8 (x y : Option Cell) : chk 8 x y = some (true, [x, y], [x, y]) := by kernel_rfl
theorem chk10 (x y : Option Cell) : chk 10 x y = some (true, [x, y], [x, y]) := by kernel_rfl
theorem chk12 (x y : Option Cell) : chk 12 x y = some (true, [x, y], [x, y]) := by kernel_rfl
theorem chk14 (x y : Option Cell) : chk 14 x y = some (true, [x, y], [x, y]) := by kernel_rfl
theorem chk16 (x y : Option Cell) : chk 16 x y = some (true, [x, y], [x, y]) := by kernel_rfl
theorem chk18 (x y : Option Cell) : chk 18 x y = some (true, [x, y], [x, y]) := by kernel_rfl
theorem chk20 (x y : Option Cell) : chk 20 x y = some (true, [x, y], [x, y]) := by kernel_rfl
theorem chk22 (x y : Option Cell) : chk 22 x y = some (true, [x, y], [x, y]) := by kernel_rfl
theorem chk24 (x y : Option Cell) : chk 24 x y = some (true, [x, y], [x, y]) := by kernel_rfl
theorem chk26 (x y : Option Cell) : chk 26 x y = some (true, [x, y], [x, y]) := by kernel_rfl
theorem chk28 (x y : Option Cell) : chk 28 x y = some (true, [x, y], [x, y]) := by kernel_rfl
theorem chk30 (x y : Option Cell) : chk 30 x y = some (true, [x, y], [x, y]) := by kernel_rfl
theorem chk32 (x y : Option Cell) : chk 32 x y = some (true, [x, y], [x, y]) := by kernel_rfl
theorem chk34 (x y : Option Cell) : chk 34 x y = some (true, [x, y], [x, y]) := by kernel_rfl
theorem chk36 (x y : Option Cell) : chk 36 x y = some (true, [x, y], [x, y]) := by kernel_rfl
theorem chk38 (x y : Option Cell) : chk 38 x y = some (true, [x, y], [x, y]) := by kernel_rfl
theorem chk40 (x y : Option Cell) : chk 40 x y = some (true, [x, y], [x, y]) := by kernel_rfl
theorem chk42 (x y : Option Cell) : chk 42 x y = some (true, [x, y], [x, y]) := by kernel_rfl
theorem chk44 (x y : Option Cell) : chk 44 x y = some (true, [x, y], [x, y]) := by kernel_rfl
theorem chk46 (x y : Option Cell) : chk 46 x y = some (true, [x, y], [x, y]) := by kernel_rfl
theorem chk48 (x y : Option Cell) : chk 48 x y = some (true, [x, y], [x, y]) := by kernel_rfl
theorem chk50 (x y : Option Cell) : chk 50 x y = some (true, [x, y], [x, y]) := by kernel_rfl
theorem chk52 (x y : Option Cell) : chk 52 x y = some (true, [x, y], [x, y]) := by kernel_rfl
theorem chk54 (x y : Option Cell) : chk 54 x y = some (true, [x, y], [x, y]) := by kernel_rfl
theorem chk56 (x y : Option Cell) : chk 56 x y = some (true, [x, y], [x, y]) := by kernel_rfl
theorem chk58 (x y : Option Cell) : chk 58 x y = some (true, [x, y], [x, y]) := by kernel_rfl
theorem chk60 (x y : Option Cell) : chk 60 x y = some (true, [x, y], [x, y]) := by kernel_rfl
theorem chk62 (x y : Option Cell) : chk 62 x y = some (true, [x, y], [x, y]) := by kernel_rfl
theorem chk64 (x y : Option Cell) : chk 64 x y = some (true, [x, y], [x, y]) := by kernel_rfl
theorem chk_all (x y : Option Cell) : ∀ k : Nat, k < 32 → chk (2 + 2 * (k : Int)) x y = some (true, [x, y], [x, y])
  | 0, _ => chk2 x y
  | 1, _ => chk4 x y
  | 2, _ => chk6 x y
  | 3, _ => chk8 x y
  | 4, _ => chk10 x y
  | 5, _ => chk12 x y
  | 6, _ => chk14 x y
  | 7, _ => chk16 x y
  | 8, _ => chk18 x y
  | 9, _ => chk20 x y
  | 10, _ => chk22 x y
  | 11, _ => chk24 x y
  | 12, _ => chk26 x y
  | 13, _ => chk28 x y
  | 14, _ => chk30 x y
  | 15, _ => chk32 x y
  | 16, _ => chk34 x y
  | 17, _ => chk36 x y
  | 18, _ => chk38 x y
  | 19, _ => chk40 x y
  | 20, _ => chk42 x y
  | 21, _ => chk44 x y
  | 22, _ => chk46 x y
  | 23, _ => chk48 x y
  | 24, _ => chk50 x y
  | 25, _ => chk52 x y
  | 26, _ => chk54 x y
  | 27, _ => chk56 x y
  | 28, _ => chk58 x y
  | 29, _ => chk60 x y
  | 30, _ => chk62 x y
  | 31, _ => chk64 x y
  | k + 32, h => absurd h (by omega)
end K14

-- R4
namespace K14
open PySem L2 Pl
section
variable {M : Store} {ρ : Pl.Env}
theorem frz_ev {f : FE} {e e2 : E} {M1 M2 : Store} (h : f ρ M = some (.inr e, M1)) (h1 : M1.take M.length = M2) (h2 : M2 = M ∨ M2.all (oB M.length) = true) (h3 : resE M.length M1 e = some e2) : fFrz f ρ M = some (.inr e2, M2) := by
  have hc : cutSt M M1 = some M2 := by
    unfold cutSt
    rw [h1]
    by_cases q : M2 = M
    · rw [if_pos q, q]
    · rw [if_neg q, if_pos (h2.resolve_left q)]
  unfold fFrz
  rw [h]
  show (match cutSt M M1, resE M.length M1 e with | some M2, some e2 => some (Sum.inr e2, M2) | _, _ => none) = _
  rw [hc, h3]
theorem frz_xn {f : FE} {x : Xn} (h : f ρ M = some (.inl x, M)) : fFrz f ρ M = some (.inl x, M) := by
  have hc : cutSt M M = some M := by
    unfold cutSt
    rw [List.take_length, if_pos rfl]
  unfold fFrz
  rw [h]
  show (match cutSt M M with | some M2 => some (Sum.inl x, M2) | none => none) = _
  rw [hc]
end
def nm (i : Nat) : PySem.Str := ⟨#[97 + i]⟩
def names (n : Nat) : List PySem.Str := (List.range n).map nm
def heldD (n : Nat) : PD := .dic ((names n).map fun s => (.inr s, .lst [.str s]))
def grpD (n : Nat) : PD := .ins 17 [("holdings", .dic ((names n).map fun s => (.inr s, .tup [.str s]))), ("sizes", .dic ((names n).map fun s => (.inr s, .int 1))), ("pairs", .lst [])]
def pgD (n : Nat) : PD := .lst ((names n).map .str)
def nt : E := .p (.tup [])
abbrev bareS (x y : Option Cell) : Store := [x, y, some (.ins 17 [])]
/-- what __init__ leaves -/
def doneS (n : Nat) (x y : Option Cell) : Store := [x, y, some (.ins 17 [("holdings", .r 3), ("sizes", .r 4), ("pairs", .p (.lst []))]), some (.dic ((names n).map fun s => (.inr s, .p (.tup [.str s])))), some (.dic ((names n).map fun s => (.inr s, .p (.int 1))))]
abbrev env4 (n : Nat) (a b c : Option E) : Pl.Env := [some (.r 2), some (.p (heldD n)), some nt, some nt, a, b, c, none, none]
theorem init_ev (x y : Option Cell) : ∀ n : Nat, 1 ≤ n → n ≤ 6 → F_Group___init__ [.r 2, .p (heldD n), nt, nt] (bareS x y) = some (.inr (.p .non), doneS n x y) := by
  intro n h1 h6
  have cases : n = 1 ∨ n = 2 ∨ n = 3 ∨ n = 4 ∨ n = 5 ∨ n = 6 := by omega
  suffices hB : B_Group___init__ (env4 n none none none) (bareS x y) = some (.nx (env4 n (some (.p (pgD n))) (some (.p (.dic []))) (some (.p (.lst [])))), doneS n x y) by
    unfold F_Group___init__ fnOf
    show (match B_Group___init__ (env4 n none none none) (bareS x y) with | some (.nx _, M') => some (Sum.inr (E.p .non), M') | some (.rt e, M') => some (Sum.inr e, M') | some (.xn x _, M') => some (Sum.inl x, M') | _ => none) = _
    rw [hB]
  show gSeq i0 (gSeq i1 (gSeq i2 (gSeq i3 (gSeq i4 (gSeq i5 (gSeq i6 (gSeq i7 i8))))))) (env4 n none none none) (bareS x y) = _
  have e0 : i0 (env4 n none none none) (bareS x y) = some (.nx (env4 n none none none), bareS x y) := by
    rcases cases with rfl | rfl | rfl | rfl | rfl | rfl <;> kernel_rfl
  have e1 : i1 (env4 n none none none) (bareS x y) = some (.nx (env4 n (some (.p (pgD n))) none none), bareS x y) := by
    rcases cases with rfl | rfl | rfl | rfl | rfl | rfl <;> kernel_rfl
  have e2 : i2 (env4 n (some (.p (pgD n))) none none) (bareS x y) = some (.nx (env4 n (some (.p (pgD n))) (some (.p (.dic []))) none), bareS x y) := by
    refine set_ev (frz_ev (e := .r 3) (M1 := bareS x y ++ [some (.dic [])]) ?_ rfl (.inl rfl) rfl)
    rcases cases with rfl | rfl | rfl | rfl | rfl | rfl <;> kernel_rfl
  have e4 : i4 (env4 n (some (.p (pgD n))) (some (.p (.dic []))) none) (bareS x y) = some (.nx (env4 n (some (.p (pgD n))) (some (.p (.dic []))) (some (.p (.lst [])))), bareS x y) := by
    refine set_ev (frz_ev (e := .p (.lst [])) (M1 := bareS x y ++ [some (.lst [])]) ?_ rfl (.inl rfl) rfl)
    rcases cases with rfl | rfl | rfl | rfl | rfl | rfl <;> kernel_rfl
  have e6 : gSeq i6 (gSeq i7 i8) (env4 n (some (.p (pgD n))) (some (.p (.dic []))) (some (.p (.lst [])))) (bareS x y) = some (.nx (env4 n (some (.p (pgD n))) (some (.p (.dic []))) (some (.p (.lst [])))), doneS n x y) := by
    rcases cases with rfl | rfl | rfl | rfl | rfl | rfl <;> kernel_rfl
  rw [seq_ev e0, seq_ev e1, seq_ev e2, seq_ev (show i3 _ (bareS x y) = some (.nx (env4 n (some (.p (pgD n))) (some (.p (.dic []))) none), bareS x y) from rfl), seq_ev e4,
    seq_ev (show i5 _ (bareS x y) = some (.nx (env4 n (some (.p (pgD n))) (some (.p (.dic []))) (some (.p (.lst [])))), bareS x y) from rfl)]
  exact e6
/-- Group(held), of such a held -/
theorem make_ev {fa : FA} {ρ : Pl.Env} (x y : Option Cell) (n : Nat) (h1 : 1 ≤ n) (h6 : n ≤ 6) (ha : fa ρ [x, y] = some (.inr [.p (heldD n)], [x, y])) : fFrz (fMake 17 1 0 4 F_Group___init__ gmk_Group_1 fa fNil) ρ [x, y] = some (.inr (.p (grpD n)), [x, y]) := by
  have hm : fMake 17 1 0 4 F_Group___init__ gmk_Group_1 fa fNil ρ [x, y] = some (.inr (.r 2), doneS n x y) := by
    unfold fMake
    rw [ha]
    show (match F_Group___init__ [.r 2, .p (heldD n), nt, nt] (bareS x y) with | some (.inr (.p .non), M3) => some (Sum.inr (E.r 2), M3) | some (.inl x, M3) => some (Sum.inl x, M3) | _ => none) = _
    rw [init_ev x y n h1 h6]
  refine frz_ev hm rfl (.inl rfl) ?_
  have cases : n = 1 ∨ n = 2 ∨ n = 3 ∨ n = 4 ∨ n = 5 ∨ n = 6 := by omega
  rcases cases with rfl | rfl | rfl | rfl | rfl | rfl <;> kernel_rfl
theorem round_ev (x y : Option Cell) (n : Nat) (h1 : 1 ≤ n) (h6 : n ≤ 6) : F_round_group [iE n] [x, y] = some (.inr (.p (grpD n)), [x, y]) := by
  have cases : n = 1 ∨ n = 2 ∨ n = 3 ∨ n = 4 ∨ n = 5 ∨ n = 6 := by omega
  suffices hB : B_round_group [some (iE n), none] [x, y] = some (.rt (.p (grpD n)), [x, y]) from fn_rt (N := 2) (es := [iE n]) hB
  show gSeq rg0 rg1 [some (iE n), none] [x, y] = _
  rw [seq_ev (show rg0 [some (iE n), none] [x, y] = some (.nx [some (iE n), none], [x, y]) by rcases cases with rfl | rfl | rfl | rfl | rfl | rfl <;> kernel_rfl)]
  refine ret_ev (make_ev x y n h1 h6 (cons_ev (e := .p (heldD n)) (M1 := [x, y]) ?_ nil_ev))
  refine frz_ev (e := .r 2) (M1 := [x, y, some (.dic ((names n).map fun s => (.inr s, .p (.lst [.str s]))))]) ?_ rfl (.inl rfl) ?_
  · rcases cases with rfl | rfl | rfl | rfl | rfl | rfl <;> kernel_rfl
  · rcases cases with rfl | rfl | rfl | rfl | rfl | rfl <;> kernel_rfl
end K14

-- R5
namespace K14
open PySem L2 Pl
abbrev env6 (n : Nat) (a b : Option E) : Pl.Env := [some (iE n), a, b, none, none, none]
theorem eq_self (x y : Option Cell) (n : Nat) (h1 : 1 ≤ n) (h6 : n ≤ 6) : F_Group___eq__ [.p (grpD n), .p (grpD n)] [x, y] = some (.inr (.p (.bl true)), [x, y]) := by
  have cases : n = 1 ∨ n = 2 ∨ n = 3 ∨ n = 4 ∨ n = 5 ∨ n = 6 := by omega
  rcases cases with rfl | rfl | rfl | rfl | rfl | rfl <;> kernel_rfl
theorem own_ev (x y : Option Cell) (n : Nat) (h1 : 1 ≤ n) (h6 : n ≤ 6) (g : Bool → Bool) : gOwn 17 F_Group___eq__ g (.p (grpD n)) (.p (grpD n)) [x, y] = some (.p (.bl (g true)), [x, y]) := by
  show ownRes g (F_Group___eq__ [.p (grpD n), .p (grpD n)] [x, y]) = _
  rw [eq_self x y n h1 h6]
  rfl
theorem group_right (x y : Option Cell) (n : Nat) (h1 : 1 ≤ n) (h6 : n ≤ 6) : F__law_group_right [iE n] [x, y] = some (.inr (.p (.bl true)), [x, y]) := by
  have cases : n = 1 ∨ n = 2 ∨ n = 3 ∨ n = 4 ∨ n = 5 ∨ n = 6 := by omega
  suffices hB : B__law_group_right (env6 n none none) [x, y] = some (.rt (.p (.bl true)), [x, y]) from fn_rt (N := 6) (es := [iE n]) hB
  show gSeq q0 (gSeq q1 (gSeq q2 (gSeq q3 (gSeq q4 (gSeq q5 q6))))) (env6 n none none) [x, y] = _
  have e0 : q0 (env6 n none none) [x, y] = some (.nx (env6 n (some (.p (pgD n))) none), [x, y]) := by
    rcases cases with rfl | rfl | rfl | rfl | rfl | rfl <;> kernel_rfl
  have e1 : q1 (env6 n (some (.p (pgD n))) none) [x, y] = some (.nx (env6 n (some (.p (pgD n))) (some (.p (grpD n)))), [x, y]) := by
    refine set_ev (frz_ev (e := .p (grpD n)) (M1 := [x, y]) ?_ rfl (.inl rfl) rfl)
    show (match F_round_group [iE n] [x, y] with | some (.inr e, M2) => some (Sum.inr e, M2) | _ => none) = _
    rw [round_ev x y n h1 h6]
  have e2 : q2 (env6 n (some (.p (pgD n))) (some (.p (grpD n)))) [x, y] = some (.nx (env6 n (some (.p (pgD n))) (some (.p (grpD n)))), [x, y]) := by
    refine (if_f (tst_ev (bin_ev (var_ev rfl) (frz_ev (e := .p (grpD n)) (M1 := [x, y]) ?_ rfl (.inl rfl) rfl) (own_ev x y n h1 h6 not)))).trans rfl
    exact call_ev (cons_ev (var_ev rfl) nil_ev) rfl (round_ev x y n h1 h6)
  have e3 : q3 (env6 n (some (.p (pgD n))) (some (.p (grpD n)))) [x, y] = some (.nx (env6 n (some (.p (pgD n))) (some (.p (grpD n)))), [x, y]) := by
    rcases cases with rfl | rfl | rfl | rfl | rfl | rfl <;> kernel_rfl
  have e4 : q4 (env6 n (some (.p (pgD n))) (some (.p (grpD n)))) [x, y] = some (.nx (env6 n (some (.p (pgD n))) (some (.p (grpD n)))), [x, y]) := by
    rcases cases with rfl | rfl | rfl | rfl | rfl | rfl <;> kernel_rfl
  have e5 : q5 (env6 n (some (.p (pgD n))) (some (.p (grpD n)))) [x, y] = some (.nx (env6 n (some (.p (pgD n))) (some (.p (grpD n)))), [x, y]) := by
    rcases cases with rfl | rfl | rfl | rfl | rfl | rfl <;> kernel_rfl
  rw [seq_ev e0, seq_ev e1, seq_ev e2, seq_ev e3, seq_ev e4, seq_ev e5]
  refine ret_ev (bin_ev (var_ev rfl) (make_ev x y n h1 h6 (cons_ev (e := .p (heldD n)) (M1 := [x, y]) ?_ nil_ev)) (own_ev x y n h1 h6 id))
  refine frz_ev (e := .r 2) (M1 := [x, y, some (.dic ((names n).map fun s => (.inr s, .p (.lst [.str s]))))]) ?_ rfl (.inl rfl) ?_
  · rcases cases with rfl | rfl | rfl | rfl | rfl | rfl <;> kernel_rfl
  · rcases cases with rfl | rfl | rfl | rfl | rfl | rfl <;> kernel_rfl
inductive BadN (lo hi : Int) (ev : Bool) : E → Prop
  | int {i : Int} : i < lo ∨ hi < i ∨ (ev = true ∧ i % 2 = 1) → BadN lo hi ev (iE i)
  | bl (b : Bool) : BadN lo hi ev (.p (.bl b))
  | str (s : PySem.Str) : BadN lo hi ev (.p (.str s))
  | non : BadN lo hi ev (.p .non)
  | lst (ds : List PD) : BadN lo hi ev (.p (.lst ds))
  | tup (ds : List PD) : BadN lo hi ev (.p (.tup ds))
  | dic (ds : List (Key × PD)) : BadN lo hi ev (.p (.dic ds))
section
variable {M : Store} {ρ : Pl.Env}
/-- not whole, or whole and odd -/
theorem whole_bad {lo hi : Int} {ev : Bool} {e : E} (h : BadN lo hi ev e) : (∃ i, e = iE i ∧ ev = true ∧ i % 2 = 1) ∨ F_is_whole [e, iE lo, iE hi] M = some (.inr (.p (.bl false)), M) := by
  cases h with
  | @int i h =>
    by_cases c : ev = true ∧ i % 2 = 1
    · exact .inl ⟨i, rfl, c⟩
    refine .inr ((whole_int M i lo hi).trans ?_)
    have : (decide (lo ≤ i) && decide (i ≤ hi)) = false := by
      rcases h with h | h | h
      · rw [decide_eq_false (by omega), Bool.false_and]
      · rw [decide_eq_false (p := i ≤ hi) (by omega), Bool.and_false]
      · exact absurd h c
    rw [this]
  | bl b => exact .inr (fn_rt (N := 3) (es := [.p (.bl b), iE lo, iE hi]) (ret_ev rfl))
  | str s => exact .inr (fn_rt (N := 3) (es := [.p (.str s), iE lo, iE hi]) (ret_ev rfl))
  | non => exact .inr (fn_rt (N := 3) (es := [.p .non, iE lo, iE hi]) (ret_ev rfl))
  | lst ds => exact .inr (fn_rt (N := 3) (es := [.p (.lst ds), iE lo, iE hi]) (ret_ev rfl))
  | tup ds => exact .inr (fn_rt (N := 3) (es := [.p (.tup ds), iE lo, iE hi]) (ret_ev rfl))
  | dic ds => exact .inr (fn_rt (N := 3) (es := [.p (.dic ds), iE lo, iE hi]) (ret_ev rfl))
theorem fn_xn {N : Nat} {g : FS} {es : List E} {M' : Store} {x : Xn} {ρ' : Pl.Env} (h : g (es.map some ++ List.replicate (N - es.length) none) M = some (.xn x ρ', M')) : fnOf N g es M = some (.inl x, M') := by unfold fnOf; rw [h]
theorem or_t {f g : FT} {M1 : Store} (h : f ρ M = some (.inr true, M1)) : fOrT f g ρ M = some (.inr true, M1) := by unfold fOrT; rw [h]; rfl
theorem or_f {f g : FT} {r : Rs Bool} {M1 : Store} (h : f ρ M = some (.inr false, M1)) (h2 : g ρ M1 = r) : fOrT f g ρ M = r := by unfold fOrT; rw [h]; exact h2
theorem seq_xn {g1 g2 : FS} {x : Xn} {ρ1 : Pl.Env} {M1 : Store} (h : g1 ρ M = some (.xn x ρ1, M1)) : gSeq g1 g2 ρ M = some (.xn x ρ1, M1) := by unfold gSeq; rw [h]
theorem told_bad {e : E} (h : BadN 2 64 true e) : F_told_rounds [e] M = some (.inl ⟨10, []⟩, M) := by
  refine fn_xn (N := 8) (es := [e]) (ρ' := [some e, none, none, none, none, none, none, none]) ?_
  show B_told_rounds [some e, none, none, none, none, none, none, none] M = _
  unfold B_told_rounds
  refine seq_xn ((if_t (M1 := M) ?_).trans rfl)
  rcases whole_bad (M := M) h with ⟨i, rfl, _, hi⟩ | hw
  · have hw := whole_int M i 2 64
    have w1 := not_ev (tst_ev (call_ev (ρ := [some (iE i), none, none, none, none, none, none, none]) (n := 3) (cons_ev (var_ev (i := 0) (e := iE i) rfl) (cons_ev (c_ev (d := .int 2)) (cons_ev (c_ev (d := .int 64)) nil_ev))) rfl hw))
    have w2 := eq_ev (M := M) (mod_ev (ρ := [some (iE i), none, none, none, none, none, none, none]) (var_ev (i := 0) (e := iE i) rfl) (c_ev (d := .int 2)) (by decide)) (c_ev (d := .int 1))
    rw [decide_eq_true hi] at w2
    cases hb : (decide (2 ≤ i) && decide (i ≤ 64)) with
    | false => rw [hb] at w1; exact or_t w1
    | true => rw [hb] at w1; exact or_f w1 w2
  · exact or_t (not_ev (tst_ev (call_ev (n := 3) (cons_ev (var_ev (i := 0) (e := e) rfl) (cons_ev (c_ev (d := .int 2)) (cons_ev (c_ev (d := .int 64)) nil_ev))) rfl hw)))
theorem group_bad {e : E} (h : BadN 1 6 false e) : F_round_group [e] M = some (.inl ⟨10, []⟩, M) := by
  refine fn_xn (N := 2) (es := [e]) (ρ' := [some e, none]) ?_
  show gSeq rg0 rg1 [some e, none] M = _
  refine seq_xn ((if_t (M1 := M) ?_).trans rfl)
  rcases whole_bad (M := M) h with ⟨i, _, hf, _⟩ | hw
  · cases hf
  · exact not_ev (tst_ev (call_ev (n := 3) (cons_ev (var_ev (i := 0) (e := e) rfl) (cons_ev (c_ev (d := .int 1)) (cons_ev (c_ev (d := .int 6)) nil_ev))) rfl hw))
end
end K14

-- R6
namespace K14
open PySem L2 Pl
section
variable {M : Store} {ρ : Pl.Env}
theorem chk_use {a : Int} {x y : Option Cell} (h : chk a x y = some (true, [x, y], [x, y])) : ∃ M2, F__law_rounds_right [iE a] [x, y] = some (.inr (.p (.bl true)), M2) ∧ M2.take 2 = [x, y] := by
  unfold chk at h
  split at h
  · rename_i e M1 e1
    split at h
    · rename_i d hd
      split at h
      · rename_i b M2 e2
        simp only [Option.some.injEq, Prod.mk.injEq, Bool.and_eq_true, Bool.not_eq_true'] at h
        obtain ⟨⟨hb, he⟩, h1, h2⟩ := h
        subst hb
        refine ⟨M2, fn_rt (N := 6) (es := [iE a]) ?_, h2⟩
        show gSeq (gSet 1 (fFrz (fCall 1 F__law_due [] (fCons (fVar 0) (fNil))))) gRest [some (iE a), none, none, none, none, none] [x, y] = _
        have s1 : gSet 1 (fFrz (fCall 1 F__law_due [] (fCons (fVar 0) (fNil)))) [some (iE a), none, none, none, none, none] [x, y] = some (.nx [some (iE a), some (.p d), none, none, none, none], [x, y]) := by
          refine set_ev (frz_ev (call_ev (cons_ev (var_ev (e := iE a) rfl) nil_ev) rfl e1) h1 (.inl rfl) ?_)
          unfold resE
          rw [if_neg (by show ¬ eB 2 e = true; rw [he]; exact Bool.false_ne_true)]
          show (match dataE 2 M1 8 e with | some d => some (E.p d) | none => none) = _
          rw [hd]
        rw [seq_ev s1]
        exact e2
      · cases h
    · cases h
  · cases h
theorem all_ints : ∀ gs : List Int, (gs.map iE).all (eB 2) = true
  | [] => rfl
  | _ :: l => by rw [List.map_cons, List.all_cons, all_ints l]; rfl
theorem dr_below (hl : M.length = 2) (d : DrOk M 1) : M.all (oB 2) = true := by
  obtain ⟨g, gs, cs, r, t, m, D, _⟩ := d
  have hg := (List.getElem?_eq_some_iff.mp D.b).1
  have g0 : g = 0 := by have := D.ne; omega
  subst g0
  match M, hl with
  | [a, b], _ =>
    have ha : a = some (.lst (gs.map iE)) := by simpa using D.b
    have hb : b = some (.dic (dr 0 cs r t m)) := by simpa using D.a
    subst ha hb
    show (oB 2 (some (.lst (gs.map iE))) && (oB 2 (some (.dic (dr 0 cs r t m))) && true)) = true
    rw [show oB 2 (some (.lst (gs.map iE))) = (gs.map iE).all (eB 2) from rfl, all_ints]
    rfl
/-- the store of the law: the draw's two cells -/
def Two (M : Store) : Prop := M.length = 2 ∧ DrOk M 1
theorem take_two {n : Int} {fn : FE} (d : Two M) (hρ : ρ[1]? = some (some (.r 1))) (hn : fn ρ M = some (.inr (iE n), M)) (h0 : 0 < n) (h1 : n < 1073741824) : ∃ x M', fCall 2 F__law_take [] (fCons (fVar 1) (fCons fn fNil)) ρ M = some (.inr (iE x), M') ∧ 0 ≤ x ∧ x < n ∧ Two M' := by
  obtain ⟨x, M', e, a, b, d2, k2⟩ := take_ok (M := M) h0 h1 d.2
  exact ⟨x, M', call_ev (cons_ev (var_ev hρ) (cons_ev hn nil_ev)) rfl e, a, b, k2.1.trans d.1, d2⟩
theorem pick_ok {ds : List PD} (d : Two M) (h0 : 0 < ds.length) (hl : ds.length < 1000) : ∃ x M', x ∈ ds ∧ F__law_pick [.r 1, .p (.lst ds)] M = some (.inr (.p x), M') ∧ Two M' := by
  have ln : fCallB gLenA (fCons (fVar 1) (fNil)) [some (.r 1), some (.p (.lst ds))] M = some (.inr (iE ds.length), M) := callB_ev (cons_ev (var_ev rfl) nil_ev) rfl
  obtain ⟨x, M', e1, e2, e3, e4, e5⟩ := take_ok (M := M) (k := 1) (n := ds.length) (by omega) (by omega) d.2
  have hlt : x.toNat < ds.length := by omega
  refine ⟨ds[x.toNat]'hlt, M', List.getElem_mem hlt, fn_rt (N := 2) (es := [.r 1, .p (.lst ds)]) (ret_ev ?_), e5.1.trans d.1, e4⟩
  refine bin_ev (var_ev rfl) (call_ev (cons_ev (var_ev rfl) (cons_ev ln nil_ev)) rfl e1) ?_
  have e6 : atI (ds.map E.p) x = some (.p (ds[x.toNat]'hlt)) := by
    rw [atI_lt e2 (by rw [List.length_map]; omega), List.getElem_map]
  show (match (match atI (ds.map E.p) x with | some e => some (e, M') | none => none) with | some r => some r | none => gOr gIxT gIxS (.p (.lst ds)) (iE x) M') = _
  rw [e6]
theorem bad_p {lo hi : Int} {ev : Bool} {e : E} (h : BadN lo hi ev e) : ∃ d, e = .p d := by cases h <;> exact ⟨_, rfl⟩
theorem lam_told {o0 o1 o2 o3 o5 : Option E} {e : E} (h : BadN 2 64 true e) : fLam 6 [4] (fCall 1 F_told_rounds [] (fCons (fVar 4) (fNil))) postNN [o0, o1, o2, o3, some e, o5] M = some (.inr (.p (.bl true)), M) := by
  obtain ⟨d, rfl⟩ := bad_p h
  show postNN (fCall 1 F_told_rounds [] (fCons (fVar 4) (fNil)) (capEnv 6 [4] [.inl d]) M) = _
  have hc : fCall 1 F_told_rounds [] (fCons (fVar 4) (fNil)) (capEnv 6 [4] [.inl d]) M = some (.inl ⟨10, []⟩, M) := call_ev (cons_ev (var_ev (e := .p d) rfl) nil_ev) rfl (told_bad h)
  rw [hc]
  rfl
theorem lam_group {o0 o1 o2 o3 o4 : Option E} {e : E} (h : BadN 1 6 false e) : fLam 6 [5] (fCall 1 F_round_group [] (fCons (fVar 5) (fNil))) postNN [o0, o1, o2, o3, o4, some e] M = some (.inr (.p (.bl true)), M) := by
  obtain ⟨d, rfl⟩ := bad_p h
  show postNN (fCall 1 F_round_group [] (fCons (fVar 5) (fNil)) (capEnv 6 [5] [.inl d]) M) = _
  have hc : fCall 1 F_round_group [] (fCons (fVar 5) (fNil)) (capEnv 6 [5] [.inl d]) M = some (.inl ⟨10, []⟩, M) := call_ev (cons_ev (var_ev (e := .p d) rfl) nil_ev) rfl (group_bad h)
  rw [hc]
  rfl
theorem lst_ev {fa : FA} {es : List E} {ds : List PD} {M1 : Store} (h : fa ρ M = some (.inr es, M1)) (hl : es.length ≤ 16777216) (hp : asPs es = some ds) : fLst false fa ρ M = some (.inr (.p (.lst ds)), M1) := by
  unfold fLst
  rw [h]
  show (if es.length ≤ 16777216 then lft (mkLst false es M1) else none) = _
  rw [if_pos hl]
  unfold mkLst
  rw [if_neg (by simp), hp]
  rfl
theorem two_form (d : Two M) : ∃ x y, M = [x, y] := match M, d.1 with
  | [x, y], _ => ⟨x, y, rfl⟩
/-- one turn of the law -/
theorem turn_ok {sc o3 o4 o5 : Option E} {t : E} (d : Two M) : ∃ a b c M', gL [sc, some (.r 1), some t, o3, o4, o5] M = some (.nx [sc, some (.r 1), some t, a, b, c], M') ∧ Two M' := by
  -- the rounds
  obtain ⟨x, M1, e1, x0, x1, d1⟩ := take_two (ρ := [sc, some (.r 1), some t, o3, o4, o5]) (fn := fC (.int 32)) (n := 32) d rfl rfl (by decide) (by decide)
  have a1 := add_ev (c_ev (d := .int 2)) (mul_ev (c_ev (d := .int 2)) e1 (.inl (by decide)))
  obtain ⟨x', y', em⟩ := two_form d1
  have rr : ∃ M2, F__law_rounds_right [iE (2 + 2 * x)] M1 = some (.inr (.p (.bl true)), M2) ∧ M2.take 2 = M1 := by
    rw [em]
    have := chk_use (chk_all x' y' x.toNat (by omega))
    rw [show ((x.toNat : Nat) : Int) = x by omega] at this
    exact this
  obtain ⟨M2, r1, r2⟩ := rr
  have f1 : fFrz (fCall 1 F__law_rounds_right [] (fCons (fBin (gAdd false) (fC (.int 2)) (fBin (gMul false) (fC (.int 2)) (fCall 2 F__law_take [] (fCons (fVar 1) (fCons (fC (.int 32)) (fNil)))))) (fNil))) [sc, some (.r 1), some t, o3, o4, o5] M = some (.inr (.p (.bl true)), M1) :=
    frz_ev (call_ev (cons_ev a1 nil_ev) rfl r1) (by rw [d.1]; exact r2) (.inr (by rw [d.1]; exact dr_below d1.1 d1.2)) rfl
  have s0 : l0 [sc, some (.r 1), some t, o3, o4, o5] M = some (.nx [sc, some (.r 1), some t, o3, o4, o5], M1) := (if_f (not_ev (tst_ev f1))).trans rfl
  -- odd
  obtain ⟨u, M3, e3, u0, u1, d3⟩ := take_two (ρ := [sc, some (.r 1), some t, o3, o4, o5]) (fn := fC (.int 600)) (n := 600) d1 rfl rfl (by decide) (by decide)
  obtain ⟨v, M4, e4, v0, v1, d4⟩ := take_two (ρ := [sc, some (.r 1), some t, o3, o4, o5]) (fn := fC (.int 1000)) (n := 1000) d3 rfl rfl (by decide) (by decide)
  obtain ⟨w, M5, e5, w0, w1, d5⟩ := take_two (ρ := [sc, some (.r 1), some t, o3, o4, o5]) (fn := fC (.int 1000)) (n := 1000) d4 rfl rfl (by decide) (by decide)
  have s1 : l1 [sc, some (.r 1), some t, o3, o4, o5] M1 = some (.nx [sc, some (.r 1), some t, some (.p (.lst [.int (1 + 2 * (u - 300)), .int (66 + 2 * v), .int (0 - 2 * w)])), o4, o5], M5) :=
    set_ev (lst_ev (es := [iE (1 + 2 * (u - 300)), iE (66 + 2 * v), iE (0 - 2 * w)]) (cons_ev (add_ev (c_ev (d := .int 1)) (mul_ev (c_ev (d := .int 2)) (sub_ev e3 (c_ev (d := .int 300))) (.inl (by decide)))) (cons_ev (add_ev (c_ev (d := .int 66)) (mul_ev (c_ev (d := .int 2)) e4 (.inl (by decide)))) (cons_ev (sub_ev (c_ev (d := .int 0)) (mul_ev (c_ev (d := .int 2)) e5 (.inl (by decide)))) nil_ev))) (by simp) rfl)
  -- wrong
  have hlist : fBin (gAdd false) (fVar 3) (fLst false (fCons (fC (.int 66)) (fCons (fBin (gI2 iPow) (fC (.int 10)) (fC (.int 9))) (fCons (fC (.bl true)) (fCons (fC (.bl false)) (fCons (fC (.str (PySem.Str.ofString "2"))) (fCons (fC .non) (fCons (fLst false (fCons (fC (.int 2)) (fNil))) (fCons (fTup (fCons (fC (.int 2)) (fNil))) (fCons (fFrz (fDict0)) (fCons (fUn gNeg (fC (.int 64))) (fNil)))))))))))) [sc, some (.r 1), some t, some (.p (.lst [.int (1 + 2 * (u - 300)), .int (66 + 2 * v), .int (0 - 2 * w)])), o4, o5] M5 =
      some (.inr (.p (.lst [.int (1 + 2 * (u - 300)), .int (66 + 2 * v), .int (0 - 2 * w), .int 66, .int (10 ^ 9), .bl true, .bl false, .str (PySem.Str.ofString "2"), .non, .lst [.int 2], .tup [.int 2], .dic [], .int (-64)])), M5) := by
    obtain ⟨x5, y5, em5⟩ := two_form d5
    subst em5
    refine bin_ev (var_ev rfl) (lst_ev (es := [iE 66, iE (10 ^ 9), .p (.bl true), .p (.bl false), .p (.str (PySem.Str.ofString "2")), .p .non, .p (.lst [.int 2]), .p (.tup [.int 2]), .p (.dic []), iE (-64)]) (ds := [.int 66, .int (10 ^ 9), .bl true, .bl false, .str (PySem.Str.ofString "2"), .non, .lst [.int 2], .tup [.int 2], .dic [], .int (-64)]) ?_ (by decide) rfl) rfl
    refine cons_ev (M1 := [x5, y5]) rfl (cons_ev (M1 := [x5, y5]) rfl (cons_ev (M1 := [x5, y5]) rfl (cons_ev (M1 := [x5, y5]) rfl (cons_ev (M1 := [x5, y5]) rfl (cons_ev (M1 := [x5, y5]) rfl (cons_ev (M1 := [x5, y5]) rfl (cons_ev (M1 := [x5, y5]) rfl (cons_ev (M1 := [x5, y5]) ?_ (cons_ev (M1 := [x5, y5]) rfl nil_ev)))))))))
    exact frz_ev (e := .r 2) (M1 := [x5, y5, some (.dic [])]) rfl rfl (.inl rfl) rfl
  obtain ⟨p, M6, hp, e6, d6⟩ := pick_ok (ds := [.int (1 + 2 * (u - 300)), .int (66 + 2 * v), .int (0 - 2 * w), .int 66, .int (10 ^ 9), .bl true, .bl false, .str (PySem.Str.ofString "2"), .non, .lst [.int 2], .tup [.int 2], .dic [], .int (-64)]) d5 (by simp) (by simp)
  have s2 : l2 [sc, some (.r 1), some t, some (.p (.lst [.int (1 + 2 * (u - 300)), .int (66 + 2 * v), .int (0 - 2 * w)])), o4, o5] M5 = some (.nx [sc, some (.r 1), some t, some (.p (.lst [.int (1 + 2 * (u - 300)), .int (66 + 2 * v), .int (0 - 2 * w)])), some (.p p), o5], M6) :=
    set_ev (call_ev (cons_ev (var_ev rfl) (cons_ev hlist nil_ev)) rfl e6)
  have bp : BadN 2 64 true (.p p) := by
    simp only [List.mem_cons, List.not_mem_nil, or_false] at hp
    rcases hp with rfl | rfl | rfl | rfl | rfl | rfl | rfl | rfl | rfl | rfl | rfl | rfl | rfl
    · exact .int (.inr (.inr ⟨rfl, by omega⟩))
    · exact .int (.inr (.inl (by omega)))
    · exact .int (.inl (by omega))
    · exact .int (.inr (.inl (by decide)))
    · exact .int (.inr (.inl (by decide)))
    · exact .bl _
    · exact .bl _
    · exact .str _
    · exact .non
    · exact .lst _
    · exact .tup _
    · exact .dic _
    · exact .int (.inl (by decide))
  have s3 : l3 [sc, some (.r 1), some t, some (.p (.lst [.int (1 + 2 * (u - 300)), .int (66 + 2 * v), .int (0 - 2 * w)])), some (.p p), o5] M6 = some (.nx [sc, some (.r 1), some t, some (.p (.lst [.int (1 + 2 * (u - 300)), .int (66 + 2 * v), .int (0 - 2 * w)])), some (.p p), o5], M6) :=
    (if_f (not_ev (tst_ev (lam_told bp)))).trans rfl
  generalize ([.int (1 + 2 * (u - 300)), .int (66 + 2 * v), .int (0 - 2 * w)] : List PD) = O at *
  -- none
  obtain ⟨u2, M7, e7, u20, u21, d7⟩ := take_two (ρ := [sc, some (.r 1), some t, some (.p (.lst O)), some (.p p), o5]) (fn := fC (.int 100)) (n := 100) d6 rfl rfl (by decide) (by decide)
  obtain ⟨v2, M8, e8, v20, v21, d8⟩ := take_two (ρ := [sc, some (.r 1), some t, some (.p (.lst O)), some (.p p), o5]) (fn := fC (.int 100)) (n := 100) d7 rfl rfl (by decide) (by decide)
  have s4 : l4 [sc, some (.r 1), some t, some (.p (.lst O)), some (.p p), o5] M6 = some (.nx [sc, some (.r 1), some t, some (.p (.lst [.int (7 + u2), .int (0 - v2), .int 7, .bl true, .str (PySem.Str.ofString "a"), .non, .lst [.int 1], .int (10 ^ 9), .bl false, .tup [.int 1, .int 2]])), some (.p p), o5], M8) :=
    set_ev (lst_ev (es := [iE (7 + u2), iE (0 - v2), iE 7, .p (.bl true), .p (.str (PySem.Str.ofString "a")), .p .non, .p (.lst [.int 1]), iE (10 ^ 9), .p (.bl false), .p (.tup [.int 1, .int 2])]) (cons_ev (add_ev (c_ev (d := .int 7)) e7) (cons_ev (sub_ev (c_ev (d := .int 0)) e8) rfl)) (by simp) rfl)
  obtain ⟨q, M9, hq, e9, d9⟩ := pick_ok (ds := [.int (7 + u2), .int (0 - v2), .int 7, .bl true, .str (PySem.Str.ofString "a"), .non, .lst [.int 1], .int (10 ^ 9), .bl false, .tup [.int 1, .int 2]]) d8 (by simp) (by simp)
  have s5 : l5 [sc, some (.r 1), some t, some (.p (.lst [.int (7 + u2), .int (0 - v2), .int 7, .bl true, .str (PySem.Str.ofString "a"), .non, .lst [.int 1], .int (10 ^ 9), .bl false, .tup [.int 1, .int 2]])), some (.p p), o5] M8 = some (.nx [sc, some (.r 1), some t, some (.p (.lst [.int (7 + u2), .int (0 - v2), .int 7, .bl true, .str (PySem.Str.ofString "a"), .non, .lst [.int 1], .int (10 ^ 9), .bl false, .tup [.int 1, .int 2]])), some (.p p), some (.p q)], M9) :=
    set_ev (call_ev (cons_ev (var_ev rfl) (cons_ev (var_ev rfl) nil_ev)) rfl e9)
  have bq : BadN 1 6 false (.p q) := by
    simp only [List.mem_cons, List.not_mem_nil, or_false] at hq
    rcases hq with rfl | rfl | rfl | rfl | rfl | rfl | rfl | rfl | rfl | rfl
    · exact .int (.inr (.inl (by omega)))
    · exact .int (.inl (by omega))
    · exact .int (.inr (.inl (by decide)))
    · exact .bl _
    · exact .str _
    · exact .non
    · exact .lst _
    · exact .int (.inr (.inl (by decide)))
    · exact .bl _
    · exact .tup _
  generalize ([.int (7 + u2), .int (0 - v2), .int 7, .bl true, .str (PySem.Str.ofString "a"), .non, .lst [.int 1], .int (10 ^ 9), .bl false, .tup [.int 1, .int 2]] : List PD) = O2 at *
  -- the group
  obtain ⟨n, MA, eA, n0, n1, dA⟩ := take_two (ρ := [sc, some (.r 1), some t, some (.p (.lst O2)), some (.p p), some (.p q)]) (fn := fC (.int 6)) (n := 6) d9 rfl rfl (by decide) (by decide)
  have gr : F__law_group_right [iE (1 + n)] MA = some (.inr (.p (.bl true)), MA) := by
    obtain ⟨xa, ya, ea⟩ := two_form dA
    subst ea
    have := group_right xa ya (1 + n.toNat) (by omega) (by omega)
    rw [show ((1 + n.toNat : Nat) : Int) = 1 + n by omega] at this
    exact this
  have f2 : fFrz (fCall 1 F__law_group_right [] (fCons (fBin (gAdd false) (fC (.int 1)) (fCall 2 F__law_take [] (fCons (fVar 1) (fCons (fC (.int 6)) (fNil))))) (fNil))) [sc, some (.r 1), some t, some (.p (.lst O2)), some (.p p), some (.p q)] M9 = some (.inr (.p (.bl true)), MA) :=
    frz_ev (call_ev (cons_ev (add_ev (c_ev (d := .int 1)) eA) nil_ev) rfl gr) (by rw [d9.1, ← dA.1, List.take_length]) (.inr (by rw [d9.1]; exact dr_below dA.1 dA.2)) rfl
  have s6 : l6 [sc, some (.r 1), some t, some (.p (.lst O2)), some (.p p), some (.p q)] M9 = some (.nx [sc, some (.r 1), some t, some (.p (.lst O2)), some (.p p), some (.p q)], MA) :=
    (if_f (or_f (not_ev (tst_ev (lam_group bq))) (not_ev (tst_ev f2)))).trans rfl
  refine ⟨some (.p (.lst O2)), some (.p p), some (.p q), MA, ?_, dA⟩
  show gSeq l0 (gSeq l1 (gSeq l2 (gSeq l3 (gSeq l4 (gSeq l5 l6))))) [sc, some (.r 1), some t, o3, o4, o5] M = _
  rw [seq_ev s0, seq_ev s1, seq_ev s2, seq_ev s3, seq_ev s4, seq_ev s5]
  exact s6
theorem turns_ok {sc : Option E} {n : Nat} : ∀ (m j : Nat) (M : Store) (o2 o3 o4 o5 : Option E), j + m = n → Two M → ∃ p2 p3 p4 p5 M', forN (fixIt (rangeE 0 n)) (gtName 2) gL m j [sc, some (.r 1), o2, o3, o4, o5] M = some (.nx [sc, some (.r 1), p2, p3, p4, p5], M') ∧ Two M' := by
  intro m
  induction m with
  | zero =>
    intro j M o2 o3 o4 o5 h d
    exact ⟨o2, o3, o4, o5, M, rfl, d⟩
  | succ m ih =>
    intro j M o2 o3 o4 o5 h d
    have hj : j < (rangeE 0 n).length := by simp [rangeE]; omega
    obtain ⟨a, b, c, M1, e1, d1⟩ := turn_ok (sc := sc) (o3 := o3) (o4 := o4) (o5 := o5) (t := (rangeE 0 n)[j]) d
    obtain ⟨p2, p3, p4, p5, M', e2, d2⟩ := ih (j + 1) M1 (some (rangeE 0 n)[j]) a b c (by omega) d1
    refine ⟨p2, p3, p4, p5, M', ?_, d2⟩
    unfold forN
    rw [show (fixIt (rangeE 0 n)).get j M = some (rangeE 0 n)[j] from List.getElem?_eq_getElem hj]
    show (match gL [sc, some (.r 1), some (rangeE 0 n)[j], o3, o4, o5] M with | some (.nx ρ2, M2) => forN (fixIt (rangeE 0 n)) (gtName 2) gL m (j + 1) ρ2 M2 | some (.ct ρ2, M2) => forN (fixIt (rangeE 0 n)) (gtName 2) gL m (j + 1) ρ2 M2 | some (.bk ρ2, M2) => some (.nx ρ2, M2) | r => r) = _
    rw [e1]
    exact e2
theorem begun_two (ns : List Int) (hl : ns.length ≤ 63) : ∃ M', F__law_begun [.p (.scr (ns.map .int))] [] = some (.inr (.r 1), M') ∧ Two M' := begun_ok2 ns hl
theorem law_true : ∀ ns : List Int, ns.length ≤ 63 → (∀ i ∈ ns, Builtin.Int.intBits i ≤ 1048576) → ∃ M', F_law [.p (.scr (ns.map .int))] [] = some (.inr (.p (.bl true)), M') := by
  intro ns hl _
  obtain ⟨M1, e1, d1⟩ := begun_two ns hl
  let k : Int := if (if (ns.length : Int) < 8 then (ns.length : Int) else 8) > 1 then (if (ns.length : Int) < 8 then (ns.length : Int) else 8) else 1
  let n : Nat := k.toNat
  let sc : Option E := some (.p (.scr (ns.map .int)))
  obtain ⟨p2, p3, p4, p5, M2, e2, d2⟩ := turns_ok (sc := sc) (n := n) n 0 M1 none none none none (by omega) d1
  have it : lIt [sc, some (.r 1), none, none, none, none] M1 = some (.inr (fixIt (rangeE 0 n)), M1) := by
    have l1 : fCallB gLenA (fCons (fVar 0) (fNil)) [sc, some (.r 1), none, none, none, none] M1 = some (.inr (iE ns.length), M1) := by
      refine callB_ev (cons_ev (var_ev rfl) nil_ev) ?_
      show some (E.p (.int ((ns.map PD.int).length : Int)), M1) = _
      rw [List.length_map]; rfl
    have l2 : fCallB gMin2 (fCons (fC (.int 8)) (fCons (fCallB gLenA (fCons (fVar 0) (fNil))) (fNil))) [sc, some (.r 1), none, none, none, none] M1 = some (.inr (iE (if (ns.length : Int) < 8 then (ns.length : Int) else 8)), M1) :=
      callB_ev (cons_ev (c_ev (d := .int 8)) (cons_ev l1 nil_ev)) rfl
    have l3 : fCallB gMax2 (fCons (fC (.int 1)) (fCons (fCallB gMin2 (fCons (fC (.int 8)) (fCons (fCallB gLenA (fCons (fVar 0) (fNil))) (fNil)))) (fNil))) [sc, some (.r 1), none, none, none, none] M1 = some (.inr (iE k), M1) :=
      callB_ev (cons_ev (c_ev (d := .int 1)) (cons_ev l2 nil_ev)) rfl
    show fItA rngIt1 _ _ _ = _
    unfold fItA
    rw [cons_ev l3 nil_ev]
    show (match (if okR k = true then some (fixIt (rangeE 0 k.toNat)) else none) with | some t => some (Sum.inr t, M1) | none => none) = _
    rw [if_pos]
    unfold okR
    simp only [Bool.and_eq_true, decide_eq_true_eq]
    simp only [k]
    split <;> split <;> omega
  refine ⟨M2, fn_rt (N := 6) (es := [.p (.scr (ns.map .int))]) ?_⟩
  show B_law [sc, none, none, none, none, none] [] = _
  have s1 : gSet 1 (fCall 1 F__law_begun [] (fCons (fVar 0) (fNil))) [sc, none, none, none, none, none] [] = some (.nx [sc, some (.r 1), none, none, none, none], M1) := set_ev (call_ev (cons_ev (var_ev rfl) nil_ev) rfl e1)
  have s2 : lFor [sc, some (.r 1), none, none, none, none] M1 = some (.nx [sc, some (.r 1), p2, p3, p4, p5], M2) := by
    show gFor lIt (gtName 2) gL [sc, some (.r 1), none, none, none, none] M1 = _
    unfold gFor
    rw [it]
    show forN (fixIt (rangeE 0 n)) (gtName 2) gL (rangeE 0 n).length 0 [sc, some (.r 1), none, none, none, none] M1 = _
    rw [show (rangeE 0 n).length = n by simp [rangeE]]
    exact e2
  show gSeq (gSet 1 (fCall 1 F__law_begun [] (fCons (fVar 0) (fNil)))) (gSeq lFor (gRet (fC (.bl true)))) [sc, none, none, none, none, none] [] = _
  rw [seq_ev s1, seq_ev s2]
  rfl
end
end K14

-- Hk14
set_option maxHeartbeats 4000000
namespace K14
open PySem PySem.Spec L2 Pl
theorem kb_round_group {s : Shared} {kV doc pm cdv ct : Value} {an : Option Addr} : ∀ (us ws : List Value), (us ++ ws).length = (["many"] : List Str).length → BindsTo s (PySem.W.fnOf "round_group" "round_group" (defArgs (top 37)) (defBody (top 37)) (defScope (top 37)) .none kV doc pm an cdv ct) ⟨us, (["many"] : List Str).zip ws⟩ ((["many"] : List Str).zip (us ++ ws))
  | [], [_], _ => .of_eq rfl
  | [_], [], _ => .of_eq rfl
  | [], [], h => by simp at h
  | [], _ :: _ :: _, h => by simp at h
  | [_], _ :: _, h => by simp at h
  | _ :: _ :: _, _, h => by simp at h
theorem kb_told_rounds {s : Shared} {kV doc pm cdv ct : Value} {an : Option Addr} : ∀ (us ws : List Value), (us ++ ws).length = (["many"] : List Str).length → BindsTo s (PySem.W.fnOf "told_rounds" "told_rounds" (defArgs (top 36)) (defBody (top 36)) (defScope (top 36)) .none kV doc pm an cdv ct) ⟨us, (["many"] : List Str).zip ws⟩ ((["many"] : List Str).zip (us ++ ws))
  | [], [_], _ => .of_eq rfl
  | [_], [], _ => .of_eq rfl
  | [], [], h => by simp at h
  | [], _ :: _ :: _, h => by simp at h
  | [_], _ :: _, h => by simp at h
  | _ :: _ :: _, _, h => by simp at h
theorem kb_Group_1 {K : PySem.W.Frag} {f : Addr} {fd : FuncData} {T1 T2 : V} (F : FunD K "__init__" "Group.__init__" (defArgs (mth 31 0)) (defBody (mth 31 0)) (defScope (mth 31 0)) [] [("leaves", T1), ("barred", T2)] f fd) :
    ∃ mv : List Value, KBn K fd ["self", "held", "leaves", "barred"] 2 [] (fun us ws => us ++ mv) (fun vs zs => vs ++ [T1, T2]) :=
  FunD.kbinds0 F 2 [] [("leaves", T1), ("barred", T2)] (fun us mv _ => us ++ mv) (by simp) (fun q h => h) (fun r1 r2 _ => r1.append r2) fun D doc pm an cdv ct us mv ws h1 h2 h3 =>
    match us, mv, ws with
    | [_, _], [_, _], [] => ⟨_, _, _, _, _, _, rfl, rfl, ⟨_, _, _, _, _, _, rfl, rfl, rfl⟩⟩
theorem mk_rel_Group_1 {z : Bz} {T1 T2 : Addr} {o1 o2 : Option Addr} {n1 n2 : Nat} {s1 s2 : Array (Option Value)} (h1 : z.K.lookup T1 = some ⟨.type "tuple", o1, .seq #[] n1, s1⟩) (h2 : z.K.lookup T2 = some ⟨.type "tuple", o2, .seq #[] n2, s2⟩) {W : Wd} {vs zs : List V} {es ds : List E} (r1 : REs z W vs es) (r2 : REs z W zs ds) :
    REs z W (vs ++ [V.ref T1, V.ref T2]) (gmk_Group_1 es ds) :=
  paired_app r1 (.cons (.p (.tup (.inr ⟨_, #[], _, h1, rfl, rfl, by decide, .nil⟩) (by decide) .nil)) (.cons (.p (.tup (.inr ⟨_, #[], _, h2, rfl, rfl, by decide, .nil⟩) (by decide) .nil)) .nil))
theorem vE {K : PySem.W.Frag} {ca : Nat → Addr} {i : Nat} {t : String} {b : Bool} (q : ct.sub (.c i) (.b t) = some b) (hv : PySem.W.kitOne K (.ref (ca 10)) (.type "ValueError") = some true) : PySem.W.kitOne K (.ref (ca i)) (.type t) = some b := by
  have q : errSub i t = some b := q
  unfold errSub at q
  by_cases hc : i = 10 ∧ t = "ValueError"
  · rw [if_pos hc] at q
    cases q
    rw [hc.1, hc.2]
    exact hv
  · rw [if_neg hc] at q
    cases q
theorem own_ok {K : PySem.W.Frag} {c : Value} {ca : Nat → Addr} (s0 : PySem.W.kitOne K c (.ref (ca 0)) = some true) (s1 : PySem.W.kitOne K c (.ref (ca 1)) = some false) (s2 : PySem.W.kitOne K c (.ref (ca 2)) = some false) (s3 : PySem.W.kitOne K c (.ref (ca 3)) = some false) (s4 : PySem.W.kitOne K c (.ref (ca 4)) = some false) (s5 : PySem.W.kitOne K c (.ref (ca 5)) = some false) (s6 : PySem.W.kitOne K c (.ref (ca 6)) = some false) (s7 : PySem.W.kitOne K c (.ref (ca 7)) = some false) (s8 : PySem.W.kitOne K c (.ref (ca 8)) = some false) (s9 : PySem.W.kitOne K c (.ref (ca 9)) = some false) (s10 : PySem.W.kitOne K c (.ref (ca 10)) = some true) (s11 : PySem.W.kitOne K c (.ref (ca 11)) = some false) (s12 : PySem.W.kitOne K c (.ref (ca 12)) = some false) (s13 : PySem.W.kitOne K c (.ref (ca 13)) = some false) (s14 : PySem.W.kitOne K c (.ref (ca 14)) = some false) (s15 : PySem.W.kitOne K c (.ref (ca 15)) = some false) (s16 : PySem.W.kitOne K c (.ref (ca 16)) = some false) : ∀ {j : Nat}, j < 17 → PySem.W.kitOne K c (.ref (ca j)) = some (j == 10 || j == 0)
  | 0, _ => s0
  | 1, _ => s1
  | 2, _ => s2
  | 3, _ => s3
  | 4, _ => s4
  | 5, _ => s5
  | 6, _ => s6
  | 7, _ => s7
  | 8, _ => s8
  | 9, _ => s9
  | 10, _ => s10
  | 11, _ => s11
  | 12, _ => s12
  | 13, _ => s13
  | 14, _ => s14
  | 15, _ => s15
  | 16, _ => s16
  | j + 17, h => absurd h (by omega)
def subs (z : Bz) : Prop := PySem.W.kitOne z.K (.ref (z.ca 10)) (.ref (z.ca 0)) = some true ∧ PySem.W.kitOne z.K (.ref (z.ca 10)) (.ref (z.ca 1)) = some false ∧ PySem.W.kitOne z.K (.ref (z.ca 10)) (.ref (z.ca 2)) = some false ∧ PySem.W.kitOne z.K (.ref (z.ca 10)) (.ref (z.ca 3)) = some false ∧ PySem.W.kitOne z.K (.ref (z.ca 10)) (.ref (z.ca 4)) = some false ∧ PySem.W.kitOne z.K (.ref (z.ca 10)) (.ref (z.ca 5)) = some false ∧ PySem.W.kitOne z.K (.ref (z.ca 10)) (.ref (z.ca 6)) = some false ∧ PySem.W.kitOne z.K (.ref (z.ca 10)) (.ref (z.ca 7)) = some false ∧ PySem.W.kitOne z.K (.ref (z.ca 10)) (.ref (z.ca 8)) = some false ∧ PySem.W.kitOne z.K (.ref (z.ca 10)) (.ref (z.ca 9)) = some false ∧ PySem.W.kitOne z.K (.ref (z.ca 10)) (.ref (z.ca 10)) = some true ∧ PySem.W.kitOne z.K (.ref (z.ca 10)) (.ref (z.ca 11)) = some false ∧ PySem.W.kitOne z.K (.ref (z.ca 10)) (.ref (z.ca 12)) = some false ∧ PySem.W.kitOne z.K (.ref (z.ca 10)) (.ref (z.ca 13)) = some false ∧ PySem.W.kitOne z.K (.ref (z.ca 10)) (.ref (z.ca 14)) = some false ∧ PySem.W.kitOne z.K (.ref (z.ca 10)) (.ref (z.ca 15)) = some false ∧ PySem.W.kitOne z.K (.ref (z.ca 10)) (.ref (z.ca 16)) = some false
theorem sub_ok {z : Bz} (h : subs z) (hv : PySem.W.kitOne z.K (.ref (z.ca 10)) (.type "ValueError") = some true) (hG : PySem.W.kitOne z.K (.ref (z.ca 17)) (.ref (z.ca 17)) = some true) {t u : Tg} {b : Bool} (q : ct.sub t u = some b) : PySem.W.kitOne z.K (tgV z t) (tgV z u) = some b := by
  obtain ⟨s0, s1, s2, s3, s4, s5, s6, s7, s8, s9, s10, s11, s12, s13, s14, s15, s16⟩ := h
  cases t with
  | b s =>
    cases u with
    | b t =>
      have q : (bltSub.find? fun p => p.1 == s && p.2.1 == t).map (·.2.2) = some b := q
      cases hf : bltSub.find? fun p => p.1 == s && p.2.1 == t with
      | none => rw [hf] at q; cases q
      | some p =>
        rw [hf] at q
        cases q
        have h1 := List.find?_some hf
        have h2 := List.mem_of_find?_eq_some hf
        simp only [Bool.and_eq_true, beq_iff_eq] at h1
        obtain ⟨rfl, rfl⟩ := h1
        have all : ∀ p ∈ bltSub, kitB p.1 p.2.1 = some p.2.2 := by decide +kernel
        exact kit_ty (all p h2)
    | c j => cases q
  | c i =>
    cases u with
    | b t =>
      exact vE q hv
    | c j =>
      have q : (if i = 17 ∧ j = 17 then some true else ownSub i j) = some b := q
      by_cases hG2 : i = 17 ∧ j = 17
      · rw [if_pos hG2] at q
        cases q
        rw [hG2.1, hG2.2]
        exact hG
      rw [if_neg hG2] at q
      unfold ownSub at q
      by_cases hc : i = 10 ∧ j < 17
      · rw [if_pos hc] at q
        cases q
        rw [hc.1]
        exact own_ok s0 s1 s2 s3 s4 s5 s6 s7 s8 s9 s10 s11 s12 s13 s14 s15 s16 hc.2
      · rw [if_neg hc] at q
        cases q
theorem law_at {l : PySem.W.OpenLaw} {w : World} {K : PySem.W.Frag} {h : Heap} {mg : Str → Option Value} {fa cc P : Addr} {tk_MOST_PAGES tk_MOST_PEOPLE_groups tk_MOST_PEOPLE_rounds tk_MOST_SIGNS tk_MOST_TOLD tk_SIGNS : Tok} {tn32000_0 tn32000_1 : Nat} {C0 C1 C2 C3 C4 C5 C6 C7 C8 C9 C10 C11 C12 C13 C14 C15 C16 C17 : Addr} {f24 f25 f26 f28 f27 f29 f30 f32000 T32000_0 T32000_1 f32001 f32002 f32003 f32005 f32006 f32011 f36 f37 f39 f40 f41 f43 f44 f45 f42 f46 D32000 : Addr} {od24 an24 od25 an25 od26 an26 od28 an28 od27 an27 od29 an29 od30 an30 od32000 an32000 tod32000_0 tod32000_1 od32001 an32001 od32002 an32002 od32003 an32003 od32005 an32005 od32006 an32006 od32011 an32011 od36 an36 od37 an37 od39 an39 od40 an40 od41 an41 od43 an43 od44 an44 od45 an45 od42 an42 od46 an46 : Option Addr} {sl24 sl25 sl26 sl28 sl27 sl29 sl30 sl32000 tsl32000_0 tsl32000_1 sl32001 sl32002 sl32003 sl32005 sl32006 sl32011 sl36 sl37 sl39 sl40 sl41 sl43 sl44 sl45 sl42 sl46 : Array (Option Value)} {oc24 dc24 pm24 ct24 cd24 kV24 oc25 dc25 pm25 ct25 cd25 kV25 oc26 dc26 pm26 ct26 cd26 kV26 oc28 dc28 pm28 ct28 cd28 kV28 oc27 dc27 pm27 ct27 cd27 kV27 oc29 dc29 pm29 ct29 cd29 kV29 oc30 dc30 pm30 ct30 cd30 kV30 oc32000 dc32000 pm32000 ct32000 cd32000 oc32001 dc32001 pm32001 ct32001 cd32001 kV32001 oc32002 dc32002 pm32002 ct32002 cd32002 kV32002 oc32003 dc32003 pm32003 ct32003 cd32003 kV32003 oc32005 dc32005 pm32005 ct32005 cd32005 kV32005 oc32006 dc32006 pm32006 ct32006 cd32006 kV32006 oc32011 dc32011 pm32011 ct32011 cd32011 kV32011 oc36 dc36 pm36 ct36 cd36 kV36 oc37 dc37 pm37 ct37 cd37 kV37 oc39 dc39 pm39 ct39 cd39 kV39 oc40 dc40 pm40 ct40 cd40 kV40 oc41 dc41 pm41 ct41 cd41 kV41 oc43 dc43 pm43 ct43 cd43 kV43 oc44 dc44 pm44 ct44 cd44 kV44 oc45 dc45 pm45 ct45 cd45 kV45 oc42 dc42 pm42 ct42 cd42 kV42 oc46 dc46 pm46 ct46 kV46 : Value} (X : K.In h) (G : h.Ns mainGlobals mg) (hfa : mg "law" = some (.ref fa))
    (hT : h.get? P = some { cls := .none, data := .fields #[] })
    (zb_ValueError : PySem.W.nsIn K mainGlobals "ValueError" = some none)
    (zb_abs : PySem.W.nsIn K mainGlobals "abs" = some none)
    (zb_all : PySem.W.nsIn K mainGlobals "all" = some none)
    (zb_bool : PySem.W.nsIn K mainGlobals "bool" = some none)
    (zb_dict : PySem.W.nsIn K mainGlobals "dict" = some none)
    (zb_int : PySem.W.nsIn K mainGlobals "int" = some none)
    (zb_isinstance : PySem.W.nsIn K mainGlobals "isinstance" = some none)
    (zb_len : PySem.W.nsIn K mainGlobals "len" = some none)
    (zb_list : PySem.W.nsIn K mainGlobals "list" = some none)
    (zb_max : PySem.W.nsIn K mainGlobals "max" = some none)
    (zb_min : PySem.W.nsIn K mainGlobals "min" = some none)
    (zb_range : PySem.W.nsIn K mainGlobals "range" = some none)
    (zb_sorted : PySem.W.nsIn K mainGlobals "sorted" = some none)
    (zb_str : PySem.W.nsIn K mainGlobals "str" = some none)
    (zb_tuple : PySem.W.nsIn K mainGlobals "tuple" = some none)
    (zc_HandError : PySem.W.nsIn K mainGlobals "HandError" = some (some (.ref C0)))
    (zc_BadGroup : PySem.W.nsIn K mainGlobals "BadGroup" = some (some (.ref C1)))
    (zc_NoName : PySem.W.nsIn K mainGlobals "NoName" = some (some (.ref C2)))
    (zc_NoPerson : PySem.W.nsIn K mainGlobals "NoPerson" = some (some (.ref C3)))
    (zc_NoPage : PySem.W.nsIn K mainGlobals "NoPage" = some (some (.ref C4)))
    (zc_Twice : PySem.W.nsIn K mainGlobals "Twice" = some (some (.ref C5)))
    (zc_Barred : PySem.W.nsIn K mainGlobals "Barred" = some (some (.ref C6)))
    (zc_Idle : PySem.W.nsIn K mainGlobals "Idle" = some (some (.ref C7)))
    (zc_Uneven : PySem.W.nsIn K mainGlobals "Uneven" = some (some (.ref C8)))
    (zc_NoCall : PySem.W.nsIn K mainGlobals "NoCall" = some (some (.ref C9)))
    (zc_NoNumber : PySem.W.nsIn K mainGlobals "NoNumber" = some (some (.ref C10)))
    (zc_NoWay : PySem.W.nsIn K mainGlobals "NoWay" = some (some (.ref C11)))
    (zc_TooMany : PySem.W.nsIn K mainGlobals "TooMany" = some (some (.ref C12)))
    (zc_Spoils : PySem.W.nsIn K mainGlobals "Spoils" = some (some (.ref C13)))
    (zc_NoDeed : PySem.W.nsIn K mainGlobals "NoDeed" = some (some (.ref C14)))
    (zc_NoBack : PySem.W.nsIn K mainGlobals "NoBack" = some (some (.ref C15)))
    (zc_NoText : PySem.W.nsIn K mainGlobals "NoText" = some (some (.ref C16)))
    (zc_Group : PySem.W.nsIn K mainGlobals "Group" = some (some (.ref C17)))
    (zk_MOST_PAGES : PySem.W.nsIn K mainGlobals "MOST_PAGES" = some (some (.int 12 tk_MOST_PAGES)))
    (zk_MOST_PEOPLE_groups : PySem.W.nsIn K mainGlobals "MOST_PEOPLE_groups" = some (some (.int 6 tk_MOST_PEOPLE_groups)))
    (zk_MOST_PEOPLE_rounds : PySem.W.nsIn K mainGlobals "MOST_PEOPLE_rounds" = some (some (.int 6 tk_MOST_PEOPLE_rounds)))
    (zk_MOST_SIGNS : PySem.W.nsIn K mainGlobals "MOST_SIGNS" = some (some (.int 6 tk_MOST_SIGNS)))
    (zk_MOST_TOLD : PySem.W.nsIn K mainGlobals "MOST_TOLD" = some (some (.int 64 tk_MOST_TOLD)))
    (zt_SIGNS : PySem.W.nsIn K mainGlobals "SIGNS" = some (some (.str (PySem.Str.ofString "abcdef") tk_SIGNS)))
    (za24 : PySem.W.nsIn K mainGlobals "is_name" = some (some (.ref f24)))
    (zl24 : K.lookup f24 = some ⟨oc24, od24, .func (PySem.W.fnOf "is_name" "is_name" (defArgs (top 24)) (defBody (top 24)) (defScope (top 24)) .none kV24 dc24 pm24 an24 cd24 ct24), sl24⟩)
    (zd24 : PySem.W.codeIn K cd24 "is_name" = true)
    (ze24 : PySem.W.keepIn K (.ref f24) = true)
    (za25 : PySem.W.nsIn K mainGlobals "is_whole" = some (some (.ref f25)))
    (zl25 : K.lookup f25 = some ⟨oc25, od25, .func (PySem.W.fnOf "is_whole" "is_whole" (defArgs (top 25)) (defBody (top 25)) (defScope (top 25)) .none kV25 dc25 pm25 an25 cd25 ct25), sl25⟩)
    (zd25 : PySem.W.codeIn K cd25 "is_whole" = true)
    (ze25 : PySem.W.keepIn K (.ref f25) = true)
    (za26 : PySem.W.nsIn K mainGlobals "are_unlike_names" = some (some (.ref f26)))
    (zl26 : K.lookup f26 = some ⟨oc26, od26, .func (PySem.W.fnOf "are_unlike_names" "are_unlike_names" (defArgs (top 26)) (defBody (top 26)) (defScope (top 26)) .none kV26 dc26 pm26 an26 cd26 ct26), sl26⟩)
    (zd26 : PySem.W.codeIn K cd26 "are_unlike_names" = true)
    (ze26 : PySem.W.keepIn K (.ref f26) = true)
    (za28 : PySem.W.nsIn K mainGlobals "pages_in" = some (some (.ref f28)))
    (zl28 : K.lookup f28 = some ⟨oc28, od28, .func (PySem.W.fnOf "pages_in" "pages_in" (defArgs (top 28)) (defBody (top 28)) (defScope (top 28)) .none kV28 dc28 pm28 an28 cd28 ct28), sl28⟩)
    (zd28 : PySem.W.codeIn K cd28 "pages_in" = true)
    (ze28 : PySem.W.keepIn K (.ref f28) = true)
    (za27 : PySem.W.nsIn K mainGlobals "is_held" = some (some (.ref f27)))
    (zl27 : K.lookup f27 = some ⟨oc27, od27, .func (PySem.W.fnOf "is_held" "is_held" (defArgs (top 27)) (defBody (top 27)) (defScope (top 27)) .none kV27 dc27 pm27 an27 cd27 ct27), sl27⟩)
    (zd27 : PySem.W.codeIn K cd27 "is_held" = true)
    (ze27 : PySem.W.keepIn K (.ref f27) = true)
    (za29 : PySem.W.nsIn K mainGlobals "leaves_told" = some (some (.ref f29)))
    (zl29 : K.lookup f29 = some ⟨oc29, od29, .func (PySem.W.fnOf "leaves_told" "leaves_told" (defArgs (top 29)) (defBody (top 29)) (defScope (top 29)) .none kV29 dc29 pm29 an29 cd29 ct29), sl29⟩)
    (zd29 : PySem.W.codeIn K cd29 "leaves_told" = true)
    (ze29 : PySem.W.keepIn K (.ref f29) = true)
    (za30 : PySem.W.nsIn K mainGlobals "bars_told" = some (some (.ref f30)))
    (zl30 : K.lookup f30 = some ⟨oc30, od30, .func (PySem.W.fnOf "bars_told" "bars_told" (defArgs (top 30)) (defBody (top 30)) (defScope (top 30)) .none kV30 dc30 pm30 an30 cd30 ct30), sl30⟩)
    (zd30 : PySem.W.codeIn K cd30 "bars_told" = true)
    (ze30 : PySem.W.keepIn K (.ref f30) = true)
    (za32000 : PySem.W.findIn K (.ref C17) "__init__" = some (some (.ref f32000)))
    (zl32000 : K.lookup f32000 = some ⟨oc32000, od32000, .func (PySem.W.fnOf "__init__" "Group.__init__" (defArgs (mth 31 0)) (defBody (mth 31 0)) (defScope (mth 31 0)) .none (.ref D32000) dc32000 pm32000 an32000 cd32000 ct32000), sl32000⟩)
    (zd32000 : PySem.W.codeIn K cd32000 "Group.__init__" = true)
    (ze32000 : PySem.W.keepIn K (.ref f32000) = true)
    (zf32000 : PySem.W.isFn K (.ref f32000) = true)
    (zw32000_0 : PySem.W.nsIn K D32000 "leaves" = some (some (.ref T32000_0)))
    (zx32000_0 : K.lookup T32000_0 = some ⟨.type "tuple", tod32000_0, .seq #[] tn32000_0, tsl32000_0⟩)
    (zw32000_1 : PySem.W.nsIn K D32000 "barred" = some (some (.ref T32000_1)))
    (zx32000_1 : K.lookup T32000_1 = some ⟨.type "tuple", tod32000_1, .seq #[] tn32000_1, tsl32000_1⟩)
    (za32001 : PySem.W.findIn K (.ref C17) "people" = some (some (.ref f32001)))
    (zl32001 : K.lookup f32001 = some ⟨oc32001, od32001, .func (PySem.W.fnOf "people" "Group.people" (defArgs (mth 31 1)) (defBody (mth 31 1)) (defScope (mth 31 1)) .none kV32001 dc32001 pm32001 an32001 cd32001 ct32001), sl32001⟩)
    (zd32001 : PySem.W.codeIn K cd32001 "Group.people" = true)
    (ze32001 : PySem.W.keepIn K (.ref f32001) = true)
    (zf32001 : PySem.W.isFn K (.ref f32001) = true)
    (za32002 : PySem.W.findIn K (.ref C17) "pages" = some (some (.ref f32002)))
    (zl32002 : K.lookup f32002 = some ⟨oc32002, od32002, .func (PySem.W.fnOf "pages" "Group.pages" (defArgs (mth 31 2)) (defBody (mth 31 2)) (defScope (mth 31 2)) .none kV32002 dc32002 pm32002 an32002 cd32002 ct32002), sl32002⟩)
    (zd32002 : PySem.W.codeIn K cd32002 "Group.pages" = true)
    (ze32002 : PySem.W.keepIn K (.ref f32002) = true)
    (zf32002 : PySem.W.isFn K (.ref f32002) = true)
    (za32003 : PySem.W.findIn K (.ref C17) "held" = some (some (.ref f32003)))
    (zl32003 : K.lookup f32003 = some ⟨oc32003, od32003, .func (PySem.W.fnOf "held" "Group.held" (defArgs (mth 31 3)) (defBody (mth 31 3)) (defScope (mth 31 3)) .none kV32003 dc32003 pm32003 an32003 cd32003 ct32003), sl32003⟩)
    (zd32003 : PySem.W.codeIn K cd32003 "Group.held" = true)
    (ze32003 : PySem.W.keepIn K (.ref f32003) = true)
    (zf32003 : PySem.W.isFn K (.ref f32003) = true)
    (za32005 : PySem.W.findIn K (.ref C17) "leaves" = some (some (.ref f32005)))
    (zl32005 : K.lookup f32005 = some ⟨oc32005, od32005, .func (PySem.W.fnOf "leaves" "Group.leaves" (defArgs (mth 31 5)) (defBody (mth 31 5)) (defScope (mth 31 5)) .none kV32005 dc32005 pm32005 an32005 cd32005 ct32005), sl32005⟩)
    (zd32005 : PySem.W.codeIn K cd32005 "Group.leaves" = true)
    (ze32005 : PySem.W.keepIn K (.ref f32005) = true)
    (zf32005 : PySem.W.isFn K (.ref f32005) = true)
    (za32006 : PySem.W.findIn K (.ref C17) "barred" = some (some (.ref f32006)))
    (zl32006 : K.lookup f32006 = some ⟨oc32006, od32006, .func (PySem.W.fnOf "barred" "Group.barred" (defArgs (mth 31 6)) (defBody (mth 31 6)) (defScope (mth 31 6)) .none kV32006 dc32006 pm32006 an32006 cd32006 ct32006), sl32006⟩)
    (zd32006 : PySem.W.codeIn K cd32006 "Group.barred" = true)
    (ze32006 : PySem.W.keepIn K (.ref f32006) = true)
    (zf32006 : PySem.W.isFn K (.ref f32006) = true)
    (za32011 : PySem.W.findIn K (.ref C17) "__eq__" = some (some (.ref f32011)))
    (zl32011 : K.lookup f32011 = some ⟨oc32011, od32011, .func (PySem.W.fnOf "__eq__" "Group.__eq__" (defArgs (mth 31 11)) (defBody (mth 31 11)) (defScope (mth 31 11)) .none kV32011 dc32011 pm32011 an32011 cd32011 ct32011), sl32011⟩)
    (zd32011 : PySem.W.codeIn K cd32011 "Group.__eq__" = true)
    (ze32011 : PySem.W.keepIn K (.ref f32011) = true)
    (zf32011 : PySem.W.isFn K (.ref f32011) = true)
    (za36 : PySem.W.nsIn K mainGlobals "told_rounds" = some (some (.ref f36)))
    (zl36 : K.lookup f36 = some ⟨oc36, od36, .func (PySem.W.fnOf "told_rounds" "told_rounds" (defArgs (top 36)) (defBody (top 36)) (defScope (top 36)) .none kV36 dc36 pm36 an36 cd36 ct36), sl36⟩)
    (zd36 : PySem.W.codeIn K cd36 "told_rounds" = true)
    (ze36 : PySem.W.keepIn K (.ref f36) = true)
    (za37 : PySem.W.nsIn K mainGlobals "round_group" = some (some (.ref f37)))
    (zl37 : K.lookup f37 = some ⟨oc37, od37, .func (PySem.W.fnOf "round_group" "round_group" (defArgs (top 37)) (defBody (top 37)) (defScope (top 37)) .none kV37 dc37 pm37 an37 cd37 ct37), sl37⟩)
    (zd37 : PySem.W.codeIn K cd37 "round_group" = true)
    (ze37 : PySem.W.keepIn K (.ref f37) = true)
    (za39 : PySem.W.nsIn K mainGlobals "_law_begun" = some (some (.ref f39)))
    (zl39 : K.lookup f39 = some ⟨oc39, od39, .func (PySem.W.fnOf "_law_begun" "_law_begun" (defArgs (top 39)) (defBody (top 39)) (defScope (top 39)) .none kV39 dc39 pm39 an39 cd39 ct39), sl39⟩)
    (zd39 : PySem.W.codeIn K cd39 "_law_begun" = true)
    (ze39 : PySem.W.keepIn K (.ref f39) = true)
    (za40 : PySem.W.nsIn K mainGlobals "_law_take" = some (some (.ref f40)))
    (zl40 : K.lookup f40 = some ⟨oc40, od40, .func (PySem.W.fnOf "_law_take" "_law_take" (defArgs (top 40)) (defBody (top 40)) (defScope (top 40)) .none kV40 dc40 pm40 an40 cd40 ct40), sl40⟩)
    (zd40 : PySem.W.codeIn K cd40 "_law_take" = true)
    (ze40 : PySem.W.keepIn K (.ref f40) = true)
    (za41 : PySem.W.nsIn K mainGlobals "_law_pick" = some (some (.ref f41)))
    (zl41 : K.lookup f41 = some ⟨oc41, od41, .func (PySem.W.fnOf "_law_pick" "_law_pick" (defArgs (top 41)) (defBody (top 41)) (defScope (top 41)) .none kV41 dc41 pm41 an41 cd41 ct41), sl41⟩)
    (zd41 : PySem.W.codeIn K cd41 "_law_pick" = true)
    (ze41 : PySem.W.keepIn K (.ref f41) = true)
    (za43 : PySem.W.nsIn K mainGlobals "_law_due" = some (some (.ref f43)))
    (zl43 : K.lookup f43 = some ⟨oc43, od43, .func (PySem.W.fnOf "_law_due" "_law_due" (defArgs (top 43)) (defBody (top 43)) (defScope (top 43)) .none kV43 dc43 pm43 an43 cd43 ct43), sl43⟩)
    (zd43 : PySem.W.codeIn K cd43 "_law_due" = true)
    (ze43 : PySem.W.keepIn K (.ref f43) = true)
    (za44 : PySem.W.nsIn K mainGlobals "_law_rounds_right" = some (some (.ref f44)))
    (zl44 : K.lookup f44 = some ⟨oc44, od44, .func (PySem.W.fnOf "_law_rounds_right" "_law_rounds_right" (defArgs (top 44)) (defBody (top 44)) (defScope (top 44)) .none kV44 dc44 pm44 an44 cd44 ct44), sl44⟩)
    (zd44 : PySem.W.codeIn K cd44 "_law_rounds_right" = true)
    (ze44 : PySem.W.keepIn K (.ref f44) = true)
    (za45 : PySem.W.nsIn K mainGlobals "_law_group_right" = some (some (.ref f45)))
    (zl45 : K.lookup f45 = some ⟨oc45, od45, .func (PySem.W.fnOf "_law_group_right" "_law_group_right" (defArgs (top 45)) (defBody (top 45)) (defScope (top 45)) .none kV45 dc45 pm45 an45 cd45 ct45), sl45⟩)
    (zd45 : PySem.W.codeIn K cd45 "_law_group_right" = true)
    (ze45 : PySem.W.keepIn K (.ref f45) = true)
    (za42 : PySem.W.nsIn K mainGlobals "_law_no_number" = some (some (.ref f42)))
    (zl42 : K.lookup f42 = some ⟨oc42, od42, .func (PySem.W.fnOf "_law_no_number" "_law_no_number" (defArgs (top 42)) (defBody (top 42)) (defScope (top 42)) .none kV42 dc42 pm42 an42 cd42 ct42), sl42⟩)
    (zd42 : PySem.W.codeIn K cd42 "_law_no_number" = true)
    (ze42 : PySem.W.keepIn K (.ref f42) = true)
    (za46 : PySem.W.nsIn K mainGlobals "law" = some (some (.ref f46)))
    (zl46 : K.lookup f46 = some ⟨oc46, od46, .func (PySem.W.fnOf "law" "law" (defArgs (top 46)) (defBody (top 46)) (defScope (top 46)) .none kV46 dc46 pm46 an46 (.ref cc) ct46), sl46⟩)
    (zd46 : PySem.W.codeIn K (.ref cc) "law" = true)
    (ze46 : PySem.W.keepIn K (.ref f46) = true)
    (rq : PySem.W.excIn K C10 [.type "ValueError", .type "Exception", .type "BaseException", .type "object"] "ValueError.__new__" = true)
    (rk : PySem.W.keepIn K (.ref C10) = true)
    (r1 : PySem.W.subIn K (.ref C10) (.type "BaseException") = some true)
    (r2 : PySem.W.typeIn K (.ref C10) = some (.type "type"))
    (eg : PySem.W.findIn K (.ref C10) "__getattribute__" = some (some (.builtin "BaseException.__getattribute__")))
    (ek : PySem.W.findIn K (.ref C10) "__getattr__" = some none)
    (ed : PySem.W.hasDictIn K C10 = true)
    (ea : PySem.W.findIn K (.ref C10) "__class__" = some (some (.builtin "object.__class__")))
    (en : PySem.W.specialIn K (.builtin "object.__class__") "__get__" = some (some (.builtin "getset_descriptor.__get__")))
    (et : PySem.W.takesIn K (.builtin "object.__class__") = some true)
    (em : PySem.W.mroIn K C10 (.type "object") = some true)
    (xm : PySem.W.exmOne K (.ref C10) (.ref C0) = some true)
    (kve : PySem.W.kitOne K (.ref C10) (.type "ValueError") = some true)
    (ks0 : PySem.W.kitOne K (.ref C10) (.ref C0) = some true)
    (ks1 : PySem.W.kitOne K (.ref C10) (.ref C1) = some false)
    (ks2 : PySem.W.kitOne K (.ref C10) (.ref C2) = some false)
    (ks3 : PySem.W.kitOne K (.ref C10) (.ref C3) = some false)
    (ks4 : PySem.W.kitOne K (.ref C10) (.ref C4) = some false)
    (ks5 : PySem.W.kitOne K (.ref C10) (.ref C5) = some false)
    (ks6 : PySem.W.kitOne K (.ref C10) (.ref C6) = some false)
    (ks7 : PySem.W.kitOne K (.ref C10) (.ref C7) = some false)
    (ks8 : PySem.W.kitOne K (.ref C10) (.ref C8) = some false)
    (ks9 : PySem.W.kitOne K (.ref C10) (.ref C9) = some false)
    (ks10 : PySem.W.kitOne K (.ref C10) (.ref C10) = some true)
    (ks11 : PySem.W.kitOne K (.ref C10) (.ref C11) = some false)
    (ks12 : PySem.W.kitOne K (.ref C10) (.ref C12) = some false)
    (ks13 : PySem.W.kitOne K (.ref C10) (.ref C13) = some false)
    (ks14 : PySem.W.kitOne K (.ref C10) (.ref C14) = some false)
    (ks15 : PySem.W.kitOne K (.ref C10) (.ref C15) = some false)
    (ks16 : PySem.W.kitOne K (.ref C10) (.ref C16) = some false)
    (pg17 : PySem.W.plainGet K C17 Str.empty = true)
    (hd17 : PySem.W.hasDictIn K C17 = true)
    (po17 : PySem.W.plainOver K C17 = true)
    (sa17 : PySem.W.findIn K (.ref C17) "__setattr__" = some (some (.builtin "object.__setattr__")))
    (mk17 : PySem.W.makesIn K C17 = true)
    (kc17 : PySem.W.keepIn K (.ref C17) = true)
    (ic17 : PySem.W.findIn K (.ref C17) "__class__" = some (some (.builtin "object.__class__")))
    (im17 : PySem.W.mroIn K C17 (.type "object") = some true)
    (kk17 : PySem.W.kitOne K (.ref C17) (.ref C17) = some true)
    (ne17 : PySem.W.findIn K (.ref C17) "__ne__" = some (some (.builtin "object.__ne__")))
    (nf17_holdings : PySem.W.findIn K (.ref C17) "holdings" = some none)
    (nf17_pairs : PySem.W.findIn K (.ref C17) "pairs" = some none)
    (nf17_sizes : PySem.W.findIn K (.ref C17) "sizes" = some none)
    (tb : PySem.W.tabIn K (PySem.Str.ofString "law") = some (cc, P))
    (thd : PySem.W.codeHdIn K cc P = true)
    (tnP : K.lookup P = none) : LamX.LawAtS l w K (L2.CX l.prog w) 10 63 "script" mg fa h := by
  have e := hfa.symm.trans (PySem.W.mg_of X G za46)
  cases e
  let z : Bz := ⟨l.prog, w, K, (fun i => ([C0, C1, C2, C3, C4, C5, C6, C7, C8, C9, C10, C11, C12, C13, C14, C15, C16, C17] : List Addr).getD i 0), [(P, PySem.Str.ofString "law.<locals>.<lambda>")]⟩
  let ad : Nat → Addr := (fun i => (([(24, f24), (25, f25), (26, f26), (28, f28), (27, f27), (29, f29), (30, f30), (32000, f32000), (32001, f32001), (32002, f32002), (32003, f32003), (32005, f32005), (32006, f32006), (32011, f32011), (36, f36), (37, f37), (39, f39), (40, f40), (41, f41), (43, f43), (44, f44), (45, f45), (42, f42), (46, fa)] : List (Nat × Addr)).lookup i).getD 0)
  have T : Tx z mg ad := { cls_17 := ⟨pg17, hd17, po17, sa17⟩, mt_Group_barred := ⟨za32006, zf32006, ze32006⟩, mt_Group_held := ⟨za32003, zf32003, ze32003⟩, mt_Group_leaves := ⟨za32005, zf32005, ze32005⟩, mt_Group_pages := ⟨za32002, zf32002, ze32002⟩, mt_Group_people := ⟨za32001, zf32001, ze32001⟩, na_17_holdings := nf17_holdings, na_17_pairs := nf17_pairs, na_17_sizes := nf17_sizes, own_17 := ⟨za32011, zf32011, ne17, im17⟩, b_ValueError := PySem.W.mg_none_of X G zb_ValueError, b_abs := PySem.W.mg_none_of X G zb_abs, b_all := PySem.W.mg_none_of X G zb_all, b_bool := PySem.W.mg_none_of X G zb_bool, b_dict := PySem.W.mg_none_of X G zb_dict, b_int := PySem.W.mg_none_of X G zb_int, b_isinstance := PySem.W.mg_none_of X G zb_isinstance, b_len := PySem.W.mg_none_of X G zb_len, b_list := PySem.W.mg_none_of X G zb_list, b_max := PySem.W.mg_none_of X G zb_max, b_min := PySem.W.mg_none_of X G zb_min, b_range := PySem.W.mg_none_of X G zb_range, b_sorted := PySem.W.mg_none_of X G zb_sorted, b_str := PySem.W.mg_none_of X G zb_str, b_tuple := PySem.W.mg_none_of X G zb_tuple, c_BadGroup := PySem.W.mg_of X G zc_BadGroup, c_Barred := PySem.W.mg_of X G zc_Barred, c_Group := PySem.W.mg_of X G zc_Group, c_HandError := PySem.W.mg_of X G zc_HandError, c_Idle := PySem.W.mg_of X G zc_Idle, c_NoBack := PySem.W.mg_of X G zc_NoBack, c_NoCall := PySem.W.mg_of X G zc_NoCall, c_NoDeed := PySem.W.mg_of X G zc_NoDeed, c_NoName := PySem.W.mg_of X G zc_NoName, c_NoNumber := PySem.W.mg_of X G zc_NoNumber, c_NoPage := PySem.W.mg_of X G zc_NoPage, c_NoPerson := PySem.W.mg_of X G zc_NoPerson, c_NoText := PySem.W.mg_of X G zc_NoText, c_NoWay := PySem.W.mg_of X G zc_NoWay, c_Spoils := PySem.W.mg_of X G zc_Spoils, c_TooMany := PySem.W.mg_of X G zc_TooMany, c_Twice := PySem.W.mg_of X G zc_Twice, c_Uneven := PySem.W.mg_of X G zc_Uneven, f__law_begun := PySem.W.mg_of X G za39, f__law_due := PySem.W.mg_of X G za43, f__law_group_right := PySem.W.mg_of X G za45, f__law_no_number := PySem.W.mg_of X G za42, f__law_pick := PySem.W.mg_of X G za41, f__law_rounds_right := PySem.W.mg_of X G za44, f__law_take := PySem.W.mg_of X G za40, f_are_unlike_names := PySem.W.mg_of X G za26, f_bars_told := PySem.W.mg_of X G za30, f_is_held := PySem.W.mg_of X G za27, f_is_name := PySem.W.mg_of X G za24, f_is_whole := PySem.W.mg_of X G za25, f_leaves_told := PySem.W.mg_of X G za29, f_pages_in := PySem.W.mg_of X G za28, f_round_group := PySem.W.mg_of X G za37, f_told_rounds := PySem.W.mg_of X G za36, k_MOST_PAGES := ⟨_, PySem.W.mg_of X G zk_MOST_PAGES⟩, k_MOST_PEOPLE_groups := ⟨_, PySem.W.mg_of X G zk_MOST_PEOPLE_groups⟩, k_MOST_PEOPLE_rounds := ⟨_, PySem.W.mg_of X G zk_MOST_PEOPLE_rounds⟩, k_MOST_SIGNS := ⟨_, PySem.W.mg_of X G zk_MOST_SIGNS⟩, k_MOST_TOLD := ⟨_, PySem.W.mg_of X G zk_MOST_TOLD⟩, r_NoNumber := ⟨PySem.F.excBase_ValueError, rq, rk, r1, r2⟩, t_SIGNS := ⟨_, PySem.W.mg_of X G zt_SIGNS⟩ }
  have ctok : CTok z ct := by
    refine ⟨fun c hc => ?_, fun c hc => ?_, fun t u b hb => ?_⟩
    · have e17 : c = 17 := by simpa [ct] using hc
      subst e17
      exact ⟨⟨pg17, hd17, po17, sa17⟩, ic17, en, et, im17⟩
    · have e10 : c = 10 := by simpa [ct] using hc
      subst e10
      exact ⟨eg, ek, r1, ed, ea, en, et, em⟩
    · exact sub_ok (z := z) ⟨ks0, ks1, ks2, ks3, ks4, ks5, ks6, ks7, ks8, ks9, ks10, ks11, ks12, ks13, ks14, ks15, ks16⟩ kve kk17 hb
  have hcatch : ∀ k b, catchNN k = some b → PySem.W.exmOne z.K (.ref (z.ca k)) (.ref (z.ca 0)) = some b := fun k b hk => by
    unfold catchNN at hk
    split at hk
    · rename_i e; subst e; cases hk; exact xm
    · cases hk
  have U24 := fun_mk (st := (top 24)) zl24 zd24 ze24
  have V24 := U24.binds (ps := ["thing"]) fun _ _ _ _ _ _ us hl => match us, hl with | [_], _ => rfl
  have D24 : DefAt z.K "is_name" (top 24) (ad 24) ["thing"] := ⟨_, U24, V24⟩
  have U25 := fun_mk (st := (top 25)) zl25 zd25 ze25
  have V25 := U25.binds (ps := ["thing", "least", "most"]) fun _ _ _ _ _ _ us hl => match us, hl with | [_, _, _], _ => rfl
  have D25 : DefAt z.K "is_whole" (top 25) (ad 25) ["thing", "least", "most"] := ⟨_, U25, V25⟩
  have U26 := fun_mk (st := (top 26)) zl26 zd26 ze26
  have V26 := U26.binds (ps := ["thing"]) fun _ _ _ _ _ _ us hl => match us, hl with | [_], _ => rfl
  have D26 : DefAt z.K "are_unlike_names" (top 26) (ad 26) ["thing"] := ⟨_, U26, V26⟩
  have U28 := fun_mk (st := (top 28)) zl28 zd28 ze28
  have V28 := U28.binds (ps := ["held"]) fun _ _ _ _ _ _ us hl => match us, hl with | [_], _ => rfl
  have D28 : DefAt z.K "pages_in" (top 28) (ad 28) ["held"] := ⟨_, U28, V28⟩
  have U27 := fun_mk (st := (top 27)) zl27 zd27 ze27
  have V27 := U27.binds (ps := ["thing"]) fun _ _ _ _ _ _ us hl => match us, hl with | [_], _ => rfl
  have D27 : DefAt z.K "is_held" (top 27) (ad 27) ["thing"] := ⟨_, U27, V27⟩
  have U29 := fun_mk (st := (top 29)) zl29 zd29 ze29
  have V29 := U29.binds (ps := ["thing", "pages"]) fun _ _ _ _ _ _ us hl => match us, hl with | [_, _], _ => rfl
  have D29 : DefAt z.K "leaves_told" (top 29) (ad 29) ["thing", "pages"] := ⟨_, U29, V29⟩
  have U30 := fun_mk (st := (top 30)) zl30 zd30 ze30
  have V30 := U30.binds (ps := ["thing", "people"]) fun _ _ _ _ _ _ us hl => match us, hl with | [_, _], _ => rfl
  have D30 : DefAt z.K "bars_told" (top 30) (ad 30) ["thing", "people"] := ⟨_, U30, V30⟩
  have U32000 : FunD z.K "__init__" "Group.__init__" (defArgs (mth 31 0)) (defBody (mth 31 0)) (defScope (mth 31 0)) [] [("leaves", V.ref T32000_0), ("barred", V.ref T32000_1)] (ad 32000) _ := ⟨⟨_, _, _, _, _, _, _, _, _, _, rfl, zl32000, zd32000, .inl ⟨rfl, rfl⟩, .inr ⟨_, rfl, fun q hq => by
    simp only [List.mem_cons, List.not_mem_nil, or_false] at hq
    rcases hq with h | h
    · subst h; exact ⟨_, zw32000_0, rfl⟩
    · subst h; exact ⟨_, zw32000_1, rfl⟩
    ⟩⟩, ze32000⟩
  have U32001 := fun_mk (st := (mth 31 1)) zl32001 zd32001 ze32001
  have V32001 := U32001.binds (ps := ["self"]) fun _ _ _ _ _ _ us hl => match us, hl with | [_], _ => rfl
  have D32001 : DefQ z.K "people" "Group.people" (mth 31 1) (ad 32001) ["self"] := ⟨_, U32001, V32001⟩
  have U32002 := fun_mk (st := (mth 31 2)) zl32002 zd32002 ze32002
  have V32002 := U32002.binds (ps := ["self"]) fun _ _ _ _ _ _ us hl => match us, hl with | [_], _ => rfl
  have D32002 : DefQ z.K "pages" "Group.pages" (mth 31 2) (ad 32002) ["self"] := ⟨_, U32002, V32002⟩
  have U32003 := fun_mk (st := (mth 31 3)) zl32003 zd32003 ze32003
  have V32003 := U32003.binds (ps := ["self", "person"]) fun _ _ _ _ _ _ us hl => match us, hl with | [_, _], _ => rfl
  have D32003 : DefQ z.K "held" "Group.held" (mth 31 3) (ad 32003) ["self", "person"] := ⟨_, U32003, V32003⟩
  have U32005 := fun_mk (st := (mth 31 5)) zl32005 zd32005 ze32005
  have V32005 := U32005.binds (ps := ["self", "page"]) fun _ _ _ _ _ _ us hl => match us, hl with | [_, _], _ => rfl
  have D32005 : DefQ z.K "leaves" "Group.leaves" (mth 31 5) (ad 32005) ["self", "page"] := ⟨_, U32005, V32005⟩
  have U32006 := fun_mk (st := (mth 31 6)) zl32006 zd32006 ze32006
  have V32006 := U32006.binds (ps := ["self"]) fun _ _ _ _ _ _ us hl => match us, hl with | [_], _ => rfl
  have D32006 : DefQ z.K "barred" "Group.barred" (mth 31 6) (ad 32006) ["self"] := ⟨_, U32006, V32006⟩
  have U32011 := fun_mk (st := (mth 31 11)) zl32011 zd32011 ze32011
  have V32011 := U32011.binds (ps := ["self", "other"]) fun _ _ _ _ _ _ us hl => match us, hl with | [_, _], _ => rfl
  have D32011 : DefQ z.K "__eq__" "Group.__eq__" (mth 31 11) (ad 32011) ["self", "other"] := ⟨_, U32011, V32011⟩
  have U36 := fun_mk (st := (top 36)) zl36 zd36 ze36
  have V36 := U36.binds (ps := ["many"]) fun _ _ _ _ _ _ us hl => match us, hl with | [_], _ => rfl
  have D36 : DefAt z.K "told_rounds" (top 36) (ad 36) ["many"] := ⟨_, U36, V36⟩
  have U37 := fun_mk (st := (top 37)) zl37 zd37 ze37
  have V37 := U37.binds (ps := ["many"]) fun _ _ _ _ _ _ us hl => match us, hl with | [_], _ => rfl
  have D37 : DefAt z.K "round_group" (top 37) (ad 37) ["many"] := ⟨_, U37, V37⟩
  have U39 := fun_mk (st := (top 39)) zl39 zd39 ze39
  have V39 := U39.binds (ps := ["script"]) fun _ _ _ _ _ _ us hl => match us, hl with | [_], _ => rfl
  have D39 : DefAt z.K "_law_begun" (top 39) (ad 39) ["script"] := ⟨_, U39, V39⟩
  have U40 := fun_mk (st := (top 40)) zl40 zd40 ze40
  have V40 := U40.binds (ps := ["draw", "size"]) fun _ _ _ _ _ _ us hl => match us, hl with | [_, _], _ => rfl
  have D40 : DefAt z.K "_law_take" (top 40) (ad 40) ["draw", "size"] := ⟨_, U40, V40⟩
  have U41 := fun_mk (st := (top 41)) zl41 zd41 ze41
  have V41 := U41.binds (ps := ["draw", "some"]) fun _ _ _ _ _ _ us hl => match us, hl with | [_, _], _ => rfl
  have D41 : DefAt z.K "_law_pick" (top 41) (ad 41) ["draw", "some"] := ⟨_, U41, V41⟩
  have U43 := fun_mk (st := (top 43)) zl43 zd43 ze43
  have V43 := U43.binds (ps := ["size"]) fun _ _ _ _ _ _ us hl => match us, hl with | [_], _ => rfl
  have D43 : DefAt z.K "_law_due" (top 43) (ad 43) ["size"] := ⟨_, U43, V43⟩
  have U44 := fun_mk (st := (top 44)) zl44 zd44 ze44
  have V44 := U44.binds (ps := ["size"]) fun _ _ _ _ _ _ us hl => match us, hl with | [_], _ => rfl
  have D44 : DefAt z.K "_law_rounds_right" (top 44) (ad 44) ["size"] := ⟨_, U44, V44⟩
  have U45 := fun_mk (st := (top 45)) zl45 zd45 ze45
  have V45 := U45.binds (ps := ["size"]) fun _ _ _ _ _ _ us hl => match us, hl with | [_], _ => rfl
  have D45 : DefAt z.K "_law_group_right" (top 45) (ad 45) ["size"] := ⟨_, U45, V45⟩
  have U42 := fun_mk (st := (top 42)) zl42 zd42 ze42
  have V42 := U42.binds (ps := ["work"]) fun _ _ _ _ _ _ us hl => match us, hl with | [_], _ => rfl
  have D42 : DefAt z.K "_law_no_number" (top 42) (ad 42) ["work"] := ⟨_, U42, V42⟩
  refine ⟨PySem.W.fnOf "law" "law" (defArgs (top 46)) (defBody (top 46)) (defScope (top 46)) .none kV46 dc46 pm46 an46 (.ref cc) ct46, [(cc, P)], spD z 1 F_law, ?_, ?_, ?_, fun s v => .of_eq rfl, ?_, fun base KB GB0 TB0 => ?_⟩
  · intro p hp; rw [List.mem_singleton.mp hp]; exact hT
  · intro p hp; rw [List.mem_singleton.mp hp]; exact tnP
  · intro p hp; rw [List.mem_singleton.mp hp]; exact PySem.W.codeHd_of_K X thd
  · intro H a ns hl hb hT2 hS
    exact law_sp law_true (by decide) hl hb (fun p hp => by rw [List.mem_singleton.mp hp]; exact hT2 _ List.mem_cons_self) hS
  have G_is_name := ok_is_name (base := base) T ctok D24 
  have G_is_whole := ok_is_whole (base := base) T ctok D25 
  have G_are_unlike_names := ok_are_unlike_names (base := base) T ctok D26 G_is_name
  have G_pages_in := ok_pages_in (base := base) T ctok D28 
  have G_is_held := ok_is_held (base := base) T ctok D27 G_is_name G_are_unlike_names G_pages_in
  have G_leaves_told := ok_leaves_told (base := base) T ctok D29 
  have G_bars_told := ok_bars_told (base := base) T ctok D30 
  have MK_Group_1 : MkR z mg base 4 17 1 4 [] F_Group___init__ gmk_Group_1 := by
    obtain ⟨mv, KB1⟩ := kb_Group_1 U32000
    refine ⟨_, _, _, _, _, ⟨mk17, za32000, zf32000, kc17⟩, fn_okD2 (z := z) (N := N_Group___init__) U32000 sc_Group___init__ (bd_Group___init__ T ctok G_is_held G_pages_in G_leaves_told G_bars_told), KB1, fun W vs zs es ds r1 r2 => ?_⟩
    exact mk_rel_Group_1 (zx32000_0) (zx32000_1) r1 r2
  have G_Group_people := ok_Group_people (base := base) T ctok D32001 
  have G_Group_pages := ok_Group_pages (base := base) T ctok D32002 
  have G_Group_held := ok_Group_held (base := base) T ctok D32003 G_is_name
  have G_Group_leaves := ok_Group_leaves (base := base) T ctok D32005 G_is_name
  have G_Group_barred := ok_Group_barred (base := base) T ctok D32006 
  have G_Group___eq__ := ok_Group___eq__ (base := base) T ctok D32011 
  have G_told_rounds := ok_told_rounds (base := base) T ctok D36 G_is_whole
  have G_round_group := ok_round_group (base := base) T ctok D37 G_is_whole MK_Group_1
  have G__law_begun := ok__law_begun (base := base) T ctok D39 
  have G__law_take := ok__law_take (base := base) T ctok D40 
  have G__law_pick := ok__law_pick (base := base) T ctok D41 G__law_take
  have G__law_due := ok__law_due (base := base) T ctok D43 
  have GK_told_rounds : ∃ fd, FnOk z.prog z.w z.K mg base (L2.CX z.prog z.w) 2 (ad 36) fd ["many"] (spD z 1 F_told_rounds) ∧ PySem.W.keepIn z.K (.ref (ad 36)) = true ∧ KBinds z.K fd ["many"] ["many"] (fun us ws => us ++ ws) (fun vs zs => vs ++ zs) :=
    ⟨_, fn_okC (z := z) (N := N_told_rounds) U36 sc_told_rounds (bd_told_rounds T ctok G_is_whole), ze36, ⟨fun s us ws _ hl => kb_told_rounds us ws hl, fun r q => r.append q⟩⟩
  have G__law_rounds_right := ok__law_rounds_right (base := base) T ctok D44 G_told_rounds G__law_due GK_told_rounds
  have GK_round_group : ∃ fd, FnOk z.prog z.w z.K mg base (L2.CX z.prog z.w) 6 (ad 37) fd ["many"] (spD z 1 F_round_group) ∧ PySem.W.keepIn z.K (.ref (ad 37)) = true ∧ KBinds z.K fd ["many"] ["many"] (fun us ws => us ++ ws) (fun vs zs => vs ++ zs) :=
    ⟨_, fn_okC (z := z) (N := N_round_group) U37 sc_round_group (bd_round_group T ctok G_is_whole MK_Group_1), ze37, ⟨fun s us ws _ hl => kb_round_group us ws hl, fun r q => r.append q⟩⟩
  have G__law_group_right := ok__law_group_right (base := base) T ctok D45 G_round_group G_Group_people G_Group_pages G_Group_held G_Group_leaves G_Group_barred G_Group___eq__ MK_Group_1 GK_round_group
  exact fn_okE (z := z) (N := N_law) zl46 zd46 sc_law fun A outer s H E Wx hr tk => bd_law T ctok hcatch D42 G_told_rounds G_round_group G__law_begun G__law_take G__law_pick G__law_rounds_right G__law_group_right (TB0 (cc, P) List.mem_cons_self) List.mem_cons_self (fun p hp _ => by rw [List.mem_singleton.mp hp]) A outer s H E Wx hr tk
end K14

open PySem PySem.W PyProof.Rows in
set_option maxRecDepth 100000 in
set_option maxHeartbeats 0 in
theorem PySem.Challenge.cw_evenhands_k14_told_rounds_holds : PySem.Challenge.rw_evenhands_k14_told_rounds.Holds := by
  w_on; o_law; k_head; (case hw => w_witness2)
  k_fill
  refine LamX.walk_ofTs (l := PySem.Challenge.rw_evenhands_k14_told_rounds) (n := 63) (k := 10) (x := "script") (CX := fun w => L2.CX PySem.Challenge.rw_evenhands_k14_told_rounds.prog w) rfl (by decide) rfl ⟨rfl, by decide, by decide⟩ (fun w h Y => PySem.W.km_in_of Y) ?F (fun w H s e s' z => by obtain ⟨_, _, _, _, _, _, _, _, _, _, _, _, z⟩ := z; exact z)
  case F =>
    intro w mg fa h Y KX G hmg
    have hT8 := PySem.W.km_tabs_of Y
    refine' K14.law_at KX G hmg ?hT ?zb_ValueError ?zb_abs ?zb_all ?zb_bool ?zb_dict ?zb_int ?zb_isinstance ?zb_len ?zb_list ?zb_max ?zb_min ?zb_range ?zb_sorted ?zb_str ?zb_tuple ?zc_HandError ?zc_BadGroup ?zc_NoName ?zc_NoPerson ?zc_NoPage ?zc_Twice ?zc_Barred ?zc_Idle ?zc_Uneven ?zc_NoCall ?zc_NoNumber ?zc_NoWay ?zc_TooMany ?zc_Spoils ?zc_NoDeed ?zc_NoBack ?zc_NoText ?zc_Group ?zk_MOST_PAGES ?zk_MOST_PEOPLE_groups ?zk_MOST_PEOPLE_rounds ?zk_MOST_SIGNS ?zk_MOST_TOLD ?zt_SIGNS ?za24 ?zl24 ?zd24 ?ze24 ?za25 ?zl25 ?zd25 ?ze25 ?za26 ?zl26 ?zd26 ?ze26 ?za28 ?zl28 ?zd28 ?ze28 ?za27 ?zl27 ?zd27 ?ze27 ?za29 ?zl29 ?zd29 ?ze29 ?za30 ?zl30 ?zd30 ?ze30 ?za32000 ?zl32000 ?zd32000 ?ze32000 ?zf32000 ?zw32000_0 ?zx32000_0 ?zw32000_1 ?zx32000_1 ?za32001 ?zl32001 ?zd32001 ?ze32001 ?zf32001 ?za32002 ?zl32002 ?zd32002 ?ze32002 ?zf32002 ?za32003 ?zl32003 ?zd32003 ?ze32003 ?zf32003 ?za32005 ?zl32005 ?zd32005 ?ze32005 ?zf32005 ?za32006 ?zl32006 ?zd32006 ?ze32006 ?zf32006 ?za32011 ?zl32011 ?zd32011 ?ze32011 ?zf32011 ?za36 ?zl36 ?zd36 ?ze36 ?za37 ?zl37 ?zd37 ?ze37 ?za39 ?zl39 ?zd39 ?ze39 ?za40 ?zl40 ?zd40 ?ze40 ?za41 ?zl41 ?zd41 ?ze41 ?za43 ?zl43 ?zd43 ?ze43 ?za44 ?zl44 ?zd44 ?ze44 ?za45 ?zl45 ?zd45 ?ze45 ?za42 ?zl42 ?zd42 ?ze42 ?za46 ?zl46 ?zd46 ?ze46 ?rq ?rk ?r1 ?r2 ?eg ?ek ?ed ?ea ?en ?et ?em ?xm ?kve ?ks0 ?ks1 ?ks2 ?ks3 ?ks4 ?ks5 ?ks6 ?ks7 ?ks8 ?ks9 ?ks10 ?ks11 ?ks12 ?ks13 ?ks14 ?ks15 ?ks16 ?pg17 ?hd17 ?po17 ?sa17 ?mk17 ?kc17 ?ic17 ?im17 ?kk17 ?ne17 ?nf17_holdings ?nf17_pairs ?nf17_sizes ?tb ?thd ?tnP
    (case tb => first | k_is | kernel_rfl)
    (case zb_ValueError => first | k_is | kernel_rfl)
    (case zb_abs => first | k_is | kernel_rfl)
    (case zb_all => first | k_is | kernel_rfl)
    (case zb_bool => first | k_is | kernel_rfl)
    (case zb_dict => first | k_is | kernel_rfl)
    (case zb_int => first | k_is | kernel_rfl)
    (case zb_isinstance => first | k_is | kernel_rfl)
    (case zb_len => first | k_is | kernel_rfl)
    (case zb_list => first | k_is | kernel_rfl)
    (case zb_max => first | k_is | kernel_rfl)
    (case zb_min => first | k_is | kernel_rfl)
    (case zb_range => first | k_is | kernel_rfl)
    (case zb_sorted => first | k_is | kernel_rfl)
    (case zb_str => first | k_is | kernel_rfl)
    (case zb_tuple => first | k_is | kernel_rfl)
    (case zc_HandError => first | k_is | kernel_rfl)
    (case zc_BadGroup => first | k_is | kernel_rfl)
    (case zc_NoName => first | k_is | kernel_rfl)
    (case zc_NoPerson => first | k_is | kernel_rfl)
    (case zc_NoPage => first | k_is | kernel_rfl)
    (case zc_Twice => first | k_is | kernel_rfl)
    (case zc_Barred => first | k_is | kernel_rfl)
    (case zc_Idle => first | k_is | kernel_rfl)
    (case zc_Uneven => first | k_is | kernel_rfl)
    (case zc_NoCall => first | k_is | kernel_rfl)
    (case zc_NoNumber => first | k_is | kernel_rfl)
    (case zc_NoWay => first | k_is | kernel_rfl)
    (case zc_TooMany => first | k_is | kernel_rfl)
    (case zc_Spoils => first | k_is | kernel_rfl)
    (case zc_NoDeed => first | k_is | kernel_rfl)
    (case zc_NoBack => first | k_is | kernel_rfl)
    (case zc_NoText => first | k_is | kernel_rfl)
    (case zc_Group => first | k_is | kernel_rfl)
    (case zk_MOST_PAGES => first | k_is | kernel_rfl)
    (case zk_MOST_PEOPLE_groups => first | k_is | kernel_rfl)
    (case zk_MOST_PEOPLE_rounds => first | k_is | kernel_rfl)
    (case zk_MOST_SIGNS => first | k_is | kernel_rfl)
    (case zk_MOST_TOLD => first | k_is | kernel_rfl)
    (case zt_SIGNS => first | k_is | kernel_rfl)
    (case za24 => first | k_is | kernel_rfl)
    (case zl24 => first | k_is | kernel_rfl)
    (case zd24 => first | k_is | kernel_rfl)
    (case ze24 => first | k_is | kernel_rfl)
    (case za25 => first | k_is | kernel_rfl)
    (case zl25 => first | k_is | kernel_rfl)
    (case zd25 => first | k_is | kernel_rfl)
    (case ze25 => first | k_is | kernel_rfl)
    (case za26 => first | k_is | kernel_rfl)
    (case zl26 => first | k_is | kernel_rfl)
    (case zd26 => first | k_is | kernel_rfl)
    (case ze26 => first | k_is | kernel_rfl)
    (case za28 => first | k_is | kernel_rfl)
    (case zl28 => first | k_is | kernel_rfl)
    (case zd28 => first | k_is | kernel_rfl)
    (case ze28 => first | k_is | kernel_rfl)
    (case za27 => first | k_is | kernel_rfl)
    (case zl27 => first | k_is | kernel_rfl)
    (case zd27 => first | k_is | kernel_rfl)
    (case ze27 => first | k_is | kernel_rfl)
    (case za29 => first | k_is | kernel_rfl)
    (case zl29 => first | k_is | kernel_rfl)
    (case zd29 => first | k_is | kernel_rfl)
    (case ze29 => first | k_is | kernel_rfl)
    (case za30 => first | k_is | kernel_rfl)
    (case zl30 => first | k_is | kernel_rfl)
    (case zd30 => first | k_is | kernel_rfl)
    (case ze30 => first | k_is | kernel_rfl)
    (case za32000 => first | k_is | kernel_rfl)
    (case zl32000 => first | k_is | kernel_rfl)
    (case zd32000 => first | k_is | kernel_rfl)
    (case ze32000 => first | k_is | kernel_rfl)
    (case zf32000 => first | k_is | kernel_rfl)
    (case zw32000_0 => first | k_is | kernel_rfl)
    (case zx32000_0 => first | k_is | kernel_rfl)
    (case zw32000_1 => first | k_is | kernel_rfl)
    (case zx32000_1 => first | k_is | kernel_rfl)
    (case za32001 => first | k_is | kernel_rfl)
    (case zl32001 => first | k_is | kernel_rfl)
    (case zd32001 => first | k_is | kernel_rfl)
    (case ze32001 => first | k_is | kernel_rfl)
    (case zf32001 => first | k_is | kernel_rfl)
    (case za32002 => first | k_is | kernel_rfl)
    (case zl32002 => first | k_is | kernel_rfl)
    (case zd32002 => first | k_is | kernel_rfl)
    (case ze32002 => first | k_is | kernel_rfl)
    (case zf32002 => first | k_is | kernel_rfl)
    (case za32003 => first | k_is | kernel_rfl)
    (case zl32003 => first | k_is | kernel_rfl)
    (case zd32003 => first | k_is | kernel_rfl)
    (case ze32003 => first | k_is | kernel_rfl)
    (case zf32003 => first | k_is | kernel_rfl)
    (case za32005 => first | k_is | kernel_rfl)
    (case zl32005 => first | k_is | kernel_rfl)
    (case zd32005 => first | k_is | kernel_rfl)
    (case ze32005 => first | k_is | kernel_rfl)
    (case zf32005 => first | k_is | kernel_rfl)
    (case za32006 => first | k_is | kernel_rfl)
    (case zl32006 => first | k_is | kernel_rfl)
    (case zd32006 => first | k_is | kernel_rfl)
    (case ze32006 => first | k_is | kernel_rfl)
    (case zf32006 => first | k_is | kernel_rfl)
    (case za32011 => first | k_is | kernel_rfl)
    (case zl32011 => first | k_is | kernel_rfl)
    (case zd32011 => first | k_is | kernel_rfl)
    (case ze32011 => first | k_is | kernel_rfl)
    (case zf32011 => first | k_is | kernel_rfl)
    (case za36 => first | k_is | kernel_rfl)
    (case zl36 => first | k_is | kernel_rfl)
    (case zd36 => first | k_is | kernel_rfl)
    (case ze36 => first | k_is | kernel_rfl)
    (case za37 => first | k_is | kernel_rfl)
    (case zl37 => first | k_is | kernel_rfl)
    (case zd37 => first | k_is | kernel_rfl)
    (case ze37 => first | k_is | kernel_rfl)
    (case za39 => first | k_is | kernel_rfl)
    (case zl39 => first | k_is | kernel_rfl)
    (case zd39 => first | k_is | kernel_rfl)
    (case ze39 => first | k_is | kernel_rfl)
    (case za40 => first | k_is | kernel_rfl)
    (case zl40 => first | k_is | kernel_rfl)
    (case zd40 => first | k_is | kernel_rfl)
    (case ze40 => first | k_is | kernel_rfl)
    (case za41 => first | k_is | kernel_rfl)
    (case zl41 => first | k_is | kernel_rfl)
    (case zd41 => first | k_is | kernel_rfl)
    (case ze41 => first | k_is | kernel_rfl)
    (case za43 => first | k_is | kernel_rfl)
    (case zl43 => first | k_is | kernel_rfl)
    (case zd43 => first | k_is | kernel_rfl)
    (case ze43 => first | k_is | kernel_rfl)
    (case za44 => first | k_is | kernel_rfl)
    (case zl44 => first | k_is | kernel_rfl)
    (case zd44 => first | k_is | kernel_rfl)
    (case ze44 => first | k_is | kernel_rfl)
    (case za45 => first | k_is | kernel_rfl)
    (case zl45 => first | k_is | kernel_rfl)
    (case zd45 => first | k_is | kernel_rfl)
    (case ze45 => first | k_is | kernel_rfl)
    (case za42 => first | k_is | kernel_rfl)
    (case zl42 => first | k_is | kernel_rfl)
    (case zd42 => first | k_is | kernel_rfl)
    (case ze42 => first | k_is | kernel_rfl)
    (case za46 => first | k_is | kernel_rfl)
    (case zl46 => first | k_is | kernel_rfl)
    (case zd46 => first | k_is | kernel_rfl)
    (case ze46 => first | k_is | kernel_rfl)
    (case rq => first | k_is | kernel_rfl)
    (case rk => first | k_is | kernel_rfl)
    (case r1 => first | k_is | kernel_rfl)
    (case r2 => first | k_is | kernel_rfl)
    (case eg => first | k_is | kernel_rfl)
    (case ek => first | k_is | kernel_rfl)
    (case ed => first | k_is | kernel_rfl)
    (case ea => first | k_is | kernel_rfl)
    (case en => first | k_is | kernel_rfl)
    (case et => first | k_is | kernel_rfl)
    (case em => first | k_is | kernel_rfl)
    (case xm => first | k_is | kernel_rfl)
    (case kve => first | k_is | kernel_rfl)
    (case ks0 => first | k_is | kernel_rfl)
    (case ks1 => first | k_is | kernel_rfl)
    (case ks2 => first | k_is | kernel_rfl)
    (case ks3 => first | k_is | kernel_rfl)
    (case ks4 => first | k_is | kernel_rfl)
    (case ks5 => first | k_is | kernel_rfl)
    (case ks6 => first | k_is | kernel_rfl)
    (case ks7 => first | k_is | kernel_rfl)
    (case ks8 => first | k_is | kernel_rfl)
    (case ks9 => first | k_is | kernel_rfl)
    (case ks10 => first | k_is | kernel_rfl)
    (case ks11 => first | k_is | kernel_rfl)
    (case ks12 => first | k_is | kernel_rfl)
    (case ks13 => first | k_is | kernel_rfl)
    (case ks14 => first | k_is | kernel_rfl)
    (case ks15 => first | k_is | kernel_rfl)
    (case ks16 => first | k_is | kernel_rfl)
    (case pg17 => first | k_is | kernel_rfl)
    (case hd17 => first | k_is | kernel_rfl)
    (case po17 => first | k_is | kernel_rfl)
    (case sa17 => first | k_is | kernel_rfl)
    (case mk17 => first | k_is | kernel_rfl)
    (case kc17 => first | k_is | kernel_rfl)
    (case ic17 => first | k_is | kernel_rfl)
    (case im17 => first | k_is | kernel_rfl)
    (case kk17 => first | k_is | kernel_rfl)
    (case ne17 => first | k_is | kernel_rfl)
    (case nf17_holdings => first | k_is | kernel_rfl)
    (case nf17_pairs => first | k_is | kernel_rfl)
    (case nf17_sizes => first | k_is | kernel_rfl)
    (case thd => first | k_is | kernel_rfl)
    (case tnP => first | k_is | kernel_rfl)
    case hT => exact hT8 _ (by k_mem)
