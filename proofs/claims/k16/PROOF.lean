import PyProof.Rows.All
import PySem.Challenge.RW_evenhands_k16_fewest_calls
import HandS.ForMost
import HandS.ForExc
import HandS.SetKeys
import HandS.Lambda
import HandS.ExcIs
import HandS.ExcValue
import HandS.Strs
import KE.KDictDisplayH
import KE.DataCmp
import KE.DataEq
import KE.SortData
import HandS.TupAny
import HandS.TupMul
import HandS.CallSlots
import HandS.IsInst
import HandS.Conv
import HandS.SetFor
import HandS.Small
import HandS.WordsExc
import KE.KNestM
import HandS.EndTab
import PyProof.ExcBaseAll.ValueError
set_option Elab.async false
set_option linter.all false
set_option maxRecDepth 100000
-- PL1
namespace Pl
open PySem PySem.Spec L2

/-- data that never changes -/
inductive PD where
  | non | bl (b : Bool) | int (i : Int) | str (s : Str)
  | lst (xs : List PD) | scr (xs : List PD) | tup (xs : List PD) | dic (kvs : List (Key × PD)) | set (ks : List Key) | iset (ks : List Int)
  | ins (c : Nat) (fs : List (Str × PD)) | exn (c : Nat) (fs : List (Str × PD))
  | ty (n : String) | cls (c : Nat)
  deriving Inhabited
/-- a value: data, the k-th cell, a lambda that is handed in (its object, its code, its name, the maker's slots, what it holds of them) -/
inductive E where
  | p (d : PD) | r (k : Nat) | fn (f c' : Addr) (q : Str) (σ : L2.St) (ix : List Nat) (caps : List (Sum PD Nat))
  deriving Inhabited
/-- what a cell holds -/
inductive Cell where
  | lst (xs : List E) | dic (kvs : List (Key × E)) | dcN (kvs : List (NestedKey × E)) | ins (c : Nat) (fs : List (Str × E))
  deriving Inhabited
mutual
/-- the key that it is -/
def nkOf : PD → Option NestedKey
  | .non => some .none
  | .bl b => some (.num (if b = true then 1 else 0))
  | .int i => some (.num i)
  | .str s => some (.text s)
  | .tup ds => match nksOf ds with
    | some ks => some (.tup ks)
    | none => none
  | _ => none
def nksOf : List PD → Option (List NestedKey)
  | [] => some []
  | d :: ds => match nkOf d, nksOf ds with
    | some k, some ks => some (k :: ks)
    | _, _ => none
end
/-- a dict whose keys are tuples of any depth -/
def NestD (P : Program) (w : World) (a : Addr) (L : List (NestedKey × Addr × V)) : HO := .ext fun h => ∃ xs : List (NestedKey × Addr × Value), Paired (fun l x => l.1 = x.1 ∧ l.2.1 = x.2.1 ∧ RelV l.2.2 x.2.2) L xs ∧ (a == sysModules) = false ∧ (xs.map (·.1)).Nodup ∧
  ∃ o es ep, h.get? a = some o ∧ o.ExactDict ∧ o.data = .dict es ep ∧ es.toList = xs.map (entryOfKey (nestedKind P w))
abbrev Store := List (Option Cell)
abbrev Env := List (Option E)

/-- what is fixed: the program, the world, the written part, the classes' addresses -/
structure Bz where
  prog : Program
  w : World
  K : PySem.W.Frag
  ca : Nat → Addr
  T : List (Addr × Str)
/-- a caught exception of the class cls, its dict d -/
def ExK (cls : Value) (d : Option Addr) (a : Addr) : HO := .ext fun h => ∃ (oe : Obj) (vs : Array Value), h.get? a = some oe ∧ Zc cls d oe ∧ oe.data = .fields vs

mutual
inductive RV (z : Bz) (F : Hp) : V → PD → Prop
  | non : RV z F .non .non
  | bl (b : Bool) : RV z F (.bl b) (.bl b)
  | int (i : Int) : RV z F (.int i) (.int i)
  | str (s : Str) : RV z F (.str s) (.str s)
  | lst {a : Addr} {xs : List V} {ds : List PD} : F a = some (.lst xs) → xs.length ≤ sizeLine → RVs z F xs ds → RV z F (.ref a) (.lst ds)
  | scr {a : Addr} {xs : List V} {ds : List PD} : SqL z.K F a xs → xs.length ≤ sizeLine → RVs z F xs ds → RV z F (.ref a) (.scr ds)
  | tup {a : Addr} {xs : List V} {ds : List PD} : SqT z.K F a xs → xs.length ≤ sizeLine → RVs z F xs ds → RV z F (.ref a) (.tup ds)
  | dic {a : Addr} {o : Obj} {kvs : List (Key × V)} {ds : List (Key × PD)} : F a = some (.frz o (.dK kvs)) → kvs.length ≤ sizeLine → RVk z F kvs ds → RV z F (.ref a) (.dic ds)
  | set {a : Addr} {S : Key → Bool} {ks : List Key} : F a = some (SetK z.prog z.w a S ks.length) → (∀ k, S k = true ↔ k ∈ ks) → ks.Nodup → RV z F (.ref a) (.set ks)
  | iset {a : Addr} {S : Int → Bool} {n : Nat} {ks : List Int} : F a = some (SetO z.w a S n) → (∀ k, S k = true ↔ k ∈ ks) → n ≤ ks.length → RV z F (.ref a) (.iset ks)
  | ins {a dx : Addr} {c : Nat} {fs : List (Str × V)} {ds : List (Str × PD)} : F a = some (.ins (z.ca c) dx fs) → RVf z F fs ds → RV z F (.ref a) (.ins c ds)
  | exn0 {a : Addr} {c : Nat} : F a = some (ExK (.ref (z.ca c)) none a) → RV z F (.ref a) (.exn c [])
  | exn {a dx : Addr} {c : Nat} {fs : List (Str × V)} {ds : List (Str × PD)} : F a = some (ExK (.ref (z.ca c)) (some dx) a) → F dx = some (.xd fs) → ds ≠ [] → RVf z F fs ds → RV z F (.ref a) (.exn c ds)
  | ty (n : String) : RV z F (.ty n) (.ty n)
  | cls (c : Nat) : RV z F (.ref (z.ca c)) (.cls c)
inductive RVs (z : Bz) (F : Hp) : List V → List PD → Prop
  | nil : RVs z F [] []
  | cons {v : V} {vs : List V} {d : PD} {ds : List PD} : RV z F v d → RVs z F vs ds → RVs z F (v :: vs) (d :: ds)
inductive RVk (z : Bz) (F : Hp) : List (Key × V) → List (Key × PD) → Prop
  | nil : RVk z F [] []
  | cons {k : Key} {v : V} {vs : List (Key × V)} {d : PD} {ds : List (Key × PD)} : RV z F v d → RVk z F vs ds → RVk z F ((k, v) :: vs) ((k, d) :: ds)
inductive RVf (z : Bz) (F : Hp) : List (Str × V) → List (Str × PD) → Prop
  | nil : RVf z F [] []
  | cons {k : Str} {v : V} {vs : List (Str × V)} {d : PD} {ds : List (Str × PD)} : RV z F v d → RVf z F vs ds → RVf z F ((k, v) :: vs) ((k, d) :: ds)
end

/-- what can be read in F can be read in F' -/
def Ext (F F' : Hp) : Prop := ∀ a o, F a = some o → F' a = some o
theorem Ext.of {F F' : Hp} (s : Same F F') : Ext F F' := s
theorem Ext.rd {F F' : Hp} (s : Ext F F') {a : Addr} {u : HO} (h : Rd F a u) : Rd F' a u := h.imp (s _ _) fun ⟨o, q⟩ => ⟨o, s _ _ q⟩
theorem Ext.sqL {K : PySem.W.Frag} {F F' : Hp} (s : Ext F F') {a : Addr} {xs : List V} (h : SqL K F a xs) : SqL K F' a xs := h.imp s.rd id
theorem Ext.sqT {K : PySem.W.Frag} {F F' : Hp} (s : Ext F F') {a : Addr} {xs : List V} (h : SqT K F a xs) : SqT K F' a xs := h.imp s.rd id
mutual
theorem RV.ext {z : Bz} {F F' : Hp} (s : Ext F F') : ∀ {v : V} {d : PD}, RV z F v d → RV z F' v d
  | _, _, .non => .non
  | _, _, .bl b => .bl b
  | _, _, .int b => .int b
  | _, _, .str b => .str b
  | _, _, .lst h l r => .lst (s _ _ h) l (RVs.ext s r)
  | _, _, .scr h l r => .scr (s.sqL h) l (RVs.ext s r)
  | _, _, .tup h l r => .tup (s.sqT h) l (RVs.ext s r)
  | _, _, .dic h l r => .dic (s _ _ h) l (RVk.ext s r)
  | _, _, .set h l r => .set (s _ _ h) l r
  | _, _, .iset h l r => .iset (s _ _ h) l r
  | _, _, .ins h r => .ins (s _ _ h) (RVf.ext s r)
  | _, _, .exn0 h => .exn0 (s _ _ h)
  | _, _, .exn h h2 n r => .exn (s _ _ h) (s _ _ h2) n (RVf.ext s r)
  | _, _, .ty n => .ty n
  | _, _, .cls n => .cls n
theorem RVs.ext {z : Bz} {F F' : Hp} (s : Ext F F') : ∀ {v : List V} {d : List PD}, RVs z F v d → RVs z F' v d
  | _, _, .nil => .nil
  | _, _, .cons h r => .cons (RV.ext s h) (RVs.ext s r)
theorem RVk.ext {z : Bz} {F F' : Hp} (s : Ext F F') : ∀ {v : List (Key × V)} {d : List (Key × PD)}, RVk z F v d → RVk z F' v d
  | _, _, .nil => .nil
  | _, _, .cons h r => .cons (RV.ext s h) (RVk.ext s r)
theorem RVf.ext {z : Bz} {F F' : Hp} (s : Ext F F') : ∀ {v : List (Str × V)} {d : List (Str × PD)}, RVf z F v d → RVf z F' v d
  | _, _, .nil => .nil
  | _, _, .cons h r => .cons (RV.ext s h) (RVf.ext s r)
end

/-- the frozen part, the cells' addresses -/
structure Wd where
  F : Hp
  α : List Addr
inductive Caps (z : Bz) (W : Wd) (σ : L2.St) : List Nat → List (Sum PD Nat) → Prop
  | nil : Caps z W σ [] []
  | p {i : Nat} {ix : List Nat} {v : V} {d : PD} {cs : List (Sum PD Nat)} : σ[i]? = some (some v) → RV z W.F v d → Caps z W σ ix cs → Caps z W σ (i :: ix) (.inl d :: cs)
  | r {i : Nat} {ix : List Nat} {a : Addr} {k : Nat} {cs : List (Sum PD Nat)} : σ[i]? = some (some (.ref a)) → W.α[k]? = some a → Caps z W σ ix cs → Caps z W σ (i :: ix) (.inr k :: cs)
inductive RE (z : Bz) (W : Wd) : V → E → Prop
  | p {v : V} {d : PD} : RV z W.F v d → RE z W v (.p d)
  | r {a : Addr} {k : Nat} : W.α[k]? = some a → RE z W (.ref a) (.r k)
  | fn {f c' : Addr} {q : Str} {σ : L2.St} {ix : List Nat} {caps : List (Sum PD Nat)} : W.F c' = some (LamX.CodeO c' q) → Caps z W σ ix caps → RE z W (.ref f) (.fn f c' q σ ix caps)
abbrev REs (z : Bz) (W : Wd) : List V → List E → Prop := Paired (RE z W)
abbrev REk (z : Bz) (W : Wd) : List (Key × V) → List (Key × E) → Prop := Paired fun p q => p.1 = q.1 ∧ RE z W p.2 q.2
abbrev REf (z : Bz) (W : Wd) : List (Str × V) → List (Str × E) → Prop := Paired fun p q => p.1 = q.1 ∧ RE z W p.2 q.2
def KeyF (z : Bz) (F : Hp) (k : NestedKey) (b : Addr) : Prop := ∃ d, RV z F (.ref b) d ∧ nkOf d = some k ∧ k.depth ≤ 8
def NestR (z : Bz) (W : Wd) (l : NestedKey × Addr × V) (e : NestedKey × E) : Prop := l.1 = e.1 ∧ KeyF z W.F l.1 l.2.1 ∧ RE z W l.2.2 e.2
def CellAt (z : Bz) (W : Wd) (H : Hp) (a : Addr) : Cell → Prop
  | .lst xs => ∃ vs, H a = some (.lst vs) ∧ vs.length ≤ sizeLine ∧ REs z W vs xs
  | .dic kvs => ∃ vs, H a = some (.dK vs) ∧ vs.length ≤ sizeLine ∧ REk z W vs kvs
  | .dcN kvs => ∃ L, H a = some (NestD z.prog z.w a L) ∧ L.length ≤ sizeLine ∧ Paired (NestR z W) L kvs
  | .ins c fs => ∃ dx vs, H a = some (.ins (z.ca c) dx vs) ∧ H dx = some (.own a) ∧ vs.length ≤ 100 ∧ REf z W vs fs
/-- what is no cell -/
def OddO (o : HO) : Prop := (∃ ps, o = .tbl ps) ∨ ∃ c q, o = LamX.CodeO c q
structure StoreOk (z : Bz) (W : Wd) (M : Store) (H : Hp) : Prop where
  same : Same W.F H
  len : M.length = W.α.length
  nd : W.α.Nodup
  live : ∀ a, a ∈ W.α → H a ≠ none
  cell : ∀ (k : Nat) (c : Cell), M[k]? = some (some c) → ∃ a, W.α[k]? = some a ∧ W.F a = none ∧ CellAt z W H a c
  tabs : LamX.Tabs z.T H
  ntb : ∀ (a : Addr) (ps : Array Value), W.F a ≠ some (.tbl ps)
  nta : ∀ a, a ∈ W.α → ∀ o : HO, OddO o → H a ≠ some o
structure WExt (W W' : Wd) : Prop where
  ext : Ext W.F W'.F
  pre : ∃ more, W'.α = W.α ++ more
theorem WExt.refl (W : Wd) : WExt W W := ⟨.of (.refl _), [], by simp⟩
theorem Ext.trans {F G L : Hp} (a : Same F G) (b : Same G L) : Same F L := a.trans b
theorem WExt.at {W W' : Wd} (x : WExt W W') {a : Addr} {k : Nat} (h : W.α[k]? = some a) : W'.α[k]? = some a := by
  obtain ⟨more, e⟩ := x.pre
  rw [e]
  have := (List.getElem?_eq_some_iff.mp h).1
  rw [List.getElem?_append_left this]
  exact h
theorem WExt.caps {z : Bz} {W W' : Wd} (x : WExt W W') {σ : L2.St} {ix : List Nat} {cs : List (Sum PD Nat)} (h : Caps z W σ ix cs) : Caps z W' σ ix cs := by
  induction h with
  | nil => exact .nil
  | p h1 h2 _ ih => exact .p h1 (h2.ext x.ext) ih
  | r h1 h2 _ ih => exact .r h1 (x.at h2) ih
theorem WExt.re {z : Bz} {W W' : Wd} (x : WExt W W') {v : V} {e : E} (h : RE z W v e) : RE z W' v e := by
  cases h with
  | p h => exact .p (h.ext x.ext)
  | fn h1 h2 => exact .fn (x.ext _ _ h1) (x.caps h2)
  | r h =>
    obtain ⟨more, e⟩ := x.pre
    refine .r ?_
    rw [e]
    have := (List.getElem?_eq_some_iff.mp h).1
    rw [List.getElem?_append_left this]
    exact h
theorem WExt.res {z : Bz} {W W' : Wd} (x : WExt W W') {vs : List V} {es : List E} (h : REs z W vs es) : REs z W' vs es := Paired.mapP h fun _ _ q => x.re q
theorem WExt.rek {z : Bz} {W W' : Wd} (x : WExt W W') {vs : List (Key × V)} {es : List (Key × E)} (h : REk z W vs es) : REk z W' vs es := Paired.mapP h fun _ _ q => ⟨q.1, x.re q.2⟩
theorem WExt.ren {z : Bz} {W W' : Wd} (x : WExt W W') {vs : List (NestedKey × Addr × V)} {es : List (NestedKey × E)} (h : Paired (NestR z W) vs es) : Paired (NestR z W') vs es := Paired.mapP h fun _ _ ⟨a, ⟨d, b, c⟩, q⟩ => ⟨a, ⟨d, b.ext x.ext, c⟩, x.re q⟩
theorem WExt.ref {z : Bz} {W W' : Wd} (x : WExt W W') {vs : List (Str × V)} {es : List (Str × E)} (h : REf z W vs es) : REf z W' vs es := Paired.mapP h fun _ _ q => ⟨q.1, x.re q.2⟩

/-- nothing stands there, but a table perhaps -/
def Nw (H : Hp) (a : Addr) : Prop := ∀ o, H a = some o → ∃ ps, o = .tbl ps
theorem Nw.of {H : Hp} {a : Addr} (h : H a = none) : Nw H a := fun o q => by rw [h] at q; cases q
/-- from (W, H) to (W', M', H') -/
structure Step (z : Bz) (W : Wd) (H : Hp) (W' : Wd) (M' : Store) (H' : Hp) : Prop where
  ext : Same W.F W'.F
  pre : ∃ more, W'.α = W.α ++ more ∧ ∀ a ∈ more, Nw H a
  ok : StoreOk z W' M' H'
  fnew : ∀ a o, W'.F a = some o → W.F a = some o ∨ Nw H a ∨ a ∈ W.α ∨ ∃ q, o = LamX.CodeO a q
  keep : ∀ a o, H a = some o → a ∉ W.α → (∀ ps, o ≠ .tbl ps) → H' a = some o
theorem Step.w {z : Bz} {W W' : Wd} {M' : Store} {H H' : Hp} (s : Step z W H W' M' H') : WExt W W' := ⟨.of s.ext, let ⟨m, e, _⟩ := s.pre; ⟨m, e⟩⟩
theorem Step.refl {z : Bz} {W : Wd} {M : Store} {H : Hp} (ok : StoreOk z W M H) : Step z W H W M H := ⟨.refl _, ⟨[], by simp, by simp⟩, ok, fun _ _ h => .inl h, fun _ _ h _ _ => h⟩
theorem Step.trans {z : Bz} {W W1 W2 : Wd} {M1 M2 : Store} {H H1 H2 : Hp} (s : Step z W H W1 M1 H1) (t : Step z W1 H1 W2 M2 H2) : Step z W H W2 M2 H2 := by
  obtain ⟨m1, e1, n1⟩ := s.pre
  obtain ⟨m2, e2, n2⟩ := t.pre
  have out : ∀ a o, H a = some o → a ∉ W.α → (∀ ps, o ≠ .tbl ps) → a ∉ W1.α := fun a o h hn ht q => by
    rw [e1] at q
    rcases List.mem_append.mp q with q | q
    · exact hn q
    · obtain ⟨ps, e⟩ := n1 a q o h
      exact ht ps e
  have kp : ∀ a o, H a = some o → a ∉ W.α → (∀ ps, o ≠ .tbl ps) → H2 a = some o := fun a o h hn ht => t.keep a o (s.keep a o h hn ht) (out a o h hn ht) ht
  have back : ∀ a, Nw H1 a → a ∉ W.α → Nw H a := fun a n hw o q => by
    by_cases ht : ∃ ps, o = .tbl ps
    · exact ht
    · exact n o (s.keep a o q hw fun ps e => ht ⟨ps, e⟩)
  refine ⟨s.ext.trans t.ext, ⟨m1 ++ m2, by rw [e2, e1, List.append_assoc], fun a h => ?_⟩, t.ok, fun a o h => ?_, kp⟩
  rotate_left
  · rcases t.fnew a o h with h | h | h | h
    · exact s.fnew a o h
    · by_cases hw : a ∈ W.α
      · exact .inr (.inr (.inl hw))
      · exact .inr (.inl (back a h hw))
    · rw [e1] at h
      rcases List.mem_append.mp h with h | h
      · exact .inr (.inr (.inl h))
      · exact .inr (.inl (n1 a h))
    · exact .inr (.inr (.inr h))
  rcases List.mem_append.mp h with h | h
  · exact n1 a h
  · have n := n2 a h
    by_cases hw : a ∈ W.α
    · have hin : a ∈ W1.α := by rw [e1]; exact List.mem_append_left _ hw
      cases q : H1 a with
      | none => exact absurd q (s.ok.live a hin)
      | some u =>
        obtain ⟨ps, e⟩ := n u q
        exact absurd q (s.ok.nta a hin u (.inl ⟨ps, e⟩))
    · exact back a n hw

/-- an own exception: its class, its fields -/
structure Xn where
  c : Nat
  fs : List (Str × PD)
  deriving Inhabited
def RX (z : Bz) (F : Hp) (H : Hp) (cls : Value) (d : Option Addr) (x : Xn) : Prop :=
  cls = .ref (z.ca x.c) ∧ ((x.fs = [] ∧ d = none) ∨ ∃ dd vs, x.fs ≠ [] ∧ d = some dd ∧ F dd = some (.xd vs) ∧ RVf z F vs x.fs)
abbrev Rs (α : Type) := Option (Sum Xn α × Store)
def EnvOk (z : Bz) (W : Wd) (ρ : Env) (σ : St) : Prop := ρ.length = σ.length ∧ ∀ (i : Nat) (e : E), ρ[i]? = some (some e) → ∃ v, σ[i]? = some (some v) ∧ RE z W v e
theorem EnvOk.w {z : Bz} {W W' : Wd} {ρ : Env} {σ : St} (h : EnvOk z W ρ σ) (x : WExt W W') : EnvOk z W' ρ σ := ⟨h.1, fun i e q => let ⟨v, a, b⟩ := h.2 i e q; ⟨v, a, x.re b⟩⟩

/-- what is wanted of a result -/
def Post (z : Bz) (W : Wd) (H : Hp) (r : Sum Xn E × Store) (Q : VK) (Xq : XK) : Prop :=
  match r with
  | (.inr e, M') => ∀ W' H' v, Step z W H W' M' H' → RE z W' v e → Q v H'
  | (.inl x, M') => ∀ W' H' cls d, Step z W H W' M' H' → RX z W'.F H' cls d x → Xq cls d H'
def PostB (z : Bz) (W : Wd) (H : Hp) (r : Sum Xn Bool × Store) (Q : Bool → Hp → Prop) (Xq : XK) : Prop :=
  match r with
  | (.inr b, M') => ∀ W' H', Step z W H W' M' H' → Q b H'
  | (.inl x, M') => ∀ W' H' cls d, Step z W H W' M' H' → RX z W'.F H' cls d x → Xq cls d H'
def PostA (z : Bz) (W : Wd) (H : Hp) (r : Sum Xn (List E) × Store) (Q : List V → Hp → Prop) (Xq : XK) : Prop :=
  match r with
  | (.inr es, M') => ∀ W' H' vs, Step z W H W' M' H' → REs z W' vs es → Q vs H'
  | (.inl x, M') => ∀ W' H' cls d, Step z W H W' M' H' → RX z W'.F H' cls d x → Xq cls d H'
abbrev FE := Env → Store → Rs E
abbrev FT := Env → Store → Rs Bool
abbrev FA := Env → Store → Rs (List E)
/-- the reading of an expression by a function -/
def tE (z : Bz) (Wx : WX) (f : FE) : TE := fun σ H Q => ∃ W M ρ, StoreOk z W M H ∧ EnvOk z W ρ σ ∧ ∃ r, f ρ M = some r ∧ Post z W H r Q fun c d H' => Wx c d σ H'
def tT (z : Bz) (Wx : WX) (f : FT) : TT := fun σ H Q => ∃ W M ρ, StoreOk z W M H ∧ EnvOk z W ρ σ ∧ ∃ r, f ρ M = some r ∧ PostB z W H r Q fun c d H' => Wx c d σ H'
def tA (z : Bz) (Wx : WX) (f : FA) : TA := fun σ H Q => ∃ W M ρ, StoreOk z W M H ∧ EnvOk z W ρ σ ∧ ∃ r, f ρ M = some r ∧ PostA z W H r Q fun c d H' => Wx c d σ H'
theorem pe_of {X : Cx} {e : Expr} {t t' : TE} (h : PE X e t) (w : ∀ σ H Q, t' σ H Q → t σ H Q) : PE X e t' := ⟨fun pins s σ H Q I q => h.run pins s σ H Q I (w σ H Q q)⟩
theorem pt_of {X : Cx} {e : Expr} {t t' : TT} (h : PT X e t) (w : ∀ σ H Q, t' σ H Q → t σ H Q) : PT X e t' := ⟨fun pins s σ H Q I q => h.run pins s σ H Q I (w σ H Q q)⟩
theorem pa_of {X : Cx} {e : List Expr} {t t' : TA} (h : PA X e t) (w : ∀ σ H Q, t' σ H Q → t σ H Q) : PA X e t' := ⟨fun pos pins s σ H Q I q => h.run pos pins s σ H Q I (w σ H Q q)⟩
theorem pe_or {X : Cx} {e : Expr} {t t' : TE} (h : PE X e t) (h' : PE X e t') : PE X e (fun σ H Q => t σ H Q ∨ t' σ H Q) := ⟨fun pins s σ H Q I q => q.elim (h.run pins s σ H Q I) (h'.run pins s σ H Q I)⟩
end Pl

-- PL2
namespace Pl
open PySem PySem.Spec L2

def bnd {α β : Type} (x : Rs α) (k : α → Store → Rs β) : Rs β :=
  match x with
  | none => none
  | some (.inl e, M) => some (.inl e, M)
  | some (.inr a, M) => k a M
theorem bnd_ok {α β : Type} {a : α} {M : Store} {k : α → Store → Rs β} : bnd (some (.inr a, M)) k = k a M := rfl
theorem bnd_some {α β : Type} {x : Rs α} {k : α → Store → Rs β} {r : Sum Xn β × Store} (h : bnd x k = some r) : (∃ e M, x = some (.inl e, M) ∧ r = (.inl e, M)) ∨ ∃ a M, x = some (.inr a, M) ∧ k a M = some r := by
  match x, h with
  | some (.inl e, M), h => exact .inl ⟨e, M, rfl, (Option.some.inj h).symm⟩
  | some (.inr a, M), h => exact .inr ⟨a, M, rfl, h⟩
/-- the wish about an exception -/
def ExcOk {β : Type} (z : Bz) (W : Wd) (H : Hp) (r : Sum Xn β × Store) (Xq : XK) : Prop :=
  ∀ x M', r = (.inl x, M') → ∀ W' H' cls d, Step z W H W' M' H' → RX z W'.F H' cls d x → Xq cls d H'
theorem ExcOk.step {β : Type} {z : Bz} {W W1 : Wd} {M1 : Store} {H H1 : Hp} {r : Sum Xn β × Store} {Xq : XK} (h : ExcOk z W H r Xq) (s : Step z W H W1 M1 H1) : ExcOk z W1 H1 r Xq :=
  fun x M' e W' H' cls d t q => h x M' e W' H' cls d (s.trans t) q
theorem Post.exc {z : Bz} {W : Wd} {H : Hp} {r : Sum Xn E × Store} {Q : VK} {Xq : XK} (h : Post z W H r Q Xq) : ExcOk z W H r Xq := fun x M' e => by subst e; exact h
theorem PostB.exc {z : Bz} {W : Wd} {H : Hp} {r : Sum Xn Bool × Store} {Q : Bool → Hp → Prop} {Xq : XK} (h : PostB z W H r Q Xq) : ExcOk z W H r Xq := fun x M' e => by subst e; exact h
theorem PostA.exc {z : Bz} {W : Wd} {H : Hp} {r : Sum Xn (List E) × Store} {Q : List V → Hp → Prop} {Xq : XK} (h : PostA z W H r Q Xq) : ExcOk z W H r Xq := fun x M' e => by subst e; exact h
section
variable {z : Bz} {Wx : WX} {W : Wd} {M : Store} {ρ : Env} {σ : L2.St} {H : Hp} {β : Type} {r : Sum Xn β × Store}
theorem seqE {fa : FE} {k : E → Store → Rs β} {Q : VK} (ok : StoreOk z W M H) (env : EnvOk z W ρ σ) (hr : bnd (fa ρ M) k = some r) (hx : ExcOk z W H r fun c d H' => Wx c d σ H')
    (hk : ∀ e M1 W1 H1 v, Step z W H W1 M1 H1 → RE z W1 v e → k e M1 = some r → Q v H1) : tE z Wx fa σ H Q := by
  rcases bnd_some hr with ⟨x, M1, e1, e2⟩ | ⟨a, M1, e1, e2⟩
  · exact ⟨W, M, ρ, ok, env, _, e1, fun W' H' c d s q => hx x M1 e2 W' H' c d s q⟩
  · exact ⟨W, M, ρ, ok, env, _, e1, fun W' H' v s q => hk a M1 W' H' v s q e2⟩
theorem seqT {fa : FT} {k : Bool → Store → Rs β} {Q : Bool → Hp → Prop} (ok : StoreOk z W M H) (env : EnvOk z W ρ σ) (hr : bnd (fa ρ M) k = some r) (hx : ExcOk z W H r fun c d H' => Wx c d σ H')
    (hk : ∀ e M1 W1 H1, Step z W H W1 M1 H1 → k e M1 = some r → Q e H1) : tT z Wx fa σ H Q := by
  rcases bnd_some hr with ⟨x, M1, e1, e2⟩ | ⟨a, M1, e1, e2⟩
  · exact ⟨W, M, ρ, ok, env, _, e1, fun W' H' c d s q => hx x M1 e2 W' H' c d s q⟩
  · exact ⟨W, M, ρ, ok, env, _, e1, fun W' H' s => hk a M1 W' H' s e2⟩
theorem seqA {fa : FA} {k : List E → Store → Rs β} {Q : List V → Hp → Prop} (ok : StoreOk z W M H) (env : EnvOk z W ρ σ) (hr : bnd (fa ρ M) k = some r) (hx : ExcOk z W H r fun c d H' => Wx c d σ H')
    (hk : ∀ e M1 W1 H1 v, Step z W H W1 M1 H1 → REs z W1 v e → k e M1 = some r → Q v H1) : tA z Wx fa σ H Q := by
  rcases bnd_some hr with ⟨x, M1, e1, e2⟩ | ⟨a, M1, e1, e2⟩
  · exact ⟨W, M, ρ, ok, env, _, e1, fun W' H' c d s q => hx x M1 e2 W' H' c d s q⟩
  · exact ⟨W, M, ρ, ok, env, _, e1, fun W' H' v s q => hk a M1 W' H' v s q e2⟩
/-- the last part -/
theorem lastE {f : FE} {r : Sum Xn E × Store} {Q : VK} {W1 : Wd} {M1 : Store} {H1 : Hp} (s : Step z W H W1 M1 H1) (env : EnvOk z W ρ σ) (hr : f ρ M1 = some r) (h : Post z W H r Q fun c d H' => Wx c d σ H') : tE z Wx f σ H1 Q :=
  ⟨W1, M1, ρ, s.ok, env.w s.w, r, hr, match r, h with
    | (.inr e, M'), h => fun W' H' v t q => h W' H' v (s.trans t) q
    | (.inl x, M'), h => fun W' H' c d t q => h W' H' c d (s.trans t) q⟩
theorem lastT {f : FT} {r : Sum Xn Bool × Store} {Q : Bool → Hp → Prop} {W1 : Wd} {M1 : Store} {H1 : Hp} (s : Step z W H W1 M1 H1) (env : EnvOk z W ρ σ) (hr : f ρ M1 = some r) (h : PostB z W H r Q fun c d H' => Wx c d σ H') : tT z Wx f σ H1 Q :=
  ⟨W1, M1, ρ, s.ok, env.w s.w, r, hr, match r, h with
    | (.inr e, M'), h => fun W' H' t => h W' H' (s.trans t)
    | (.inl x, M'), h => fun W' H' c d t q => h W' H' c d (s.trans t) q⟩
end

def fVar (i : Nat) : FE := fun ρ M => match ρ[i]? with
  | some (some e) => some (.inr e, M)
  | _ => none
def fC (d : PD) : FE := fun _ M => some (.inr (.p d), M)
section
variable {X : Cx} {z : Bz} {Wx : WX}
theorem te_var {i : Nat} {σ : L2.St} {H : Hp} {Q : VK} (h : tE z Wx (fVar i) σ H Q) : tVar i σ H Q := by
  obtain ⟨W, M, ρ, ok, env, r, hr, po⟩ := h
  unfold fVar at hr
  split at hr
  · rename_i e he
    cases hr
    obtain ⟨v, hv, re⟩ := env.2 i e he
    exact ⟨v, hv, po W H v (.refl ok) re⟩
  · cases hr
theorem te_c {v : V} {d : PD} {σ : L2.St} {H : Hp} {Q : VK} (rv : ∀ F, RV z F v d) (h : tE z Wx (fC d) σ H Q) : tC v σ H Q := by
  obtain ⟨W, M, ρ, ok, env, r, hr, po⟩ := h
  cases hr
  exact po W H v (.refl ok) (.p (rv _))
theorem pd_var {i : Nat} {x : Str} {pos : Pos} (hN : X.N[i]? = some x) (hv : Vis X.env.scope x) (hd : (x == ("__debug__" : Str)) = false := by decide) (hcd : (x == ("__classdict__" : Str)) = false := by decide) : PE X (.Name x pos) (tE z Wx (fVar i)) :=
  pe_of (pe_var hN hv hd hcd) fun _ _ _ => te_var
theorem pd_int {i j pos} : PE X (.Constant (.int i) j pos) (tE z Wx (fC (.int i))) := pe_of pe_int fun _ _ _ => te_c fun _ => .int _
theorem pd_bl {b j pos} : PE X (.Constant (.bool b) j pos) (tE z Wx (fC (.bl b))) := pe_of pe_bl fun _ _ _ => te_c fun _ => .bl _
theorem pd_non {j pos} : PE X (.Constant .none j pos) (tE z Wx (fC .non)) := pe_of pe_non fun _ _ _ => te_c fun _ => .non
theorem pd_str {x j pos} : PE X (.Constant (.str x) j pos) (tE z Wx (fC (.str x))) := pe_of pe_str fun _ _ _ => te_c fun _ => .str _
end

abbrev G1 := E → Store → Option (E × Store)
abbrev G2 := E → E → Store → Option (E × Store)
abbrev GL := List E → Store → Option (E × Store)
def lft {α : Type} (o : Option (α × Store)) : Rs α := match o with
  | some (e, M) => some (.inr e, M)
  | none => none
theorem lft_some {α : Type} {o : Option (α × Store)} {r : Sum Xn α × Store} (h : lft o = some r) : ∃ e M, o = some (e, M) ∧ r = (.inr e, M) := by
  match o, h with
  | some (e, M), h => exact ⟨e, M, rfl, (Option.some.inj h).symm⟩
def r2D (z : Bz) (g : G2) : R2 := fun x y H Q => ∃ W M e1 e2, StoreOk z W M H ∧ RE z W x e1 ∧ RE z W y e2 ∧ ∃ e M', g e1 e2 M = some (e, M') ∧ ∀ W' H' v, Step z W H W' M' H' → RE z W' v e → Q v H'
def r1D (z : Bz) (g : G1) : V → Hp → VK → Prop := fun x H Q => ∃ W M e1, StoreOk z W M H ∧ RE z W x e1 ∧ ∃ e M', g e1 M = some (e, M') ∧ ∀ W' H' v, Step z W H W' M' H' → RE z W' v e → Q v H'
def rLD (z : Bz) (g : GL) : List V → Hp → VK → Prop := fun xs H Q => ∃ W M es, StoreOk z W M H ∧ REs z W xs es ∧ ∃ e M', g es M = some (e, M') ∧ ∀ W' H' v, Step z W H W' M' H' → RE z W' v e → Q v H'
theorem opR_of {X : Cx} {f : Value → Value → Sem Value} {r r' : R2} (h : OpR X f r) (w : ∀ x y H Q, r' x y H Q → r x y H Q) : OpR X f r' := fun pins s σ H x y v u Q I rx ry q => h pins s σ H x y v u Q I rx ry (w x y H Q q)
theorem callR_of {X : Cx} {f : Value} {r r' : List V → Hp → VK → Prop} (h : CallR X f r) (w : ∀ xs H Q, r' xs H Q → r xs H Q) : CallR X f r' := fun pins s σ H xs us Q I rx q => h pins s σ H xs us Q I rx (w xs H Q q)
def fBin (g : G2) (fa fb : FE) : FE := fun ρ M => bnd (fa ρ M) fun x M1 => bnd (fb ρ M1) fun y M2 => lft (g x y M2)
def fUn (g : G1) (fa : FE) : FE := fun ρ M => bnd (fa ρ M) fun x M1 => lft (g x M1)
def fCallB (g : GL) (fa : FA) : FE := fun ρ M => bnd (fa ρ M) fun xs M1 => lft (g xs M1)
section
variable {X : Cx} {z : Bz} {Wx : WX}
theorem te_bin {g : G2} {fa fb : FE} {σ : L2.St} {H : Hp} {Q : VK} (h : tE z Wx (fBin g fa fb) σ H Q) : tOp (r2D z g) (tE z Wx fa) (tE z Wx fb) σ H Q := by
  obtain ⟨W, M, ρ, ok, env, r, hr, po⟩ := h
  refine seqE ok env hr po.exc fun e1 M1 W1 H1 v1 s1 q1 hr1 => ?_
  refine seqE s1.ok (env.w s1.w) hr1 (po.exc.step s1) fun e2 M2 W2 H2 v2 s2 q2 hr2 => ?_
  obtain ⟨e, M', he, rfl⟩ := lft_some hr2
  exact ⟨W2, M2, e1, e2, s2.ok, s2.w.re q1, q2, e, M', he, fun W' H' v s q => po W' H' v ((s1.trans s2).trans s) q⟩
theorem pd_bin {op : Operator} {g : G2} {fa fb : FE} {a b : Expr} {pos : Pos} (ho : OpR X (binaryOp op) (r2D z g)) (ha : PE X a (tE z Wx fa)) (hb : PE X b (tE z Wx fb)) : PE X (.BinOp a op b pos) (tE z Wx (fBin g fa fb)) :=
  pe_of (pe_op ho ha hb) fun _ _ _ => te_bin
theorem pd_cmp {op : CmpOp} {g : G2} {fa fb : FE} {a b : Expr} {pos : Pos} (ho : OpR X (compareOp op) (r2D z g)) (ha : PE X a (tE z Wx fa)) (hb : PE X b (tE z Wx fb)) (hm : behindInMarks op b = false) : PE X (.Compare a [op] [b] pos) (tE z Wx (fBin g fa fb)) :=
  pe_of (pe_cmpR ho ha hb hm) fun _ _ _ => te_bin
theorem te_un {g : G1} {fa : FE} {σ : L2.St} {H : Hp} {Q : VK} (h : tE z Wx (fUn g fa) σ H Q) : tUn (r1D z g) (tE z Wx fa) σ H Q := by
  obtain ⟨W, M, ρ, ok, env, r, hr, po⟩ := h
  refine seqE ok env hr po.exc fun e1 M1 W1 H1 v1 s1 q1 hr1 => ?_
  obtain ⟨e, M', he, rfl⟩ := lft_some hr1
  exact ⟨W1, M1, e1, s1.ok, q1, e, M', he, fun W' H' v s q => po W' H' v (s1.trans s) q⟩
theorem pd_un {op : UnaryOp} {g : G1} {fa : FE} {a : Expr} {pos : Pos} (ho : UnR X (unaryOp op) (r1D z g)) (ha : PE X a (tE z Wx fa)) : PE X (.UnaryOp op a pos) (tE z Wx (fUn g fa)) :=
  pe_of (pe_un ho ha) fun _ _ _ => te_un

def fNil : FA := fun _ M => some (.inr [], M)
def fCons (fa : FE) (fr : FA) : FA := fun ρ M => bnd (fa ρ M) fun x M1 => bnd (fr ρ M1) fun xs M2 => some (.inr (x :: xs), M2)
theorem ta_nil {σ : L2.St} {H : Hp} {Q : List V → Hp → Prop} (h : tA z Wx fNil σ H Q) : tNil σ H Q := by
  obtain ⟨W, M, ρ, ok, env, r, hr, po⟩ := h
  cases hr
  exact po W H [] (.refl ok) .nil
theorem ta_cons {fa : FE} {fr : FA} {σ : L2.St} {H : Hp} {Q : List V → Hp → Prop} (h : tA z Wx (fCons fa fr) σ H Q) : tCons (tE z Wx fa) (tA z Wx fr) σ H Q := by
  obtain ⟨W, M, ρ, ok, env, r, hr, po⟩ := h
  refine seqE ok env hr po.exc fun e1 M1 W1 H1 v1 s1 q1 hr1 => ?_
  refine seqA s1.ok (env.w s1.w) hr1 (po.exc.step s1) fun e2 M2 W2 H2 v2 s2 q2 hr2 => ?_
  cases hr2
  exact po W2 H2 (v1 :: v2) (s1.trans s2) (.cons (s2.w.re q1) q2)
theorem pd_nil : PA X [] (tA z Wx fNil) := pa_of pa_nil fun _ _ _ => ta_nil
theorem pd_cons {fa : FE} {fr : FA} {e : Expr} {es : List Expr} (ha : PE X e (tE z Wx fa)) (hr : PA X es (tA z Wx fr)) (hs : starEach (e :: es) X.env = (false, eval e X.env) :: starEach es X.env := by rfl) : PA X (e :: es) (tA z Wx (fCons fa fr)) :=
  pa_of (pa_cons ha hr hs) fun _ _ _ => ta_cons

theorem te_callB {g : GL} {fa : FA} {σ : L2.St} {H : Hp} {Q : VK} (h : tE z Wx (fCallB g fa) σ H Q) : tCB (rLD z g) (tA z Wx fa) σ H Q := by
  obtain ⟨W, M, ρ, ok, env, r, hr, po⟩ := h
  refine seqA ok env hr po.exc fun e1 M1 W1 H1 v1 s1 q1 hr1 => ?_
  obtain ⟨e, M', he, rfl⟩ := lft_some hr1
  exact ⟨W1, M1, e1, s1.ok, q1, e, M', he, fun W' H' v s q => po W' H' v (s1.trans s) q⟩
theorem pd_callB {x : Str} {id : String} {g : GL} {fa : FA} {e : Expr} {es : List Expr} {p pos : Pos} (hc : CallR X (.builtin id) (rLD z g)) (hg : Gl X x) (hm : X.mg x = none) (hv : bootBuiltins x = some (.builtin id)) (ha : PA X (e :: es) (tA z Wx fa)) (hn : x ≠ "__name__" := by decide) (hdb : (x == ("__debug__" : Str)) = false := by decide)
    (he : starEach (e :: es) X.env = (false, eval e X.env) :: starEach es X.env := by rfl) (hpl : (backTo pos (starEach es X.env)).any (·.1) = false := by rfl) : PE X (.Call (.Name x p) (e :: es) [] pos) (tE z Wx (fCallB g fa)) :=
  pe_of (pe_callB hc hg hm hv ha hn hdb he hpl) fun _ _ _ => te_callB
theorem pd_callTy {x : Str} {T : String} {g : GL} {fa : FA} {e : Expr} {es : List Expr} {p pos : Pos} (hc : CallR X (.type T) (rLD z g)) (hg : Gl X x) (hm : X.mg x = none) (hv : bootBuiltins x = some (.type T)) (ha : PA X (e :: es) (tA z Wx fa)) (hn : x ≠ "__name__" := by decide) (hdb : (x == ("__debug__" : Str)) = false := by decide)
    (he : starEach (e :: es) X.env = (false, eval e X.env) :: starEach es X.env := by rfl) (hpl : (backTo pos (starEach es X.env)).any (·.1) = false := by rfl) : PE X (.Call (.Name x p) (e :: es) [] pos) (tE z Wx (fCallB g fa)) :=
  pe_of (pe_callTy hc hg hm hv ha hn hdb he hpl) fun _ _ _ => te_callB

def asB : E → Option Bool
  | .p (.bl b) => some b
  | _ => none
/-- a bool as a test -/
def fTst (f : FE) : FT := fun ρ M => bnd (f ρ M) fun x M1 => match asB x with
  | some b => some (.inr b, M1)
  | none => none
theorem asB_some {e : E} {b : Bool} (h : asB e = some b) : e = .p (.bl b) := by
  match e, h with
  | .p (.bl c), h => rw [Option.some.inj h]
theorem re_bl {W : Wd} {v : V} {b : Bool} (h : RE z W v (.p (.bl b))) : v = .bl b := by cases h with | p h => cases h; rfl
theorem tt_tst {f : FE} {σ : L2.St} {H : Hp} {Q : Bool → Hp → Prop} (h : tT z Wx (fTst f) σ H Q) : tTest (tE z Wx f) σ H Q := by
  obtain ⟨W, M, ρ, ok, env, r, hr, po⟩ := h
  refine seqE ok env hr po.exc fun e1 M1 W1 H1 v1 s1 q1 hr1 => ?_
  split at hr1
  · rename_i b hb
    cases hr1
    have := asB_some hb
    subst this
    rw [re_bl q1]
    exact ⟨b, rfl, po W1 H1 s1⟩
  · cases hr1
theorem pd_tcmp {op : CmpOp} {g : G2} {fa fb : FE} {a b : Expr} {pos : Pos} (ho : OpR X (compareOp op) (r2D z g)) (ha : PE X a (tE z Wx fa)) (hb : PE X b (tE z Wx fb)) (hm : behindInMarks op b = false) : PT X (.Compare a [op] [b] pos) (tT z Wx (fTst (fBin g fa fb))) := by
  refine pt_of (pt_cmpR ho ha hb hm) fun σ H Q h => ?_
  obtain ⟨W, M, ρ, ok, env, r, hr, po⟩ := tt_tst h
  exact te_bin ⟨W, M, ρ, ok, env, r, hr, po⟩
def fNotT (f : FT) : FT := fun ρ M => bnd (f ρ M) fun b M1 => some (.inr (!b), M1)
theorem pd_tnot {f : FT} {a : Expr} {pos : Pos} (ha : PT X a (tT z Wx f)) : PT X (.UnaryOp .Not a pos) (tT z Wx (fNotT f)) := by
  refine pt_of (pt_not ha) fun σ H Q h => ?_
  obtain ⟨W, M, ρ, ok, env, r, hr, po⟩ := h
  refine seqT ok env hr po.exc fun b M1 W1 H1 s1 hr1 => ?_
  cases hr1
  exact po W1 H1 s1
def fAndT (f g : FT) : FT := fun ρ M => bnd (f ρ M) fun b M1 => if b = true then g ρ M1 else some (.inr false, M1)
def fOrT (f g : FT) : FT := fun ρ M => bnd (f ρ M) fun b M1 => if b = true then some (.inr true, M1) else g ρ M1
end
end Pl

-- PL3
namespace Pl
open PySem PySem.Spec L2

section
variable {z : Bz} {W W' : Wd} {M : Store} {H H' : Hp} {a p : Addr}
theorem same_rd (s : Same H H') {u : HO} (h : Rd H a u) : Rd H' a u := h.imp (s _ _) fun ⟨o, q⟩ => ⟨o, s _ _ q⟩
theorem CellAt.mono {c : Cell} (x : WExt W W') (s : ∀ o, H a = some o → H' a = some o) (so : ∀ dx, H dx = some (.own a) → H' dx = some (.own a)) (h : CellAt z W H a c) : CellAt z W' H' a c := by
  cases c with
  | lst xs => obtain ⟨vs, e, l, r⟩ := h; exact ⟨vs, s _ e, l, x.res r⟩
  | dic xs => obtain ⟨vs, e, l, r⟩ := h; exact ⟨vs, s _ e, l, x.rek r⟩
  | dcN xs => obtain ⟨vs, e, l, r⟩ := h; exact ⟨vs, s _ e, l, x.ren r⟩
  | ins c xs => obtain ⟨dx, vs, e, d, l, r⟩ := h; exact ⟨dx, vs, s _ e, so _ d, l, x.ref r⟩
theorem StoreOk.none_F (ok : StoreOk z W M H) (h : H p = none) : W.F p = none := ok.same.free h
theorem StoreOk.notin (ok : StoreOk z W M H) (h : H p = none) : p ∉ W.α := fun q => ok.live p q h
theorem same_upd (h : H p = none) {o : HO} : Same H (upd H p o) := fun b u q => by rw [upd_ne (ne_of_none q h)]; exact q
/-- a new object that never changes -/
theorem newF (ok : StoreOk z W M H) (h : H p = none) (o : HO) (ho : ∀ ps, o ≠ .tbl ps := by intro _ q; cases q) : Step z W H ⟨upd W.F p o, W.α⟩ M (upd H p o) := by
  have s := same_upd (o := o) h
  have w : WExt W ⟨upd W.F p o, W.α⟩ := ⟨.of (same_upd (ok.none_F h)), [], by simp⟩
  refine ⟨same_upd (ok.none_F h), ⟨[], by simp, by simp⟩, ⟨fun b u q => ?_, ok.len, ok.nd, fun b q n => ?_, fun k c q => ?_, ok.tabs.ext s, fun b ps q => ?_, fun b hb ps hq q => ?_⟩, fun b u q => ?_, fun b u q _ _ => s b u q⟩
  rotate_right
  · by_cases e : b = p
    · subst e; exact .inr (.inl (.of h))
    · have q : upd W.F p o b = some u := q
      rw [upd_ne e] at q; exact .inl q
  · by_cases e : b = p
    · subst e; simp only [upd_same] at q ⊢; exact q
    · have q : upd W.F p o b = some u := q
      rw [upd_ne e] at q; exact s _ _ (ok.same _ _ q)
  · have := ok.live b q
    cases e : H b with
    | none => exact this e
    | some u => rw [s _ _ e] at n; cases n
  · obtain ⟨b, e1, e2, e3⟩ := ok.cell k c q
    have nb : b ≠ p := fun e => ok.notin h (e ▸ List.mem_of_getElem? e1)
    exact ⟨b, e1, by show upd W.F p o b = none; rw [upd_ne nb]; exact e2, e3.mono w (fun _ => s _ _) fun _ => s _ _⟩
  · have q : upd W.F p o b = some (.tbl ps) := q
    by_cases e : b = p
    · rw [e, upd_same] at q; exact ho _ (Option.some.inj q)
    · rw [upd_ne e] at q; exact ok.ntb b ps q
  · rw [upd_ne (show b ≠ p from fun e => ok.notin h (e ▸ hb))] at q
    exact ok.nta b hb ps hq q
/-- a new cell -/
theorem newC (ok : StoreOk z W M H) (h : H p = none) {o : HO} {c : Cell} (hc : CellAt z ⟨W.F, W.α ++ [p]⟩ (upd H p o) p c) (hod : ¬ OddO o := by rintro (⟨_, q⟩ | ⟨_, _, q⟩) <;> first | cases q | (unfold LamX.CodeO at q; cases q)) : Step z W H ⟨W.F, W.α ++ [p]⟩ (M ++ [some c]) (upd H p o) := by
  have s := same_upd (o := o) h
  have w : WExt W ⟨W.F, W.α ++ [p]⟩ := ⟨.of (.refl _), [p], rfl⟩
  refine ⟨.refl _, ⟨[p], rfl, fun b q => by rw [List.mem_singleton.mp q]; exact .of h⟩, ⟨ok.same.trans s, by simp [ok.len], ?_, fun b q n => ?_, fun k c' q => ?_, ok.tabs.ext s, ok.ntb, fun b hb ps hq q => ?_⟩, fun _ _ q => .inl q, fun b u q _ _ => s b u q⟩
  · refine List.nodup_append.mpr ⟨ok.nd, by simp, fun b hb c hc e => ?_⟩
    subst e
    rw [List.mem_singleton.mp hc] at hb
    exact ok.notin h hb
  · rcases List.mem_append.mp q with q | q
    · cases e : H b with
      | none => exact ok.live b q e
      | some u => rw [s _ _ e] at n; cases n
    · rw [List.mem_singleton.mp q, upd_same] at n; cases n
  · by_cases hk : k < M.length
    · rw [List.getElem?_append_left hk] at q
      obtain ⟨b, e1, e2, e3⟩ := ok.cell k c' q
      refine ⟨b, ?_, e2, e3.mono w (fun _ => s _ _) fun _ => s _ _⟩
      show (W.α ++ [p])[k]? = some b
      rw [List.getElem?_append_left (by rw [← ok.len]; exact hk)]
      exact e1
    · have hk2 : k = M.length := by
        have := (List.getElem?_eq_some_iff.mp q).1
        simp at this
        omega
      subst hk2
      rw [List.getElem?_append_right (Nat.le_refl _)] at q
      simp at q
      subst q
      refine ⟨p, ?_, ok.none_F h, hc⟩
      show (W.α ++ [p])[M.length]? = some p
      rw [ok.len, List.getElem?_append_right (Nat.le_refl _)]
      simp
  · rcases List.mem_append.mp hb with hb | hb
    · rw [upd_ne (show b ≠ p from fun e => ok.notin h (e ▸ hb))] at q
      exact ok.nta b hb ps hq q
    · rw [List.mem_singleton.mp hb, upd_same] at q
      exact hod (Option.some.inj q ▸ hq)
theorem setTabs {T : List (Addr × Str)} {H : Hp} {a : Addr} {o : HO} (ht : ∀ ps, H a ≠ some (.tbl ps)) (hc : ∀ c q, H a ≠ some (LamX.CodeO c q)) (h : LamX.Tabs T H) : LamX.Tabs T (upd H a o) := fun p hp => by
  obtain ⟨ps, h1, h2, h3⟩ := h p hp
  refine ⟨ps, by rw [upd_ne (show p.1 ≠ a from fun e => ht ps (by rw [← e]; exact h1))]; exact h1, h2, fun pos cv hq => ?_⟩
  obtain ⟨c, e1, e2⟩ := h3 pos cv hq
  exact ⟨c, e1, by rw [upd_ne (show c ≠ a from fun e => hc c p.2 (by rw [← e]; exact e2))]; exact e2⟩
theorem nest_ne {P : Program} {w : World} {a c : Addr} {L : List (NestedKey × Addr × V)} {q : Str} : NestD P w a L ≠ LamX.CodeO c q := fun e => by
  let ob : Obj := { cls := .none, data := .fields #[.none, .str q 0] }
  let h : Heap := { objs := Array.replicate (c + 1) ob }
  have at_ : ∀ b o, h.get? b = some o → o = ob := fun b o k => by
    unfold Heap.get? at k
    have hb : h.objs[b]? = if b < c + 1 then some ob else none := by
      show (Array.replicate (c + 1) ob)[b]? = _
      rw [Array.getElem?_replicate]
    rw [hb] at k
    by_cases hl : b < c + 1
    · rw [if_pos hl] at k
      exact (Option.some.inj k).symm
    · rw [if_neg hl] at k
      cases k
  have hc : h.get? c = some ob := by
    unfold Heap.get?
    have hb : h.objs[c]? = some ob := by
      show (Array.replicate (c + 1) ob)[c]? = _
      rw [Array.getElem?_replicate, if_pos (Nat.lt_succ_self c)]
    rw [hb]
  unfold NestD LamX.CodeO at e
  have e2 := congrFun (HO.ext.inj e) h
  have y : ∃ (oc : Obj) (vs : Array Value) (t : Tok), h.get? c = some oc ∧ oc.data = .fields vs ∧ vs[1]? = some (.str q t) := ⟨ob, _, 0, hc, rfl, rfl⟩
  rw [← e2] at y
  obtain ⟨xs, _, _, _, o, es, ep, k1, _, k2, _⟩ := y
  rw [at_ a o k1] at k2
  cases k2
theorem cell_nc {z : Bz} {W : Wd} {H : Hp} {a : Addr} {c : Cell} (h : CellAt z W H a c) (b : Addr) (q : Str) : H a ≠ some (LamX.CodeO b q) := fun n => by
  unfold LamX.CodeO at n
  cases c with
  | lst xs => obtain ⟨vs, e, _⟩ := h; rw [n] at e; cases e
  | dic xs =>
    obtain ⟨vs, e, _⟩ := h
    rw [n] at e; cases e
  | dcN xs => obtain ⟨L, e, _⟩ := h; rw [n] at e; exact nest_ne (Option.some.inj e).symm
  | ins c xs => obtain ⟨dx, vs, e, _⟩ := h; rw [n] at e; cases e
/-- a cell changes -/
theorem setC (ok : StoreOk z W M H) {k : Nat} {c c' : Cell} (hk : M[k]? = some (some c)) (ha : W.α[k]? = some a) {o : HO} (ho : ∀ dx, o ≠ .own dx) (hn : ∀ dx, H a ≠ some (.own dx)) (hc : CellAt z W (upd H a o) a c') (hod : ¬ OddO o := by rintro (⟨_, q⟩ | ⟨_, _, q⟩) <;> first | cases q | (unfold LamX.CodeO at q; cases q)) : Step z W H W (M.set k (some c')) (upd H a o) := by
  have at0 : CellAt z W H a c := by
    obtain ⟨b, e1, _, e3⟩ := ok.cell k c hk
    rw [ha] at e1; cases e1
    exact e3
  have am : a ∈ W.α := List.mem_of_getElem? ha
  have Fa : W.F a = none := by
    obtain ⟨b, e1, e2, _⟩ := ok.cell k c hk
    rw [ha] at e1; cases e1
    exact e2
  refine ⟨.refl _, ⟨[], by simp, by simp⟩, ⟨fun b u q => ?_, by simp [ok.len], ok.nd, fun b q n => ?_, fun j c2 q => ?_, setTabs (fun ps => ok.nta a am _ (.inl ⟨ps, rfl⟩)) (cell_nc at0) ok.tabs, ok.ntb, fun b hb ps hq q => ?_⟩, fun _ _ q => .inl q, fun b u q hb _ => ?_⟩
  · rw [upd_ne (ne_of_none q Fa)]; exact ok.same _ _ q
  · by_cases e : b = a
    · rw [e, upd_same] at n; cases n
    · rw [upd_ne e] at n; exact ok.live b q n
  · by_cases hj : j = k
    · subst hj
      rw [List.getElem?_set_self (List.getElem?_eq_some_iff.mp hk).1] at q
      cases q
      exact ⟨a, ha, Fa, hc⟩
    · rw [List.getElem?_set_ne (Ne.symm hj)] at q
      obtain ⟨b, e1, e2, e3⟩ := ok.cell j c2 q
      have nb : b ≠ a := fun e => hj (by
        subst e
        have h1 := List.getElem?_eq_some_iff.mp e1
        have h2 := List.getElem?_eq_some_iff.mp ha
        exact (List.getElem_inj ok.nd).mp (h1.2.trans h2.2.symm))
      refine ⟨b, e1, e2, e3.mono ⟨.of (.refl _), [], by simp⟩ (fun u q => by rw [upd_ne nb]; exact q) fun dx q => ?_⟩
      have : dx ≠ a := fun e => hn b (e ▸ q)
      rw [upd_ne this]; exact q
  · by_cases e : b = a
    · rw [e, upd_same] at q; exact hod (Option.some.inj q ▸ hq)
    · rw [upd_ne e] at q; exact ok.nta b hb ps hq q
  · have nb : b ≠ a := fun e => hb (e ▸ List.mem_of_getElem? ha)
    rw [upd_ne nb]; exact q
end

def asPs : List E → Option (List PD)
  | [] => some []
  | .p d :: r => match asPs r with
    | some ds => some (d :: ds)
    | none => none
  | .r _ :: _ => none
  | .fn _ _ _ _ _ _ :: _ => none
def mkLst (m : Bool) (es : List E) (M : Store) : Option (E × Store) :=
  if m then some (.r M.length, M ++ [some (.lst es)]) else match asPs es with
    | some ds => some (.p (.lst ds), M)
    | none => none
def mkTup (es : List E) (M : Store) : Option (E × Store) := match asPs es with
  | some ds => some (.p (.tup ds), M)
  | none => none
theorem asPs_rvs {z : Bz} {W : Wd} : ∀ {es : List E} {ds : List PD} {vs : List V}, asPs es = some ds → REs z W vs es → RVs z W.F vs ds
  | [], ds, vs, h, r => by cases r; cases h; exact .nil
  | .p d :: es, ds, vs, h, r => by
    unfold asPs at h
    split at h
    · rename_i ds' e
      cases h
      cases r with
      | cons h1 h2 => cases h1 with | p h1 => exact .cons h1 (asPs_rvs e h2)
    · cases h
  | .r k :: es, ds, vs, h, r => by unfold asPs at h; cases h
  | .fn _ _ _ _ _ _ :: es, ds, vs, h, r => by unfold asPs at h; cases h
theorem asPs_map : ∀ ds : List PD, asPs (ds.map .p) = some ds
  | [] => rfl
  | d :: ds => by show asPs (.p d :: ds.map .p) = _; unfold asPs; rw [asPs_map ds]
theorem rvs_res {z : Bz} {W : Wd} : ∀ {ds : List PD} {vs : List V}, RVs z W.F vs ds → REs z W vs (ds.map .p)
  | _, _, .nil => .nil
  | _, _, .cons h r => .cons (.p h) (rvs_res r)
section
variable {z : Bz} {W : Wd} {M M' : Store} {H : Hp} {es : List E} {vs : List V} {e : E} {Q : VK} {p : Addr}
theorem mkLst_ok {m : Bool} (ok : StoreOk z W M H) (h : mkLst m es M = some (e, M')) (r : REs z W vs es) (hl : vs.length ≤ sizeLine) (hp : H p = none) (hq : ∀ W' H' v, Step z W H W' M' H' → RE z W' v e → Q v H') : Q (.ref p) (upd H p (.lst vs)) := by
  unfold mkLst at h
  split at h
  · cases h
    refine hq _ _ _ (newC (o := .lst vs) ok hp ⟨vs, upd_same, hl, ?_⟩) (.r ?_)
    · exact WExt.res (W := W) (W' := ⟨W.F, W.α ++ [p]⟩) ⟨.of (.refl _), [p], rfl⟩ r
    · show (W.α ++ [p])[M.length]? = some p
      rw [ok.len, List.getElem?_append_right (Nat.le_refl _)]
      simp
  · split at h
    · rename_i ds hd
      cases h
      have s := newF ok hp (.lst vs)
      exact hq _ _ _ s (.p (.lst upd_same hl ((asPs_rvs hd r).ext s.w.ext)))
    · cases h
theorem mkTup_ok (ok : StoreOk z W M H) (h : mkTup es M = some (e, M')) (r : REs z W vs es) (hl : vs.length ≤ sizeLine) (hp : H p = none) (hq : ∀ W' H' v, Step z W H W' M' H' → RE z W' v e → Q v H') : Q (.ref p) (upd H p (.tup vs)) := by
  unfold mkTup at h
  split at h
  · rename_i ds hd
    cases h
    have s := newF ok hp (.tup vs)
    exact hq _ _ _ s (.p (.tup (SqT.of upd_same) hl ((asPs_rvs hd r).ext s.w.ext)))
  · cases h
end
end Pl

-- PL4
namespace Pl
open PySem PySem.Spec L2

structure Fits (X : Cx) (z : Bz) : Prop where
  prog : z.prog = X.prog
  w : z.w = X.w
  K : z.K = X.K
mutual
def toPy : PD → Option PyData
  | .non => some .none
  | .bl b => some (.bool b)
  | .int i => some (.int i)
  | .str s => some (.str s)
  | .lst ds => (toPys ds).map .list
  | .tup ds => (toPys ds).map .tuple
  | _ => none
def toPys : List PD → Option (List PyData)
  | [] => some []
  | d :: ds => match toPy d, toPys ds with
    | some a, some b => some (a :: b)
    | _, _ => none
end
def cellPy : Option (Option Cell) → Option PyData
  | some (some (.lst es)) => match asPs es with
    | some ds => (toPys ds).map .list
    | none => none
  | _ => none
def toPyE (M : Store) : E → Option PyData
  | .p d => toPy d
  | .r k => cellPy M[k]?
  | .fn _ _ _ _ _ _ => none
mutual
theorem toPy_plain : ∀ {d : PD} {x : PyData}, toPy d = some x → x.plain = true
  | .non, x, h => by cases h; rfl
  | .bl _, x, h => by cases h; rfl
  | .int _, x, h => by cases h; rfl
  | .str _, x, h => by cases h; rfl
  | .lst ds, x, h => by
    unfold toPy at h
    cases e : toPys ds with
    | none => rw [e] at h; cases h
    | some l => rw [e] at h; cases h; exact toPys_plain e
  | .tup ds, x, h => by
    unfold toPy at h
    cases e : toPys ds with
    | none => rw [e] at h; cases h
    | some l => rw [e] at h; cases h; exact toPys_plain e
  | .scr _, x, h => by cases h
  | .dic _, x, h => by cases h
  | .set _, x, h => by cases h
  | .iset _, x, h => by cases h
  | .ins _ _, x, h => by cases h
  | .exn _ _, x, h => by cases h
  | .ty _, x, h => by cases h
  | .cls _, x, h => by cases h
theorem toPys_plain : ∀ {ds : List PD} {xs : List PyData}, toPys ds = some xs → PyData.plainAll xs = true
  | [], xs, h => by cases h; rfl
  | d :: ds, xs, h => by
    unfold toPys at h
    split at h
    · rename_i a b e1 e2
      cases h
      show (a.plain && PyData.plainAll b) = true
      rw [toPy_plain e1, toPys_plain e2]; rfl
    · cases h
end
theorem toPyE_plain {M : Store} {e : E} {x : PyData} (h : toPyE M e = some x) : x.plain = true := by
  cases e with
  | p d => exact toPy_plain h
  | fn _ _ _ _ _ _ => cases h
  | r k =>
    have h : cellPy M[k]? = some x := h
    unfold cellPy at h
    split at h
    · split at h
      · rename_i ds _
        cases e : toPys ds with
        | none => rw [e] at h; cases h
        | some l => rw [e] at h; cases h; exact toPys_plain e
      · cases h
    · cases h
mutual
theorem RV.dp {z : Bz} {F H : Hp} (s : Same F H) : ∀ {v : V} {d : PD} {x : PyData}, RV z F v d → toPy d = some x → Dp z.K H v x
  | _, _, x, .non, h => by cases h; exact .non
  | _, _, x, .bl b, h => by cases h; exact .bl b
  | _, _, x, .int b, h => by cases h; exact .int b
  | _, _, x, .str b, h => by cases h; exact .str b
  | _, _, x, .lst (ds := ds) e l r, h => by
    unfold toPy at h
    cases q : toPys ds with
    | none => rw [q] at h; cases h
    | some xs => rw [q] at h; cases h; exact .lst (.of (s _ _ e)) (RVs.dp s r q)
  | _, _, x, .tup (ds := ds) e l r, h => by
    unfold toPy at h
    cases q : toPys ds with
    | none => rw [q] at h; cases h
    | some xs => rw [q] at h; cases h; exact .tup ((Ext.of s).sqT e) (RVs.dp s r q)
  | _, _, x, .scr _ _ _, h => by cases h
  | _, _, x, .dic _ _ _, h => by cases h
  | _, _, x, .set _ _ _, h => by cases h
  | _, _, x, .iset _ _ _, h => by cases h
  | _, _, x, .ins _ _, h => by cases h
  | _, _, x, .exn0 _, h => by cases h
  | _, _, x, .exn _ _ _ _, h => by cases h
  | _, _, x, .ty _, h => by cases h
  | _, _, x, .cls _, h => by cases h
theorem RVs.dp {z : Bz} {F H : Hp} (s : Same F H) : ∀ {vs : List V} {ds : List PD} {xs : List PyData}, RVs z F vs ds → toPys ds = some xs → DpAll z.K H vs xs
  | _, _, xs, .nil, h => by cases h; exact .nil
  | _, _, xs, .cons (d := d) (ds := ds) r rs, h => by
    unfold toPys at h
    split at h
    · rename_i a b e1 e2
      cases h
      exact .cons (RV.dp s r e1) (RVs.dp s rs e2)
    · cases h
end
section
variable {z : Bz} {W : Wd} {M : Store} {H : Hp} {v : V} {e : E}
theorem RE.dp {x : PyData} (ok : StoreOk z W M H) (r : RE z W v e) (h : toPyE M e = some x) : Dp z.K H v x := by
  cases r with
  | p r => exact r.dp ok.same h
  | fn _ _ => cases h
  | r ha =>
    rename_i a k
    have h : cellPy M[k]? = some x := h
    unfold cellPy at h
    split at h
    · rename_i es hM
      split at h
      · rename_i ds hd
        obtain ⟨b, e1, e2, vs, e3, e4, e5⟩ := ok.cell k _ hM
        rw [ha] at e1; cases e1
        cases q : toPys ds with
        | none => rw [q] at h; cases h
        | some xs => rw [q] at h; cases h; exact .lst (.of e3) (RVs.dp ok.same (asPs_rvs hd e5) q)
      · cases h
    · cases h
/-- what stands as a list -/
def asLst (M : Store) : E → Option (List E)
  | .p (.lst ds) => some (ds.map .p)
  | .r k => match M[k]? with
    | some (some (.lst es)) => some es
    | _ => none
  | _ => none
def asTup : E → Option (List E)
  | .p (.tup ds) => some (ds.map .p)
  | _ => none
def asInt : E → Option Int
  | .p (.int i) => some i
  | _ => none
def asStr : E → Option Str
  | .p (.str i) => some i
  | _ => none
theorem asLst_ok {es : List E} (ok : StoreOk z W M H) (r : RE z W v e) (h : asLst M e = some es) : ∃ a vs, v = .ref a ∧ H a = some (.lst vs) ∧ vs.length ≤ sizeLine ∧ REs z W vs es := by
  unfold asLst at h
  split at h
  · cases h
    cases r with | p r => cases r with | lst e l rs => exact ⟨_, _, rfl, ok.same _ _ e, l, rvs_res rs⟩
  · rename_i k
    split at h
    · rename_i es' hM
      cases h
      cases r with | r ha =>
        obtain ⟨b, e1, e2, vs, e3, e4, e5⟩ := ok.cell k _ hM
        rw [ha] at e1; cases e1
        exact ⟨_, _, rfl, e3, e4, e5⟩
    · cases h
  · cases h
theorem asTup_ok {es : List E} (ok : StoreOk z W M H) (r : RE z W v e) (h : asTup e = some es) : ∃ a vs, v = .ref a ∧ SqT z.K H a vs ∧ vs.length ≤ sizeLine ∧ REs z W vs es := by
  unfold asTup at h
  split at h
  · cases h
    cases r with | p r => cases r with | tup e l rs => exact ⟨_, _, rfl, (Ext.of ok.same).sqT e, l, rvs_res rs⟩
  · cases h
theorem asInt_ok {i : Int} (r : RE z W v e) (h : asInt e = some i) : v = .int i := by
  unfold asInt at h
  split at h
  · cases h; cases r with | p r => cases r; rfl
  · cases h
theorem asStr_ok {i : Str} (r : RE z W v e) (h : asStr e = some i) : v = .str i := by
  unfold asStr at h
  split at h
  · cases h; cases r with | p r => cases r; rfl
  · cases h
theorem asB_ok {b : Bool} (r : RE z W v e) (h : asB e = some b) : v = .bl b := by
  have := asB_some h
  subst this
  exact re_bl r
end

def gBl (o : Option Bool) (M : Store) : Option (E × Store) := match o with
  | some b => some (.p (.bl b), M)
  | none => none
def pyEq (M : Store) (a b : E) : Option Bool := match toPyE M a, toPyE M b with
  | some x, some y => if min x.depth y.depth ≤ 60 then some (PyData.eqv x y) else none
  | _, _ => none
def gEq : G2 := fun a b M => gBl (pyEq M a b) M
def gNe : G2 := fun a b M => gBl ((pyEq M a b).map not) M
def pyIn (M : Store) (a c : E) : Option Bool := match toPyE M a, toPyE M c with
  | some x, some (.list ys) => if min (PyData.depthAll ys) x.depth ≤ 60 then some (ys.any fun y => PyData.eqv y x) else none
  | some x, some (.tuple ys) => if min (PyData.depthAll ys) x.depth ≤ 60 then some (ys.any fun y => PyData.eqv y x) else none
  | some (.str x), some (.str y) => some (!(Builtin.Str.occurrences y x 0 y.length 1).isEmpty)
  | _, _ => none
def gIn : G2 := fun a b M => gBl (pyIn M a b) M
def gNotIn : G2 := fun a b M => gBl ((pyIn M a b).map not) M
def notNone : PyData → Bool
  | .none => false
  | _ => true
def pyLt (M : Store) (a b : E) : Option Bool := match toPyE M a, toPyE M b with
  | some (.int i), some (.int j) => some (decide (i < j))
  | some x, some y => if (PySem.W.alike x y && notNone x && decide (min x.depth y.depth ≤ 60)) = true then some (PySem.W.dataLt x y) else none
  | _, _ => none
def pyLe (M : Store) (a b : E) : Option Bool := match toPyE M a, toPyE M b with
  | some (.int i), some (.int j) => some (decide (i ≤ j))
  | some x, some y => if (PySem.W.alike x y && notNone x && decide (min x.depth y.depth ≤ 60)) = true then some (!PySem.W.dataLt y x) else none
  | _, _ => none
def gLt : G2 := fun a b M => gBl (pyLt M a b) M
def gGt : G2 := fun a b M => gBl (pyLt M b a) M
def gLe : G2 := fun a b M => gBl (pyLe M a b) M
def gGe : G2 := fun a b M => gBl (pyLe M b a) M
/-- is None -/
def isNonE : E → Bool
  | .p .non => true
  | _ => false
def gIsN : G2 := fun a b M => match b with
  | .p .non => some (.p (.bl (isNonE a)), M)
  | _ => none
def gIsNotN : G2 := fun a b M => match b with
  | .p .non => some (.p (.bl (!isNonE a)), M)
  | _ => none
theorem gBl_some {o : Option Bool} {M M' : Store} {e : E} (h : gBl o M = some (e, M')) : ∃ b, o = some b ∧ e = .p (.bl b) ∧ M' = M := by
  cases o with
  | none => cases h
  | some b => cases h; exact ⟨b, rfl, rfl, rfl⟩
theorem notNone_ne {x : PyData} (h : notNone x = true) : x ≠ .none := by
  intro e; subst e; cases h
section
variable {X : Cx} {z : Bz}
theorem op_bl {f : Value → Value → Sem Value} {o : Store → E → E → Option Bool} (F : Fits X z)
    (h : ∀ (M : Store) (a b : E) (k : Bool), o M a b = some k → ∀ (pins : List (Addr × Obj)) (s : Shared) (σ : L2.St) (H : Hp) (W : Wd) (x y : V) (v u : Value) (Q : Value → Shared → Prop), Inv X pins σ H s → StoreOk z W M H → RE z W x a → RE z W y b → RelV x v → RelV y u → (∀ tk, Q (.bool k) { s with toks := tk }) →
      wpAny (model X.prog X.w) X.A (f v u) Q X.xe s) : OpR X f (r2D z fun a b M => gBl (o M a b) M) := by
  intro pins s σ H x y v u Q I rx ry ⟨W, M, a, b, ok, ra, rb, e, M', hg, hq⟩
  obtain ⟨k, h1, rfl, rfl⟩ := gBl_some hg
  exact h _ a b k h1 pins s σ H W x y v u _ I ok ra rb rx ry fun tk => ⟨.bl k, H, I.tok _, rfl, hq W H _ (.refl ok) (.p (.bl _))⟩
theorem reads_of (F : Fits X z) {pins : List (Addr × Obj)} {s : Shared} {σ : L2.St} {H : Hp} {W : Wd} {M : Store} {x : V} {v : Value} {a : E} {d : PyData} (I : Inv X pins σ H s) (ok : StoreOk z W M H) (ra : RE z W x a) (rx : RelV x v) (h : toPyE M a = some d) : ∃ as, Reads s.heap v d as :=
  Dp.reads I d x v (F.K ▸ ra.dp ok h) rx
theorem tok_self {s : Shared} : { s with toks := s.toks } = s := rfl
theorem op_eqP (F : Fits X z) (hu : X.A.units + 64 < cLine) : OpR X (compareOp .Eq) (r2D z gEq) := by
  refine op_bl (o := pyEq) F fun M a b k h pins s σ H W x y v u Q I ok ra rb rx ry q => ?_
  unfold pyEq at h
  split at h
  · rename_i dx dy e1 e2
    split at h
    · rename_i hd
      cases h
      obtain ⟨as, r1⟩ := reads_of F I ok ra rx e1
      obtain ⟨bs, r2⟩ := reads_of F I ok rb ry e2
      exact PySem.SeqAt.eq_plain r1 r2 (toPyE_plain e1) (toPyE_plain e2) (by omega) (q s.toks)
    · cases h
  · cases h
theorem op_neP (F : Fits X z) (hu : X.A.units + 64 < cLine) : OpR X (compareOp .NotEq) (r2D z gNe) := by
  refine op_bl (o := fun M a b => (pyEq M a b).map not) F fun M a b k h pins s σ H W x y v u Q I ok ra rb rx ry q => ?_
  unfold pyEq at h
  split at h
  · rename_i dx dy e1 e2
    split at h
    · rename_i hd
      cases h
      obtain ⟨as, r1⟩ := reads_of F I ok ra rx e1
      obtain ⟨bs, r2⟩ := reads_of F I ok rb ry e2
      exact PySem.SeqAt.ne_plain r1 r2 (toPyE_plain e1) (toPyE_plain e2) (by omega) (q s.toks)
    · cases h
  · cases h
end
end Pl

-- PL5
namespace Pl
open PySem PySem.Spec L2
section
variable {X : Cx} {z : Bz}
theorem op_inP (F : Fits X z) (hu : X.A.units + 64 < cLine) : OpR X (compareOp .In) (r2D z gIn) := by
  refine op_bl (o := pyIn) F fun M a b k h pins s σ H W x y v u Q I ok ra rb rx ry q => ?_
  unfold pyIn at h
  split at h
  · rename_i dx dy e1 e2
    split at h
    · cases h
      obtain ⟨as, r1⟩ := reads_of F I ok ra rx e1
      obtain ⟨bs, r2⟩ := reads_of F I ok rb ry e2
      exact PySem.SeqAt.in_list_data r2 r1 (toPyE_plain e2) (toPyE_plain e1) (by omega) (q s.toks)
    · cases h
  · rename_i dx dy e1 e2
    split at h
    · cases h
      obtain ⟨as, r1⟩ := reads_of F I ok ra rx e1
      obtain ⟨bs, r2⟩ := reads_of F I ok rb ry e2
      exact PySem.SeqAt.in_tuple_data r2 r1 (toPyE_plain e2) (toPyE_plain e1) (by omega) (q s.toks)
    · cases h
  · rename_i dx dy e1 e2
    cases h
    obtain ⟨as, r1⟩ := reads_of F I ok ra rx e1
    obtain ⟨bs, r2⟩ := reads_of F I ok rb ry e2
    cases r1
    cases r2
    exact PyProof.Rows.in_str (q s.toks)
  · cases h
theorem op_notInP (F : Fits X z) (hu : X.A.units + 64 < cLine) : OpR X (compareOp .NotIn) (r2D z gNotIn) := by
  refine op_bl (o := fun M a b => (pyIn M a b).map not) F fun M a b k h pins s σ H W x y v u Q I ok ra rb rx ry q => ?_
  unfold pyIn at h
  split at h
  · rename_i dx dy e1 e2
    split at h
    · cases h
      obtain ⟨as, r1⟩ := reads_of F I ok ra rx e1
      obtain ⟨bs, r2⟩ := reads_of F I ok rb ry e2
      exact PySem.SeqAt.notIn_list_data r2 r1 (toPyE_plain e2) (toPyE_plain e1) (by omega) (q s.toks)
    · cases h
  · rename_i dx dy e1 e2
    split at h
    · cases h
      obtain ⟨as, r1⟩ := reads_of F I ok ra rx e1
      obtain ⟨bs, r2⟩ := reads_of F I ok rb ry e2
      exact PySem.SeqAt.notIn_tuple_data r2 r1 (toPyE_plain e2) (toPyE_plain e1) (by omega) (q s.toks)
    · cases h
  · rename_i dx dy e1 e2
    cases h
    obtain ⟨as, r1⟩ := reads_of F I ok ra rx e1
    obtain ⟨bs, r2⟩ := reads_of F I ok rb ry e2
    cases r1
    cases r2
    exact PyProof.Rows.notIn_str (q s.toks)
  · cases h
theorem ord_split {M : Store} {a b : E} {k : Bool} (h : pyLt M a b = some k) : (∃ i j, toPyE M a = some (.int i) ∧ toPyE M b = some (.int j) ∧ k = decide (i < j)) ∨ ∃ x y, toPyE M a = some x ∧ toPyE M b = some y ∧ PySem.W.alike x y = true ∧ x ≠ .none ∧ min x.depth y.depth ≤ 60 ∧ k = PySem.W.dataLt x y := by
  unfold pyLt at h
  split at h
  · rename_i i j e1 e2
    cases h
    exact .inl ⟨i, j, e1, e2, rfl⟩
  · rename_i x y _ e1 e2
    split at h
    · rename_i hc
      cases h
      simp only [Bool.and_eq_true, decide_eq_true_eq] at hc
      exact .inr ⟨x, y, e1, e2, hc.1.1, notNone_ne hc.1.2, hc.2, rfl⟩
    · cases h
  · cases h
theorem ord_split2 {M : Store} {a b : E} {k : Bool} (h : pyLe M a b = some k) : (∃ i j, toPyE M a = some (.int i) ∧ toPyE M b = some (.int j) ∧ k = decide (i ≤ j)) ∨ ∃ x y, toPyE M a = some x ∧ toPyE M b = some y ∧ PySem.W.alike x y = true ∧ x ≠ .none ∧ min x.depth y.depth ≤ 60 ∧ k = !PySem.W.dataLt y x := by
  unfold pyLe at h
  split at h
  · rename_i i j e1 e2
    cases h
    exact .inl ⟨i, j, e1, e2, rfl⟩
  · rename_i x y _ e1 e2
    split at h
    · rename_i hc
      cases h
      simp only [Bool.and_eq_true, decide_eq_true_eq] at hc
      exact .inr ⟨x, y, e1, e2, hc.1.1, notNone_ne hc.1.2, hc.2, rfl⟩
    · cases h
  · cases h
theorem min_swap (a b : Nat) : min a b = min b a := by omega
theorem ne_none_alike {x y : PyData} (h : PySem.W.alike x y = true) (hn : x ≠ .none) : y ≠ .none := by
  intro e
  subst e
  cases x <;> first | exact hn rfl | cases h
theorem alike_swap {x y : PyData} (h : PySem.W.alike x y = true) : PySem.W.alike y x = true := by rw [PySem.W.alike_comm]; exact h
theorem op_ltP (F : Fits X z) (hu : X.A.units + 64 < cLine) : OpR X (compareOp .Lt) (r2D z gLt) := by
  refine op_bl (o := pyLt) F fun M a b k h pins s σ H W x y v u Q I ok ra rb rx ry q => ?_
  rcases ord_split h with ⟨i, j, e1, e2, rfl⟩ | ⟨dx, dy, e1, e2, al, nn, dp, rfl⟩ <;> (obtain ⟨as, r1⟩ := reads_of F I ok ra rx e1; obtain ⟨bs, r2⟩ := reads_of F I ok rb ry e2)
  · cases r1
    cases r2
    exact PyProof.Rows.lt_int (q s.toks)
  · exact PySem.W.lt_data r1 r2 al nn (by omega) (q s.toks)
theorem op_gtP (F : Fits X z) (hu : X.A.units + 64 < cLine) : OpR X (compareOp .Gt) (r2D z gGt) := by
  refine op_bl (o := fun M a b => pyLt M b a) F fun M a b k h pins s σ H W x y v u Q I ok ra rb rx ry q => ?_
  rcases ord_split h with ⟨i, j, e1, e2, rfl⟩ | ⟨dx, dy, e1, e2, al, nn, dp, rfl⟩ <;> (obtain ⟨as, r1⟩ := reads_of F I ok rb ry e1; obtain ⟨bs, r2⟩ := reads_of F I ok ra rx e2)
  · cases r1
    cases r2
    exact PyProof.Rows.gt_int (q s.toks)
  · exact PySem.W.gt_data r2 r1 (alike_swap al) (ne_none_alike al nn) (by omega) (q s.toks)
theorem op_leP (F : Fits X z) (hu : X.A.units + 64 < cLine) : OpR X (compareOp .LtE) (r2D z gLe) := by
  refine op_bl (o := pyLe) F fun M a b k h pins s σ H W x y v u Q I ok ra rb rx ry q => ?_
  rcases ord_split2 h with ⟨i, j, e1, e2, rfl⟩ | ⟨dx, dy, e1, e2, al, nn, dp, rfl⟩ <;> (obtain ⟨as, r1⟩ := reads_of F I ok ra rx e1; obtain ⟨bs, r2⟩ := reads_of F I ok rb ry e2)
  · cases r1
    cases r2
    exact PyProof.Rows.le_int (q s.toks)
  · exact PySem.W.le_data r1 r2 al nn (by omega) (q s.toks)
theorem op_geP (F : Fits X z) (hu : X.A.units + 64 < cLine) : OpR X (compareOp .GtE) (r2D z gGe) := by
  refine op_bl (o := fun M a b => pyLe M b a) F fun M a b k h pins s σ H W x y v u Q I ok ra rb rx ry q => ?_
  rcases ord_split2 h with ⟨i, j, e1, e2, rfl⟩ | ⟨dx, dy, e1, e2, al, nn, dp, rfl⟩ <;> (obtain ⟨as, r1⟩ := reads_of F I ok rb ry e1; obtain ⟨bs, r2⟩ := reads_of F I ok ra rx e2)
  · cases r1
    cases r2
    exact PyProof.Rows.ge_int (q s.toks)
  · exact PySem.W.ge_data r2 r1 (alike_swap al) (ne_none_alike al nn) (by omega) (q s.toks)
theorem re_non_iff {W : Wd} {x : V} {a : E} (r : RE z W x a) : isNonE a = decide (x = .non) := by
  cases r with
  | p r => cases r <;> simp [isNonE]
  | r r => simp [isNonE]
  | fn _ _ => simp [isNonE]
theorem op_isN (F : Fits X z) : OpR X (compareOp .Is) (r2D z gIsN) := by
  refine opR_of L2.op_isN fun x y H Q ⟨W, M, a, b, ok, ra, rb, e, M', hg, hq⟩ => ?_
  unfold gIsN at hg
  split at hg
  · cases hg
    cases rb with | p rb => cases rb; exact ⟨rfl, hq W H _ (.refl ok) (by rw [re_non_iff ra]; exact .p (.bl _))⟩
  · cases hg
theorem op_isNotN (F : Fits X z) : OpR X (compareOp .IsNot) (r2D z gIsNotN) := by
  refine opR_of L2.op_notN fun x y H Q ⟨W, M, a, b, ok, ra, rb, e, M', hg, hq⟩ => ?_
  unfold gIsNotN at hg
  split at hg
  · cases hg
    have h := re_non_iff ra
    cases rb with | p rb => cases rb; exact ⟨rfl, hq W H _ (.refl ok) (by rw [h]; exact .p (.bl _))⟩
  · cases hg

def gI2 (f : Int → Int → Option Int) : G2 := fun a b M => match asInt a, asInt b with
  | some i, some j => match f i j with
    | some k => some (.p (.int k), M)
    | none => none
  | _, _ => none
theorem opI2 {op : Value → Value → Sem Value} {f : Int → Int → Option Int} {C : Int → Int → Prop} {g : Int → Int → Int} (h : OpR X op (rI C fun i j => .int (g i j))) (hf : ∀ i j k, f i j = some k → C i j ∧ k = g i j) : OpR X op (r2D z (gI2 f)) := by
  refine opR_of h fun x y H Q ⟨W, M, a, b, ok, ra, rb, e, M', hg, hq⟩ => ?_
  unfold gI2 at hg
  split at hg
  · rename_i i j e1 e2
    split at hg
    · rename_i k e3
      cases hg
      obtain ⟨c, rfl⟩ := hf i j k e3
      exact ⟨i, j, asInt_ok ra e1, asInt_ok rb e2, c, hq W H _ (.refl ok) (.p (.int _))⟩
    · cases hg
  · cases hg
theorem opI2' {op : Value → Value → Sem Value} {f : Int → Int → Option Int} {g : Int → Int → Int} (h : OpR X op (rI0 fun i j => .int (g i j))) (hf : ∀ i j k, f i j = some k → k = g i j) : OpR X op (r2D z (gI2 f)) :=
  opI2 (C := fun _ _ => True) (g := g) (opR_of h fun x y H Q ⟨i, j, e1, e2, _, q⟩ => ⟨i, j, e1, e2, q⟩) fun i j k e => ⟨trivial, hf i j k e⟩
def iSub (i j : Int) : Option Int := some (i - j)
def iMod (i j : Int) : Option Int := if 0 < j then some (i % j) else none
def iFdiv (i j : Int) : Option Int := if 0 < j ∧ j < 1073741824 then some (i / j) else none
def iPow (i j : Int) : Option Int := if 0 ≤ j ∧ j ≤ 1000000 ∧ i.natAbs < 2 ^ 64 then some (i ^ j.toNat) else none
def iShl (i j : Int) : Option Int := if 0 ≤ j ∧ j ≤ 1000000 ∧ i.natAbs < 2 ^ 64 then some (i * 2 ^ j.toNat) else none
def iShr (i j : Int) : Option Int := if 0 ≤ j then some (i / 2 ^ j.toNat) else none
def iAnd (i j : Int) : Option Int := some (Builtin.bitAnd i j)
def iOr (i j : Int) : Option Int := some (Builtin.bitOr i j)
def iXor (i j : Int) : Option Int := some (Builtin.bitXor i j)
theorem op_subP : OpR X (binaryOp .Sub) (r2D z (gI2 iSub)) := opI2' op_sub fun i j k h => by cases h; rfl
theorem op_modP : OpR X (binaryOp .Mod) (r2D z (gI2 iMod)) := opI2 op_mod fun i j k h => by
  unfold iMod at h
  split at h
  · cases h; exact ⟨by assumption, rfl⟩
  · cases h
theorem op_fdivP : OpR X (binaryOp .FloorDiv) (r2D z (gI2 iFdiv)) := opI2 op_fdiv fun i j k h => by
  unfold iFdiv at h
  split at h
  · cases h; exact ⟨by assumption, rfl⟩
  · cases h
theorem op_powP : OpR X (binaryOp .Pow) (r2D z (gI2 iPow)) := opI2 op_pow fun i j k h => by
  unfold iPow at h
  split at h
  · cases h; exact ⟨by assumption, rfl⟩
  · cases h
theorem op_shlP : OpR X (binaryOp .LShift) (r2D z (gI2 iShl)) := opI2 op_shl fun i j k h => by
  unfold iShl at h
  split at h
  · cases h; exact ⟨by assumption, rfl⟩
  · cases h
theorem op_shrP : OpR X (binaryOp .RShift) (r2D z (gI2 iShr)) := opI2 op_shr fun i j k h => by
  unfold iShr at h
  split at h
  · cases h; exact ⟨by assumption, rfl⟩
  · cases h
theorem op_andP : OpR X (binaryOp .BitAnd) (r2D z (gI2 iAnd)) := opI2' op_and fun i j k h => by cases h; rfl
theorem op_orP : OpR X (binaryOp .BitOr) (r2D z (gI2 iOr)) := opI2' op_or fun i j k h => by cases h; rfl
theorem op_xorP : OpR X (binaryOp .BitXor) (r2D z (gI2 iXor)) := opI2' op_xor fun i j k h => by cases h; rfl
end
end Pl

-- PL6
namespace Pl
open PySem PySem.Spec L2

def gOr (g h : G2) : G2 := fun a b M => match g a b M with
  | some r => some r
  | none => h a b M
def gOrL (g h : GL) : GL := fun a M => match g a M with
  | some r => some r
  | none => h a M
section
variable {X : Cx} {z : Bz}
theorem opR_or {f : Value → Value → Sem Value} {g h : G2} (hg : OpR X f (r2D z g)) (hh : OpR X f (r2D z h)) : OpR X f (r2D z (gOr g h)) := by
  refine opR_of (hg.or hh) fun x y H Q ⟨W, M, a, b, ok, ra, rb, e, M', hr, hq⟩ => ?_
  unfold gOr at hr
  split at hr
  · rename_i r e1
    cases hr
    exact .inl ⟨W, M, a, b, ok, ra, rb, e, M', e1, hq⟩
  · exact .inr ⟨W, M, a, b, ok, ra, rb, e, M', hr, hq⟩
theorem callR_or {f : Value} {g h : GL} (hg : CallR X f (rLD z g)) (hh : CallR X f (rLD z h)) : CallR X f (rLD z (gOrL g h)) := by
  intro pins s σ H xs us Q I r ⟨W, M, es, ok, rs, e, M', hr, hq⟩
  unfold gOrL at hr
  split at hr
  · rename_i r' e1
    cases hr
    exact hg pins s σ H xs us Q I r ⟨W, M, es, ok, rs, e, M', e1, hq⟩
  · exact hh pins s σ H xs us Q I r ⟨W, M, es, ok, rs, e, M', hr, hq⟩
end
theorem paired_app {α β : Type} {R : α → β → Prop} : ∀ {xs xs' : List α} {ys ys' : List β}, Paired R xs ys → Paired R xs' ys' → Paired R (xs ++ xs') (ys ++ ys')
  | _, _, _, _, .nil, s => s
  | _, _, _, _, .cons r t, s => .cons r (paired_app t s)
theorem paired_get {α β : Type} {R : α → β → Prop} : ∀ {xs : List α} {ys : List β} {i : Nat} {y : β}, Paired R xs ys → ys[i]? = some y → ∃ x, xs[i]? = some x ∧ R x y
  | _, _, i, _, .nil, h => by simp at h
  | _, _, 0, _, .cons r t, h => by simp at h; subst h; exact ⟨_, rfl, r⟩
  | _, _, i + 1, _, .cons r t, h => by
    obtain ⟨x, h1, h2⟩ := paired_get (i := i) t (by simpa using h)
    exact ⟨x, by simpa using h1, h2⟩
theorem paired_get' {α β : Type} {R : α → β → Prop} : ∀ {xs : List α} {ys : List β} {i : Nat} {x : α}, Paired R xs ys → xs[i]? = some x → ∃ y, ys[i]? = some y ∧ R x y
  | _, _, i, _, .nil, h => by simp at h
  | _, _, 0, _, .cons r t, h => by simp at h; subst h; exact ⟨_, rfl, r⟩
  | _, _, i + 1, _, .cons r t, h => by
    obtain ⟨x, h1, h2⟩ := paired_get' (i := i) t (by simpa using h)
    exact ⟨x, by simpa using h1, h2⟩
theorem paired_drop {α β : Type} {R : α → β → Prop} : ∀ {xs : List α} {ys : List β} (n : Nat), Paired R xs ys → Paired R (xs.drop n) (ys.drop n)
  | _, _, 0, r => r
  | _, _, _ + 1, .nil => .nil
  | _, _, n + 1, .cons _ t => paired_drop n t
theorem paired_take {α β : Type} {R : α → β → Prop} : ∀ {xs : List α} {ys : List β} (n : Nat), Paired R xs ys → Paired R (xs.take n) (ys.take n)
  | _, _, 0, _ => .nil
  | _, _, _ + 1, .nil => .nil
  | _, _, n + 1, .cons r t => .cons r (paired_take n t)
theorem paired_rep {α β : Type} {R : α → β → Prop} {xs : List α} {ys : List β} (h : Paired R xs ys) : ∀ n : Nat, Paired R (List.replicate n xs).flatten (List.replicate n ys).flatten
  | 0 => .nil
  | n + 1 => by
    rw [List.replicate_succ, List.replicate_succ, List.flatten_cons, List.flatten_cons]
    exact paired_app h (paired_rep h n)
theorem paired_atI {α β : Type} {R : α → β → Prop} {xs : List α} {ys : List β} {i : Int} {y : β} (h : Paired R xs ys) (e : atI ys i = some y) : ∃ x, atI xs i = some x ∧ R x y := by
  have hl : xs.length = ys.length := PySem.Paired.length h
  unfold atI at e ⊢
  rw [hl]
  cases q : ixN ys.length i with
  | none => rw [q] at e; cases e
  | some j => rw [q] at e; exact paired_get h e
theorem rvs_app {z : Bz} {F : Hp} : ∀ {vs ws : List V} {ds es : List PD}, RVs z F vs ds → RVs z F ws es → RVs z F (vs ++ ws) (ds ++ es)
  | _, _, _, _, .nil, s => s
  | _, _, _, _, .cons r t, s => .cons r (rvs_app t s)
theorem rvs_len {z : Bz} {F : Hp} : ∀ {vs : List V} {ds : List PD}, RVs z F vs ds → vs.length = ds.length
  | _, _, .nil => rfl
  | _, _, .cons r t => by simp [rvs_len t]
theorem rv_tup {z : Bz} {F : Hp} {v : V} {ds : List PD} (h : RV z F v (.tup ds)) : ∃ a xs, v = .ref a ∧ SqT z.K F a xs ∧ xs.length ≤ sizeLine ∧ RVs z F xs ds := by
  cases h with | tup e l r => exact ⟨_, _, rfl, e, l, r⟩
theorem rv_lst {z : Bz} {F : Hp} {v : V} {ds : List PD} (h : RV z F v (.lst ds)) : ∃ a xs, v = .ref a ∧ F a = some (.lst xs) ∧ xs.length ≤ sizeLine ∧ RVs z F xs ds := by
  cases h with | lst e l r => exact ⟨_, _, rfl, e, l, r⟩
theorem res_len {z : Bz} {W : Wd} {vs : List V} {ds : List E} (h : REs z W vs ds) : vs.length = ds.length := PySem.Paired.length h

def iAdd (i j : Int) : Option Int := some (i + j)
def iMul (i j : Int) : Option Int := if (-(2 ^ 64) < i ∧ i < 2 ^ 64) ∨ (-(2 ^ 64) < j ∧ j < 2 ^ 64) then some (i * j) else none
def gAddS : G2 := fun a b M => match asStr a, asStr b with
  | some x, some y => if x.length + y.length ≤ 16777216 then some (.p (.str (x ++ y)), M) else none
  | _, _ => none
def gAddL (m : Bool) : G2 := fun a b M => match asLst M a, asLst M b with
  | some x, some y => if x.length + y.length ≤ 16777216 then mkLst m (x ++ y) M else none
  | _, _ => none
def gAddT : G2 := fun a b M => match a, b with
  | .p (.tup x), .p (.tup y) => if x.length + y.length ≤ 16777216 then some (.p (.tup (x ++ y)), M) else none
  | _, _ => none
def gAdd (m : Bool) : G2 := gOr (gI2 iAdd) (gOr gAddS (gOr (gAddL m) gAddT))
def gMulL (m : Bool) : G2 := fun a b M => match asLst M a, asInt b with
  | some x, some k => if -(2 ^ 63) ≤ k ∧ k < 2 ^ 63 ∧ x.length * k.toNat ≤ 16777216 then mkLst m (List.replicate k.toNat x).flatten M else none
  | _, _ => none
def gMul (m : Bool) : G2 := gOr (gI2 iMul) (gMulL m)
section
variable {X : Cx} {z : Bz}
theorem op_addS : OpR X (binaryOp .Add) (r2D z gAddS) := by
  refine opR_of op_add_str fun x y H Q ⟨W, M, a, b, ok, ra, rb, e, M', hg, hq⟩ => ?_
  unfold gAddS at hg
  split at hg
  · rename_i i j e1 e2
    split at hg
    · rename_i hl
      cases hg
      exact ⟨i, j, asStr_ok ra e1, asStr_ok rb e2, by rw [sizeLine_eq]; exact hl, hq W H _ (.refl ok) (.p (.str _))⟩
    · cases hg
  · cases hg
theorem op_addL {m : Bool} : OpR X (binaryOp .Add) (r2D z (gAddL m)) := by
  refine opR_of op_cat fun x y H Q ⟨W, M, a, b, ok, ra, rb, e, M', hg, hq⟩ => ?_
  unfold gAddL at hg
  split at hg
  · rename_i i j e1 e2
    split at hg
    · rename_i hl
      obtain ⟨p, vs, rfl, h1, h2, h3⟩ := asLst_ok ok ra e1
      obtain ⟨p', vs', rfl, h1', h2', h3'⟩ := asLst_ok ok rb e2
      have hl2 : vs.length + vs'.length ≤ sizeLine := by rw [sizeLine_eq, res_len h3, res_len h3']; exact hl
      exact ⟨p, p', vs, vs', rfl, rfl, h1, h1', hl2, fun q hn => mkLst_ok ok hg (paired_app h3 h3') (by rw [List.length_append]; exact hl2) hn hq⟩
    · cases hg
  · cases hg
theorem op_addT (F : Fits X z) : OpR X (binaryOp .Add) (r2D z gAddT) := by
  refine opR_of op_catA fun x y H Q ⟨W, M, a, b, ok, ra, rb, e, M', hg, hq⟩ => ?_
  unfold gAddT at hg
  split at hg
  · rename_i ds es
    split at hg
    · rename_i hl
      cases hg
      cases ra with | p ra =>
      cases rb with | p rb =>
      obtain ⟨a, xs, rfl, h1, l1, r1⟩ := rv_tup ra
      obtain ⟨b, ys, rfl, h2, l2, r2⟩ := rv_tup rb
      have hl2 : xs.length + ys.length ≤ sizeLine := by rw [sizeLine_eq, rvs_len r1, rvs_len r2]; exact hl
      refine ⟨a, b, xs, ys, rfl, rfl, F.K ▸ (Ext.of ok.same).sqT h1, F.K ▸ (Ext.of ok.same).sqT h2, hl2, fun e => ?_, fun _ e => ?_, fun _ _ p hp => ?_⟩
      · subst e; cases r1; exact hq W H _ (.refl ok) (.p (.tup h2 l2 r2))
      · subst e
        cases r2
        exact hq W H _ (.refl ok) (.p (.tup h1 l1 (by rw [List.append_nil]; exact r1)))
      · have s := newF ok hp (.tup (xs ++ ys))
        exact hq _ _ _ s (.p (.tup (SqT.of upd_same) (by rw [List.length_append]; exact hl2) (RVs.ext s.w.ext (rvs_app r1 r2))))
    · cases hg
  · cases hg
theorem op_addP (F : Fits X z) {m : Bool} : OpR X (binaryOp .Add) (r2D z (gAdd m)) :=
  opR_or (opI2' op_add fun i j k h => by cases h; rfl) (opR_or op_addS (opR_or op_addL (op_addT F)))
theorem op_mulL {m : Bool} : OpR X (binaryOp .Mult) (r2D z (gMulL m)) := by
  refine opR_of op_rep fun x y H Q ⟨W, M, a, b, ok, ra, rb, e, M', hg, hq⟩ => ?_
  unfold gMulL at hg
  split at hg
  · rename_i i k e1 e2
    split at hg
    · rename_i hl
      obtain ⟨p, vs, rfl, h1, h2, h3⟩ := asLst_ok ok ra e1
      have hl2 : vs.length * k.toNat ≤ sizeLine := by rw [sizeLine_eq, res_len h3]; exact hl.2.2
      refine ⟨p, k, vs, rfl, asInt_ok rb e2, h1, hl.1, hl.2.1, hl2, fun q hn => mkLst_ok ok hg (paired_rep h3 _) ?_ hn hq⟩
      rw [List.length_flatten]
      simpa [Nat.mul_comm] using hl2
    · cases hg
  · cases hg
theorem op_mulP {m : Bool} : OpR X (binaryOp .Mult) (r2D z (gMul m)) :=
  opR_or (opI2 op_mul fun i j k h => by
    unfold iMul at h
    split at h
    · cases h; exact ⟨by assumption, rfl⟩
    · cases h) op_mulL
end
end Pl

-- PL7
namespace Pl
open PySem PySem.Spec L2

def gIxL : G2 := fun a b M => match asLst M a, asInt b with
  | some es, some i => match atI es i with
    | some e => some (e, M)
    | none => none
  | _, _ => none
def gIxT : G2 := fun a b M => match asTup a, asInt b with
  | some es, some i => match atI es i with
    | some e => some (e, M)
    | none => none
  | _, _ => none
def gIxS : G2 := fun a b M => match asStr a, asInt b with
  | some z, some i => if z.length ≤ 16777216 then match atI z.cps.toList i with
    | some c => some (.p (.str ⟨#[c]⟩), M)
    | none => none
    else none
  | _, _ => none
def gIx : G2 := gOr gIxL (gOr gIxT gIxS)
section
variable {X : Cx} {z : Bz} {Wx : WX}
theorem ixR_of {r r' : R2} (h : IxR X r) (w : ∀ x y H Q, r' x y H Q → r x y H Q) : IxR X r' := fun va sl pins s σ H x y v u Q I rx ry q e => h va sl pins s σ H x y v u Q I rx ry (w x y H Q q) e
theorem ixR_or {g h : G2} (hg : IxR X (r2D z g)) (hh : IxR X (r2D z h)) : IxR X (r2D z (gOr g h)) := by
  intro va sl pins s σ H x y v u Q I rx ry ⟨W, M, a, b, ok, ra, rb, e, M', hr, hq⟩ hs
  unfold gOr at hr
  split at hr
  · rename_i r' e1
    cases hr
    exact hg va sl pins s σ H x y v u Q I rx ry ⟨W, M, a, b, ok, ra, rb, e, M', e1, hq⟩ hs
  · exact hh va sl pins s σ H x y v u Q I rx ry ⟨W, M, a, b, ok, ra, rb, e, M', hr, hq⟩ hs
theorem ix_lstP : IxR X (r2D z gIxL) := by
  refine ixR_of ix_list fun x y H Q ⟨W, M, a, b, ok, ra, rb, e, M', hg, hq⟩ => ?_
  unfold gIxL at hg
  split at hg
  · rename_i es i e1 e2
    split at hg
    · rename_i e' e3
      cases hg
      obtain ⟨p, vs, rfl, h1, h2, h3⟩ := asLst_ok ok ra e1
      obtain ⟨v, h4, h5⟩ := paired_atI h3 e3
      exact ⟨p, vs, i, v, rfl, asInt_ok rb e2, .of h1, h4, hq W H v (.refl ok) h5⟩
    · cases hg
  · cases hg
theorem ix_tupP (F : Fits X z) : IxR X (r2D z gIxT) := by
  refine ixR_of ix_tup fun x y H Q ⟨W, M, a, b, ok, ra, rb, e, M', hg, hq⟩ => ?_
  unfold gIxT at hg
  split at hg
  · rename_i es i e1 e2
    split at hg
    · rename_i e' e3
      cases hg
      obtain ⟨p, vs, rfl, h1, h2, h3⟩ := asTup_ok ok ra e1
      obtain ⟨v, h4, h5⟩ := paired_atI h3 e3
      exact ⟨p, vs, i, v, rfl, asInt_ok rb e2, F.K ▸ h1, h4, hq W H v (.refl ok) h5⟩
    · cases hg
  · cases hg
theorem ix_strP : IxR X (r2D z gIxS) := by
  refine ixR_of ix_str fun x y H Q ⟨W, M, a, b, ok, ra, rb, e, M', hg, hq⟩ => ?_
  unfold gIxS at hg
  split at hg
  · rename_i es i e1 e2
    split at hg
    · rename_i hl
      split at hg
      · rename_i c e3
        cases hg
        exact ⟨es, i, c, asStr_ok ra e1, asInt_ok rb e2, by rw [sizeLine_eq]; exact hl, e3, hq W H _ (.refl ok) (.p (.str _))⟩
      · cases hg
    · cases hg
  · cases hg
theorem ix_P (F : Fits X z) : IxR X (r2D z gIx) := ixR_or ix_lstP (ixR_or (ix_tupP F) ix_strP)
theorem pd_ix {g : G2} {fa fb : FE} {a b : Expr} {pos : Pos} (hr : IxR X (r2D z g)) (ha : PE X a (tE z Wx fa)) (hb : PE X b (tE z Wx fb)) (hs : PlainIx b) : PE X (.Subscript a b pos) (tE z Wx (fBin g fa fb)) :=
  pe_of (pe_ix hr ha hb hs) fun _ _ _ => te_bin

abbrev FO := Env → Store → Rs (Option Int)
def fNo : FO := fun _ M => some (.inr none, M)
def fPart (f : FE) : FO := fun ρ M => bnd (f ρ M) fun x M1 => match asInt x with
  | some i => some (.inr (some i), M1)
  | none => none
def PostO (z : Bz) (W : Wd) (H : Hp) (r : Sum Xn (Option Int) × Store) (Q : Option Int → Hp → Prop) (Xq : XK) : Prop :=
  match r with
  | (.inr b, M') => ∀ W' H', Step z W H W' M' H' → Q b H'
  | (.inl x, M') => ∀ W' H' cls d, Step z W H W' M' H' → RX z W'.F H' cls d x → Xq cls d H'
theorem PostO.exc {W : Wd} {H : Hp} {r : Sum Xn (Option Int) × Store} {Q : Option Int → Hp → Prop} {Xq : XK} (h : PostO z W H r Q Xq) : ExcOk z W H r Xq := fun x M' e => by subst e; exact h
def tO (z : Bz) (Wx : WX) (f : FO) : TO := fun σ H Q => ∃ W M ρ, StoreOk z W M H ∧ EnvOk z W ρ σ ∧ ∃ r, f ρ M = some r ∧ PostO z W H r Q fun c d H' => Wx c d σ H'
theorem po_of {e : Option Expr} {t t' : TO} (h : PO X e t) (w : ∀ σ H Q, t' σ H Q → t σ H Q) : PO X e t' := ⟨fun pins s σ H Q I q => h.run pins s σ H Q I (w σ H Q q)⟩
theorem pd_no : PO X none (tO z Wx fNo) := po_of po_none fun σ H Q ⟨W, M, ρ, ok, env, r, hr, po⟩ => by
  cases hr
  exact po W H (.refl ok)
theorem pd_part {f : FE} {e : Expr} (h : PE X e (tE z Wx f)) : PO X (some e) (tO z Wx (fPart f)) := po_of (po_some h) fun σ H Q ⟨W, M, ρ, ok, env, r, hr, po⟩ => by
  refine seqE ok env hr po.exc fun e1 M1 W1 H1 v1 s1 q1 hr1 => ?_
  split at hr1
  · rename_i i hi
    cases hr1
    exact ⟨i, asInt_ok q1 hi, po W1 H1 s1⟩
  · cases hr1
theorem seqO {W : Wd} {M : Store} {ρ : Env} {σ : L2.St} {H : Hp} {β : Type} {r : Sum Xn β × Store} {fa : FO} {k : Option Int → Store → Rs β} {Q : Option Int → Hp → Prop} (ok : StoreOk z W M H) (env : EnvOk z W ρ σ) (hr : bnd (fa ρ M) k = some r) (hx : ExcOk z W H r fun c d H' => Wx c d σ H')
    (hk : ∀ e M1 W1 H1, Step z W H W1 M1 H1 → k e M1 = some r → Q e H1) : tO z Wx fa σ H Q := by
  rcases bnd_some hr with ⟨x, M1, e1, e2⟩ | ⟨a, M1, e1, e2⟩
  · exact ⟨W, M, ρ, ok, env, _, e1, fun W' H' c d s q => hx x M1 e2 W' H' c d s q⟩
  · exact ⟨W, M, ρ, ok, env, _, e1, fun W' H' s => hk a M1 W' H' s e2⟩
abbrev GS := E → Option Int → Option Int → Store → Option (E × Store)
def rSD (z : Bz) (g : GS) : V → Option Int → Option Int → Hp → VK → Prop := fun x lo hi H Q => ∃ W M e1, StoreOk z W M H ∧ RE z W x e1 ∧ ∃ e M', g e1 lo hi M = some (e, M') ∧ ∀ W' H' v, Step z W H W' M' H' → RE z W' v e → Q v H'
def fSlice (g : GS) (fa : FE) (fl fh : FO) : FE := fun ρ M => bnd (fa ρ M) fun x M1 => bnd (fl ρ M1) fun l M2 => bnd (fh ρ M2) fun h M3 => lft (g x l h M3)
theorem pd_slice {g : GS} {fa : FE} {fl fh : FO} {e : Expr} {lo hi : Option Expr} {pos p2 : Pos} (hr : SlR X (rSD z g)) (he : PE X e (tE z Wx fa)) (hl : PO X lo (tO z Wx fl)) (hu : PO X hi (tO z Wx fh)) : PE X (.Subscript e (.Slice lo hi none p2) pos) (tE z Wx (fSlice g fa fl fh)) := by
  refine pe_of (pe_slice hr he hl hu) fun σ H Q ⟨W, M, ρ, ok, env, r, hr, po⟩ => ?_
  refine seqE ok env hr po.exc fun e1 M1 W1 H1 v1 s1 q1 hr1 => ?_
  refine seqO s1.ok (env.w s1.w) hr1 (po.exc.step s1) fun l M2 W2 H2 s2 hr2 => ?_
  refine seqO s2.ok ((env.w s1.w).w s2.w) hr2 ((po.exc.step s1).step s2) fun h M3 W3 H3 s3 hr3 => ?_
  obtain ⟨e, M', he, rfl⟩ := lft_some hr3
  exact ⟨W3, M3, e1, s3.ok, s3.w.re (s2.w.re q1), e, M', he, fun W' H' v s q => po W' H' v (((s1.trans s2).trans s3).trans s) q⟩
theorem slR_of {r r' : V → Option Int → Option Int → Hp → VK → Prop} (h : SlR X r) (w : ∀ x lo hi H Q, r' x lo hi H Q → r x lo hi H Q) : SlR X r' := fun pins s σ H x v vl vu lo hi sl Q I rx hs pl pu q => h pins s σ H x v vl vu lo hi sl Q I rx hs pl pu (w x lo hi H Q q)
def gOrS (g h : GS) : GS := fun a lo hi M => match g a lo hi M with
  | some r => some r
  | none => h a lo hi M
theorem slR_or {g h : GS} (hg : SlR X (rSD z g)) (hh : SlR X (rSD z h)) : SlR X (rSD z (gOrS g h)) := by
  refine slR_of (hg.or hh) fun x lo hi H Q ⟨W, M, a, ok, ra, e, M', hr, hq⟩ => ?_
  unfold gOrS at hr
  split at hr
  · rename_i r e1
    cases hr
    exact .inl ⟨W, M, a, ok, ra, e, M', e1, hq⟩
  · exact .inr ⟨W, M, a, ok, ra, e, M', hr, hq⟩
def cutG {α : Type} (xs : List α) (lo hi : Option Int) : List α := (xs.drop (HT.sIx xs.length 0 lo)).take (HT.sIx xs.length xs.length hi - HT.sIx xs.length 0 lo)
theorem paired_cut {β : Type} {R : V → β → Prop} {xs : List V} {ys : List β} (h : Paired R xs ys) (lo hi : Option Int) : Paired R (cutV xs lo hi) (cutG ys lo hi) := by
  have hl : xs.length = ys.length := PySem.Paired.length h
  unfold cutV cutG
  rw [hl]
  exact paired_take _ (paired_drop _ h)
def gSlL (m : Bool) : GS := fun a lo hi M => match asLst M a with
  | some es => mkLst m (cutG es lo hi) M
  | none => none
def gSlS : GS := fun a lo hi M => match asStr a with
  | some z => if z.length ≤ 16777216 then some (.p (.str (cutS z lo hi)), M) else none
  | none => none
def gSlT : GS := fun a lo hi M => match a with
  | .p (.tup ds) => some (.p (.tup (cutG ds lo hi)), M)
  | _ => none
theorem sl_lstP {m : Bool} : SlR X (rSD z (gSlL m)) := by
  refine slR_of sl_list fun x lo hi H Q ⟨W, M, a, ok, ra, e, M', hg, hq⟩ => ?_
  unfold gSlL at hg
  split at hg
  · rename_i es e1
    obtain ⟨p, vs, rfl, h1, h2, h3⟩ := asLst_ok ok ra e1
    exact ⟨p, vs, rfl, .of h1, fun q hn => mkLst_ok ok hg (paired_cut h3 lo hi) (Nat.le_trans (cutV_length _ _ _) h2) hn hq⟩
  · cases hg
theorem sl_strP : SlR X (rSD z gSlS) := by
  refine slR_of sl_str fun x lo hi H Q ⟨W, M, a, ok, ra, e, M', hg, hq⟩ => ?_
  unfold gSlS at hg
  split at hg
  · rename_i s e1
    split at hg
    · rename_i hl
      cases hg
      exact ⟨s, asStr_ok ra e1, by rw [sizeLine_eq]; exact hl, hq W H _ (.refl ok) (.p (.str _))⟩
    · cases hg
  · cases hg
theorem rvs_paired {F : Hp} : ∀ {vs : List V} {ds : List PD}, RVs z F vs ds → Paired (RV z F) vs ds
  | _, _, .nil => .nil
  | _, _, .cons r t => .cons r (rvs_paired t)
theorem paired_rvs {F : Hp} : ∀ {vs : List V} {ds : List PD}, Paired (RV z F) vs ds → RVs z F vs ds
  | _, _, .nil => .nil
  | _, _, .cons r t => .cons r (paired_rvs t)
theorem cutG_whole {α : Type} (xs : List α) (lo hi : Option Int) (h : HT.sIx xs.length 0 lo = 0 ∧ HT.sIx xs.length xs.length hi = xs.length) : cutG xs lo hi = xs := by
  unfold cutG
  rw [h.1, h.2]
  simp
theorem sl_tupP (F : Fits X z) : SlR X (rSD z gSlT) := by
  refine slR_of sl_tupA fun x lo hi H Q ⟨W, M, a, ok, ra, e, M', hg, hq⟩ => ?_
  unfold gSlT at hg
  split at hg
  · rename_i ds
    cases hg
    cases ra with | p ra =>
    obtain ⟨a, xs, rfl, h1, l1, r1⟩ := rv_tup ra
    have hl := rvs_len r1
    refine ⟨a, xs, rfl, F.K ▸ (Ext.of ok.same).sqT h1, fun hw => ?_, fun hw p hp => ?_⟩
    · refine hq W H _ (.refl ok) (.p ?_)
      rw [cutG_whole ds lo hi (by rw [← hl]; exact hw)]
      exact ra
    · have s := newF ok hp (.tup (cutV xs lo hi))
      exact hq _ _ _ s (.p (.tup (SqT.of upd_same) (Nat.le_trans (cutV_length _ _ _) l1) (RVs.ext s.w.ext (paired_rvs (paired_cut (rvs_paired r1) lo hi)))))
  · cases hg
def gSl (m : Bool) : GS := gOrS (gSlL m) (gOrS gSlS gSlT)
theorem sl_P (F : Fits X z) {m : Bool} : SlR X (rSD z (gSl m)) := slR_or sl_lstP (slR_or sl_strP (sl_tupP F))

def fLst (m : Bool) (fa : FA) : FE := fun ρ M => bnd (fa ρ M) fun xs M1 => if xs.length ≤ 16777216 then lft (mkLst m xs M1) else none
def fTup (fa : FA) : FE := fun ρ M => bnd (fa ρ M) fun xs M1 => if xs.length ≤ 16777216 then lft (mkTup xs M1) else none
theorem pd_lst {m : Bool} {fa : FA} {es : List Expr} {pos : Pos} (h : PA X es (tA z Wx fa)) : PE X (.List es pos) (tE z Wx (fLst m fa)) := by
  refine pe_of (pe_lst h) fun σ H Q ⟨W, M, ρ, ok, env, r, hr, po⟩ => ?_
  refine seqA ok env hr po.exc fun e1 M1 W1 H1 v1 s1 q1 hr1 => ?_
  split at hr1
  · rename_i hl
    obtain ⟨e, M', he, rfl⟩ := lft_some hr1
    have hl2 : v1.length ≤ sizeLine := by rw [sizeLine_eq, res_len q1]; exact hl
    exact ⟨hl2, fun p hp => mkLst_ok s1.ok he q1 hl2 hp fun W' H' v s q => po W' H' v (s1.trans s) q⟩
  · cases hr1
theorem pd_tup {fa : FA} {es : List Expr} {k : Nat} {pos : Pos} (h : PA X es (tA z Wx fa)) : PE X (.Tuple es k pos) (tE z Wx (fTup fa)) := by
  refine pe_of (pe_tup h) fun σ H Q ⟨W, M, ρ, ok, env, r, hr, po⟩ => ?_
  refine seqA ok env hr po.exc fun e1 M1 W1 H1 v1 s1 q1 hr1 => ?_
  split at hr1
  · rename_i hl
    obtain ⟨e, M', he, rfl⟩ := lft_some hr1
    have hl2 : v1.length ≤ sizeLine := by rw [sizeLine_eq, res_len q1]; exact hl
    exact ⟨hl2, fun p hp => mkTup_ok s1.ok he q1 hl2 hp fun W' H' v s q => po W' H' v (s1.trans s) q⟩
  · cases hr1

variable {f g : FT} {fa fb : FE} {a b c : Expr} {rest : List Expr} {pos : Pos}
theorem pd_and1 (ha : PT X a (tT z Wx f)) : PW X (.BoolOp .And [a] pos) (tT z Wx f) := pw_and1 ha
theorem pd_or1 (ha : PT X a (tT z Wx f)) : PW X (.BoolOp .Or [a] pos) (tT z Wx f) := pw_or1 ha
theorem pw_of {e : Expr} {t t' : TT} (h : PW X e t) (w : ∀ σ H Q, t' σ H Q → t σ H Q) : PW X e t' := ⟨fun wh pins s σ H Q I q => h.run wh pins s σ H Q I (w σ H Q q)⟩
theorem pd_and (ha : PT X a (tT z Wx f)) (hb : PW X (.BoolOp .And (b :: rest) pos) (tT z Wx g)) : PW X (.BoolOp .And (a :: b :: rest) pos) (tT z Wx (fAndT f g)) := by
  refine pw_of (pw_and ha hb) fun σ H Q ⟨W, M, ρ, ok, env, r, hr, po⟩ => ?_
  refine seqT ok env hr po.exc fun k M1 W1 H1 s1 hr1 => ?_
  cases k with
  | true => exact lastT s1 env hr1 po
  | false => cases hr1; exact po W1 H1 s1
theorem pd_or (ha : PT X a (tT z Wx f)) (hb : PW X (.BoolOp .Or (b :: rest) pos) (tT z Wx g)) : PW X (.BoolOp .Or (a :: b :: rest) pos) (tT z Wx (fOrT f g)) := by
  refine pw_of (pw_or ha hb) fun σ H Q ⟨W, M, ρ, ok, env, r, hr, po⟩ => ?_
  refine seqT ok env hr po.exc fun k M1 W1 H1 s1 hr1 => ?_
  cases k with
  | true => cases hr1; exact po W1 H1 s1
  | false => exact lastT s1 env hr1 po
def fIfE (t : FT) (f g : FE) : FE := fun ρ M => bnd (t ρ M) fun b M1 => if b = true then f ρ M1 else g ρ M1
theorem pd_ifE (hc : PT X c (tT z Wx f)) (ha : PE X a (tE z Wx fa)) (hb : PE X b (tE z Wx fb)) : PE X (.IfExp c a b pos) (tE z Wx (fIfE f fa fb)) := by
  refine pe_of (pe_ifExp hc ha hb) fun σ H Q ⟨W, M, ρ, ok, env, r, hr, po⟩ => ?_
  refine seqT ok env hr po.exc fun k M1 W1 H1 s1 hr1 => ?_
  cases k with
  | true => exact lastE s1 env hr1 po
  | false => exact lastE s1 env hr1 po
/-- and, or of bools as values -/
def fAndV (f g : FE) : FE := fun ρ M => bnd (f ρ M) fun x M1 => match asB x with
  | some true => g ρ M1
  | some false => some (.inr (.p (.bl false)), M1)
  | none => none
def fOrV (f g : FE) : FE := fun ρ M => bnd (f ρ M) fun x M1 => match asB x with
  | some true => some (.inr (.p (.bl true)), M1)
  | some false => g ρ M1
  | none => none
def fNotV (f : FE) : FE := fun ρ M => bnd (f ρ M) fun x M1 => match asB x with
  | some b => some (.inr (.p (.bl (!b))), M1)
  | none => none
theorem pd_one {op : BoolOp} (h : PE X a (tE z Wx fa)) : PE X (.BoolOp op [a] pos) (tE z Wx fa) := pe_one h
theorem pd_andV (ha : PE X a (tE z Wx fa)) (hb : PE X (.BoolOp .And (b :: rest) pos) (tE z Wx fb)) : PE X (.BoolOp .And (a :: b :: rest) pos) (tE z Wx (fAndV fa fb)) := by
  refine pe_of (pe_and ha hb) fun σ H Q ⟨W, M, ρ, ok, env, r, hr, po⟩ => ?_
  refine seqE ok env hr po.exc fun e1 M1 W1 H1 v1 s1 q1 hr1 => ?_
  split at hr1
  · rename_i e; exact ⟨true, asB_ok q1 e, iteT (lastE s1 env hr1 po)⟩
  · rename_i e; cases hr1; exact ⟨false, asB_ok q1 e, iteF (po W1 H1 _ s1 (.p (.bl _)))⟩
  · cases hr1
theorem pd_orV (ha : PE X a (tE z Wx fa)) (hb : PE X (.BoolOp .Or (b :: rest) pos) (tE z Wx fb)) : PE X (.BoolOp .Or (a :: b :: rest) pos) (tE z Wx (fOrV fa fb)) := by
  refine pe_of (L2.pe_or ha hb) fun σ H Q ⟨W, M, ρ, ok, env, r, hr, po⟩ => ?_
  refine seqE ok env hr po.exc fun e1 M1 W1 H1 v1 s1 q1 hr1 => ?_
  split at hr1
  · rename_i e; cases hr1; exact ⟨true, asB_ok q1 e, iteT (po W1 H1 _ s1 (.p (.bl _)))⟩
  · rename_i e; exact ⟨false, asB_ok q1 e, iteF (lastE s1 env hr1 po)⟩
  · cases hr1
theorem pd_notV (ha : PE X a (tE z Wx fa)) : PE X (.UnaryOp .Not a pos) (tE z Wx (fNotV fa)) := by
  refine pe_of (pe_not ha) fun σ H Q ⟨W, M, ρ, ok, env, r, hr, po⟩ => ?_
  refine seqE ok env hr po.exc fun e1 M1 W1 H1 v1 s1 q1 hr1 => ?_
  split at hr1
  · rename_i k e; cases hr1; exact ⟨k, asB_ok q1 e, po W1 H1 _ s1 (.p (.bl _))⟩
  · cases hr1
/-- a op b op' c -/
def fChain (g g' : G2) (fa fb fc : FE) : FE := fun ρ M => bnd (fa ρ M) fun x M1 => bnd (fb ρ M1) fun y M2 => bnd (lft (g x y M2)) fun t M3 => match asB t with
  | some true => bnd (fc ρ M3) fun w M4 => lft (g' y w M4)
  | some false => some (.inr (.p (.bl false)), M3)
  | none => none
theorem te_chain {g g' : G2} {fa fb fc : FE} {σ : L2.St} {H : Hp} {Q : VK} (h : tE z Wx (fChain g g' fa fb fc) σ H Q) : tChain (r2D z g) (r2D z g') (tE z Wx fa) (tE z Wx fb) (tE z Wx fc) σ H Q := by
  obtain ⟨W, M, ρ, ok, env, r, hr, po⟩ := h
  refine seqE ok env hr po.exc fun e1 M1 W1 H1 v1 s1 q1 hr1 => ?_
  refine seqE s1.ok (env.w s1.w) hr1 (po.exc.step s1) fun e2 M2 W2 H2 v2 s2 q2 hr2 => ?_
  rcases bnd_some hr2 with ⟨x, Mx, e5, _⟩ | ⟨t, M3, e5, hr3⟩
  · obtain ⟨_, _, _, e6⟩ := lft_some e5
    cases e6
  · obtain ⟨t', M3', e6, e7⟩ := lft_some e5
    cases e7
    have s12 := s1.trans s2
    refine ⟨W2, M2, e1, e2, s2.ok, s2.w.re q1, q2, t, M3, e6, fun W3 H3 v3 s3 q3 => ?_⟩
    split at hr3
    · rename_i e
      refine ⟨true, asB_ok q3 e, iteT ?_⟩
      refine seqE s3.ok ((env.w s12.w).w s3.w) hr3 ((po.exc.step s12).step s3) fun e4 M4 W4 H4 v4 s4 q4 hr4 => ?_
      obtain ⟨e9, M', he, rfl⟩ := lft_some hr4
      exact ⟨W4, M4, e2, e4, s4.ok, s4.w.re (s3.w.re q2), q4, e9, M', he, fun W' H' v s q => po W' H' v (((s12.trans s3).trans s4).trans s) q⟩
    · rename_i e
      cases hr3
      exact ⟨false, asB_ok q3 e, iteF (po W3 H3 _ (s12.trans s3) (.p (.bl _)))⟩
    · cases hr3
theorem pd_chain {op op' : CmpOp} {g g' : G2} {fa fb fc : FE} (ho : OpR X (compareOp op) (r2D z g)) (ho' : OpR X (compareOp op') (r2D z g')) (ha : PE X a (tE z Wx fa)) (hb : PE X b (tE z Wx fb)) (hc : PE X c (tE z Wx fc)) (hm : lastMarks [op, op'] [b, c] = false := by with_unfolding_all rfl) :
    PE X (.Compare a [op, op'] [b, c] pos) (tE z Wx (fChain g g' fa fb fc)) := pe_of (pe_chain ho ho' ha hb hc hm) fun _ _ _ => te_chain
theorem pd_tchain {op op' : CmpOp} {g g' : G2} {fa fb fc : FE} (ho : OpR X (compareOp op) (r2D z g)) (ho' : OpR X (compareOp op') (r2D z g')) (ha : PE X a (tE z Wx fa)) (hb : PE X b (tE z Wx fb)) (hc : PE X c (tE z Wx fc)) (hm : lastMarks [op, op'] [b, c] = false := by with_unfolding_all rfl) :
    PT X (.Compare a [op, op'] [b, c] pos) (tT z Wx (fTst (fChain g g' fa fb fc))) := by
  refine pt_of (pt_chain ho ho' ha hb hc hm) fun σ H Q h => ?_
  obtain ⟨W, M, ρ, ok, env, r, hr, po⟩ := tt_tst h
  exact te_chain ⟨W, M, ρ, ok, env, r, hr, po⟩
/-- an expression that gives a bool, as a test -/
theorem pd_tval {e : Expr} (h : PE X e (tE z Wx fa)) (he : ∀ whole, isTrue e X.env whole = (do let v ← whole; standAt e.pos; holding [v] (truthy v)) := by intro _; rfl) : PT X e (tT z Wx (fTst fa)) := by
  refine pt_of (pt_truth h he) fun σ H Q h => ?_
  obtain ⟨W, M, ρ, ok, env, r, hr, po⟩ := h
  refine seqE ok env hr po.exc fun e1 M1 W1 H1 v1 s1 q1 hr1 => ?_
  split at hr1
  · rename_i b hb
    cases hr1
    exact ⟨b, by rw [asB_ok q1 hb]; rfl, po W1 H1 s1⟩
  · cases hr1
end
end Pl

-- PL8
namespace Pl
open PySem PySem.Spec L2

inductive Fl where
  | nx (ρ : Env) | rt (e : E) | bk (ρ : Env) | ct (ρ : Env) | xn (x : Xn) (ρ : Env)
abbrev FS := Env → Store → Option (Fl × Store)
def PostS (z : Bz) (W : Wd) (H : Hp) (r : Fl × Store) (D : Ends) (Wx : WX) : Prop :=
  match r with
  | (.nx ρ', M') => ∀ W' H' σ', Step z W H W' M' H' → EnvOk z W' ρ' σ' → D.nx σ' H'
  | (.rt e, M') => ∀ W' H' v, Step z W H W' M' H' → RE z W' v e → D.rt v H'
  | (.bk ρ', M') => ∀ W' H' σ', Step z W H W' M' H' → EnvOk z W' ρ' σ' → D.bk σ' H'
  | (.ct ρ', M') => ∀ W' H' σ', Step z W H W' M' H' → EnvOk z W' ρ' σ' → D.ct σ' H'
  | (.xn x ρ', M') => ∀ W' H' σ' cls d, Step z W H W' M' H' → EnvOk z W' ρ' σ' → RX z W'.F H' cls d x → Wx cls d σ' H'
def tS (z : Bz) (Wx : WX) (g : FS) : TS := fun D σ H => ∃ W M ρ, StoreOk z W M H ∧ EnvOk z W ρ σ ∧ ∃ r, g ρ M = some r ∧ PostS z W H r D Wx
theorem PostS.step {z : Bz} {W W1 : Wd} {M1 : Store} {H H1 : Hp} {r : Fl × Store} {D : Ends} {Wx : WX} (h : PostS z W H r D Wx) (s : Step z W H W1 M1 H1) : PostS z W1 H1 r D Wx :=
  match r, h with
  | (.nx _, _), h => fun W' H' σ' t q => h W' H' σ' (s.trans t) q
  | (.rt _, _), h => fun W' H' v t q => h W' H' v (s.trans t) q
  | (.bk _, _), h => fun W' H' σ' t q => h W' H' σ' (s.trans t) q
  | (.ct _, _), h => fun W' H' σ' t q => h W' H' σ' (s.trans t) q
  | (.xn _ _, _), h => fun W' H' σ' c d t q => h W' H' σ' c d (s.trans t) q
/-- an expression within a statement -/
def stx {α : Type} (x : Rs α) (ρ : Env) (k : α → Store → Option (Fl × Store)) : Option (Fl × Store) := match x with
  | none => none
  | some (.inl e, M) => some (.xn e ρ, M)
  | some (.inr a, M) => k a M
section
variable {z : Bz} {Wx : WX} {W : Wd} {M : Store} {ρ : Env} {σ : L2.St} {H : Hp} {r : Fl × Store} {D : Ends}
theorem stE {f : FE} {k : E → Store → Option (Fl × Store)} {Q : VK} (ok : StoreOk z W M H) (env : EnvOk z W ρ σ) (hr : stx (f ρ M) ρ k = some r) (po : PostS z W H r D Wx)
    (hk : ∀ e M1 W1 H1 v, Step z W H W1 M1 H1 → RE z W1 v e → k e M1 = some r → Q v H1) : tE z Wx f σ H Q := by
  unfold stx at hr
  split at hr
  · cases hr
  · rename_i x M1 e1
    cases hr
    exact ⟨W, M, ρ, ok, env, _, e1, fun W' H' c d s q => po W' H' σ c d s (env.w s.w) q⟩
  · rename_i a M1 e1
    exact ⟨W, M, ρ, ok, env, _, e1, fun W' H' v s q => hk a M1 W' H' v s q hr⟩
theorem stT {f : FT} {k : Bool → Store → Option (Fl × Store)} {Q : Bool → Hp → Prop} (ok : StoreOk z W M H) (env : EnvOk z W ρ σ) (hr : stx (f ρ M) ρ k = some r) (po : PostS z W H r D Wx)
    (hk : ∀ e M1 W1 H1, Step z W H W1 M1 H1 → k e M1 = some r → Q e H1) : tT z Wx f σ H Q := by
  unfold stx at hr
  split at hr
  · cases hr
  · rename_i x M1 e1
    cases hr
    exact ⟨W, M, ρ, ok, env, _, e1, fun W' H' c d s q => po W' H' σ c d s (env.w s.w) q⟩
  · rename_i a M1 e1
    exact ⟨W, M, ρ, ok, env, _, e1, fun W' H' s => hk a M1 W' H' s hr⟩
theorem stA {f : FA} {k : List E → Store → Option (Fl × Store)} {Q : List V → Hp → Prop} (ok : StoreOk z W M H) (env : EnvOk z W ρ σ) (hr : stx (f ρ M) ρ k = some r) (po : PostS z W H r D Wx)
    (hk : ∀ e M1 W1 H1 v, Step z W H W1 M1 H1 → REs z W1 v e → k e M1 = some r → Q v H1) : tA z Wx f σ H Q := by
  unfold stx at hr
  split at hr
  · cases hr
  · rename_i x M1 e1
    cases hr
    exact ⟨W, M, ρ, ok, env, _, e1, fun W' H' c d s q => po W' H' σ c d s (env.w s.w) q⟩
  · rename_i a M1 e1
    exact ⟨W, M, ρ, ok, env, _, e1, fun W' H' v s q => hk a M1 W' H' v s q hr⟩
theorem lastS {g : FS} {W1 : Wd} {M1 : Store} {H1 : Hp} {ρ1 : Env} {σ1 : L2.St} (s : Step z W H W1 M1 H1) (env : EnvOk z W1 ρ1 σ1) (hr : g ρ1 M1 = some r) (po : PostS z W H r D Wx) : tS z Wx g D σ1 H1 :=
  ⟨W1, M1, ρ1, s.ok, env, r, hr, po.step s⟩
theorem EnvOk.set (h : EnvOk z W ρ σ) {v : V} {e : E} (r : RE z W v e) (i : Nat) : EnvOk z W (ρ.set i (some e)) (σ.set i (some v)) := by
  refine ⟨by simp [h.1], fun j e' q => ?_⟩
  by_cases hj : i = j
  · subst hj
    by_cases hl : i < ρ.length
    · rw [List.getElem?_set_self hl] at q
      cases q
      exact ⟨v, by rw [List.getElem?_set_self (by rw [← h.1]; exact hl)], r⟩
    · rw [List.getElem?_eq_none (by simpa using hl)] at q; cases q
  · rw [List.getElem?_set_ne hj] at q
    obtain ⟨v', h1, h2⟩ := h.2 j e' q
    exact ⟨v', by rw [List.getElem?_set_ne hj]; exact h1, h2⟩
theorem EnvOk.unset (h : EnvOk z W ρ σ) (i : Nat) : EnvOk z W (ρ.set i none) (σ.set i none) := by
  refine ⟨by simp [h.1], fun j e' q => ?_⟩
  by_cases hj : i = j
  · subst hj
    by_cases hl : i < ρ.length
    · rw [List.getElem?_set_self hl] at q; cases q
    · rw [List.getElem?_eq_none (by simpa using hl)] at q; cases q
  · rw [List.getElem?_set_ne hj] at q
    obtain ⟨v', h1, h2⟩ := h.2 j e' q
    exact ⟨v', by rw [List.getElem?_set_ne hj]; exact h1, h2⟩
end
def gNext : FS := fun ρ M => some (.nx ρ, M)
def gSeq (g h : FS) : FS := fun ρ M => match g ρ M with
  | some (.nx ρ1, M1) => h ρ1 M1
  | r => r
def gDrop (f : FE) : FS := fun ρ M => stx (f ρ M) ρ fun _ M1 => some (.nx ρ, M1)
def gRet (f : FE) : FS := fun ρ M => stx (f ρ M) ρ fun e M1 => some (.rt e, M1)
def gRetN : FS := fun _ M => some (.rt (.p .non), M)
def gIf (t : FT) (g h : FS) : FS := fun ρ M => stx (t ρ M) ρ fun b M1 => if b = true then g ρ M1 else h ρ M1
def gBreak : FS := fun ρ M => some (.bk ρ, M)
def gCont : FS := fun ρ M => some (.ct ρ, M)
section
variable {X : Cx} {z : Bz} {Wx : WX} {st : Stmt} {rest : List Stmt} {pos : Pos} {g h : FS} {f : FE} {e : Expr}
theorem ps_of {t t' : TS} (hh : PS X st t) (w : ∀ D σ H, t' D σ H → t D σ H) : PS X st t' := ⟨fun pins s σ H D I q => hh.run pins s σ H D I (w D σ H q)⟩
theorem pss_of {t t' : TS} (hh : PSs X rest t) (w : ∀ D σ H, t' D σ H → t D σ H) : PSs X rest t' := ⟨fun pins s σ H D I q => hh.run pins s σ H D I (w D σ H q)⟩
theorem pds_nil : PSs X [] (tS z Wx gNext) := pss_of pss_nil fun D σ H ⟨W, M, ρ, ok, env, r, hr, po⟩ => by
  cases hr
  exact po W H σ (.refl ok) env
theorem pds_cons (h1 : PS X st (tS z Wx g)) (h2 : PSs X rest (tS z Wx h)) : PSs X (st :: rest) (tS z Wx (gSeq g h)) := pss_of (pss_cons h1 h2) fun D σ H ⟨W, M, ρ, ok, env, r, hr, po⟩ => by
  unfold gSeq at hr
  split at hr
  · rename_i ρ1 M1 e1
    exact ⟨W, M, ρ, ok, env, _, e1, fun W' H' σ' s q => lastS s q hr po⟩
  · rename_i hn
    refine ⟨W, M, ρ, ok, env, r, hr, ?_⟩
    obtain ⟨fl, M'⟩ := r
    cases fl with
    | nx ρ1 => exact absurd hr (hn ρ1 M')
    | rt e => exact po
    | bk ρ1 => exact po
    | ct ρ1 => exact po
    | xn x ρ1 => exact po
theorem pds_one (h1 : PS X st (tS z Wx g)) : PSs X [st] (tS z Wx g) := pss_one h1
theorem pd_pass : PS X (.Pass pos) (tS z Wx gNext) := ps_of ps_pass fun D σ H ⟨W, M, ρ, ok, env, r, hr, po⟩ => by
  cases hr
  exact po W H σ (.refl ok) env
theorem pd_doc {x j pos'} : PS X (.Expr (.Constant (.str x) j pos) pos') (tS z Wx gNext) := ps_of ps_doc fun D σ H ⟨W, M, ρ, ok, env, r, hr, po⟩ => by
  cases hr
  exact po W H σ (.refl ok) env
theorem pd_break : PS X (.Break pos) (tS z Wx gBreak) := ps_of ps_break fun D σ H ⟨W, M, ρ, ok, env, r, hr, po⟩ => by
  cases hr
  exact po W H σ (.refl ok) env
theorem pd_cont : PS X (.Continue pos) (tS z Wx gCont) := ps_of ps_continue fun D σ H ⟨W, M, ρ, ok, env, r, hr, po⟩ => by
  cases hr
  exact po W H σ (.refl ok) env
theorem pd_expr (he : PE X e (tE z Wx f)) (hs : swapsWith e none pos.line X.env = pure false := by rfl) : PS X (.Expr e pos) (tS z Wx (gDrop f)) := ps_of (ps_expr he hs) fun D σ H ⟨W, M, ρ, ok, env, r, hr, po⟩ =>
  stE ok env hr po fun e1 M1 W1 H1 v1 s1 q1 hr1 => by
    cases hr1
    exact po W1 H1 σ s1 (env.w s1.w)
theorem pd_ret (he : PE X e (tE z Wx f)) : PS X (.Return (some e) pos) (tS z Wx (gRet f)) := ps_of (ps_ret he) fun D σ H ⟨W, M, ρ, ok, env, r, hr, po⟩ =>
  stE ok env hr po fun e1 M1 W1 H1 v1 s1 q1 hr1 => by
    cases hr1
    exact po W1 H1 v1 s1 q1
theorem pd_retN : PS X (.Return none pos) (tS z Wx gRetN) := ps_of ps_retN fun D σ H ⟨W, M, ρ, ok, env, r, hr, po⟩ => by
  cases hr
  exact po W H .non (.refl ok) (.p .non)
theorem pd_if {c : Expr} {a b : List Stmt} {t : FT} (hc : PT X c (tT z Wx t)) (ha : PSs X a (tS z Wx g)) (hb : PSs X b (tS z Wx h)) : PS X (.If c a b pos) (tS z Wx (gIf t g h)) := ps_of (ps_if hc ha hb) fun D σ H ⟨W, M, ρ, ok, env, r, hr, po⟩ =>
  stT ok env hr po fun k M1 W1 H1 s1 hr1 => by
    cases k with
    | true => exact lastS s1 (env.w s1.w) hr1 po
    | false => exact lastS s1 (env.w s1.w) hr1 po

abbrev GT := E → Env → Store → Rs Env
/-- the slots but vs are as they were -/
def Off (vs : List Nat) (σ σ' : L2.St) : Prop := σ'.length = σ.length ∧ ∀ i : Nat, i ∉ vs → σ'[i]? = σ[i]?
def PostG (z : Bz) (W : Wd) (H : Hp) (vs : List Nat) (σ : L2.St) (r : Sum Xn Env × Store) (Q : L2.St → Hp → Prop) : Prop :=
  match r with
  | (.inr ρ', M') => ∀ W' H' σ', Step z W H W' M' H' → EnvOk z W' ρ' σ' → Off vs σ σ' → Q σ' H'
  | (.inl _, _) => False
/-- a target that raises nothing -/
def tG (z : Bz) (vs : List Nat) (g : GT) : TG := fun v σ H Q => ∃ W M ρ e, StoreOk z W M H ∧ EnvOk z W ρ σ ∧ RE z W v e ∧ ∃ r, g e ρ M = some r ∧ PostG z W H vs σ r Q
theorem pg_of {tg : Expr} {t t' : TG} (h : PG X tg t) (w : ∀ v σ H Q, t' v σ H Q → t v σ H Q) : PG X tg t' := ⟨fun pins s σ H v u Q I r q => h.run pins s σ H v u Q I r (w v σ H Q q)⟩
def gtName (i : Nat) : GT := fun e ρ M => some (.inr (ρ.set i (some e)), M)
theorem pdg_name {i : Nat} {x : Str} (hN : X.N.Nodup) (hi : X.N[i]? = some x) (hx : Loc X.env.scope x) (hf : X.fn x = true ∨ X.env.scope.names.lookup x = some .local := by first | exact .inl rfl | exact .inr rfl | assumption) : PG X (.Name x pos) (tG z [i] (gtName i)) :=
  pg_of (pg_name hN hi hx hf) fun v σ H Q ⟨W, M, ρ, e, ok, env, re, r, hr, po⟩ => by
    cases hr
    exact po W H _ (.refl ok) (env.set re i) ⟨by simp, fun j hj => by rw [List.getElem?_set_ne (fun e => hj (by simp [e]))]⟩
abbrev GTs := List E → Env → Store → Rs Env
def tGs (z : Bz) (vs : List Nat) (g : GTs) : TGs := fun v σ H Q => ∃ W M ρ e, StoreOk z W M H ∧ EnvOk z W ρ σ ∧ REs z W v e ∧ ∃ r, g e ρ M = some r ∧ PostG z W H vs σ r Q
theorem pgs_of {tg : List Expr} {t t' : TGs} (h : PGs X tg t) (w : ∀ v σ H Q, t' v σ H Q → t v σ H Q) : PGs X tg t' := ⟨fun pins s σ H v u Q I r q => h.run pins s σ H v u Q I r (w v σ H Q q)⟩
def gtNil : GTs := fun es ρ M => match es with
  | [] => some (.inr ρ, M)
  | _ => none
def gtCons (g : GT) (h : GTs) : GTs := fun es ρ M => match es with
  | e :: r => bnd (g e ρ M) fun ρ1 M1 => h r ρ1 M1
  | [] => none
theorem pdgs_nil : PGs X [] (tGs z [] gtNil) := pgs_of pgs_nil fun v σ H Q ⟨W, M, ρ, e, ok, env, re, r, hr, po⟩ => by
  cases e with
  | nil =>
    cases hr
    cases re
    exact ⟨rfl, po W H σ (.refl ok) env ⟨rfl, fun _ _ => rfl⟩⟩
  | cons a b => cases hr
theorem pdgs_cons {es : List Expr} {g : GT} {h : GTs} {us vs : List Nat} (h1 : PG X e (tG z us g)) (h2 : PGs X es (tGs z vs h)) (hs : (assignEach (e :: es) X.env).map (·.2) = assign e X.env :: (assignEach es X.env).map (·.2) := by rfl) : PGs X (e :: es) (tGs z (us ++ vs) (gtCons g h)) :=
  pgs_of (pgs_cons h1 h2 hs) fun v σ H Q ⟨W, M, ρ, e, ok, env, re, r, hr, po⟩ => by
    cases e with
    | nil => cases hr
    | cons x1 xs =>
      cases v with
      | nil => cases re
      | cons v1 vs =>
        obtain ⟨r1, r2⟩ : RE z W v1 x1 ∧ REs z W vs xs := by cases re with | cons a b => exact ⟨a, b⟩
        have hr : bnd (g x1 ρ M) (fun ρ1 M1 => h xs ρ1 M1) = some r := hr
        rcases bnd_some hr with ⟨x, M1, e1, e2⟩ | ⟨ρ1, M1, e1, e2⟩
        · subst e2; exact (po : False).elim
        · refine ⟨v1, vs, rfl, W, M, ρ, _, ok, env, r1, _, e1, fun W1 H1 σ1 s1 q1 o1 => ?_⟩
          refine ⟨W1, M1, ρ1, _, s1.ok, q1, s1.w.res r2, r, e2, ?_⟩
          obtain ⟨rr, M'⟩ := r
          cases rr with
          | inl x => exact po
          | inr ρ' => exact fun W' H' σ' t q o2 => po W' H' σ' (s1.trans t) q ⟨o2.1.trans o1.1, fun j hj => (o2.2 j fun m => hj (List.mem_append_right _ m)).trans (o1.2 j fun m => hj (List.mem_append_left _ m))⟩
/-- a, b = .. : a tuple or a list that is read -/
def gtTup (n : Nat) (h : GTs) : GT := fun e ρ M => match asTup e with
  | some es => if es.length = n then h es ρ M else none
  | none => none
theorem pdg_tup {es : List Expr} {k n : Nat} {h : GTs} {vs : List Nat} (F : Fits X z) (hc : X.calm = true) (hh : PGs X es (tGs z vs h)) (hn : (assignEach es X.env).length = n := by rfl) (hst : (assignEach es X.env).findIdx? (·.1) = none := by rfl) : PG X (.Tuple es k pos) (tG z vs (gtTup n h)) :=
  pg_of (pg_tup hc hh hn hst) fun v σ H Q ⟨W, M, ρ, e, ok, env, re, r, hr, po⟩ => by
    unfold gtTup at hr
    split at hr
    · rename_i xs hx
      split at hr
      · rename_i hl
        obtain ⟨a, vs, rfl, h1, h2, h3⟩ := asTup_ok ok re hx
        exact ⟨a, _, rfl, F.K ▸ h1, (res_len h3).trans hl, W, M, ρ, xs, ok, env, h3, r, hr, po⟩
      · cases hr
    · cases hr
def gAsg (f : FE) (g : GT) : FS := fun ρ M => stx (f ρ M) ρ fun e M1 => stx (g e ρ M1) ρ fun ρ1 M2 => some (.nx ρ1, M2)
def noX {α : Type} : Rs α → Rs α
  | some (.inl _, _) => none
  | r => r
/-- target = value; the target raises nothing -/
def gAsgT (f : FE) (g : GT) : FS := fun ρ M => stx (f ρ M) ρ fun e M1 => match g e ρ M1 with
  | some (.inr ρ1, M2) => some (.nx ρ1, M2)
  | _ => none
theorem ta_asg {f : FE} {gt : GT} {vs : List Nat} {D : Ends} {σ : L2.St} {H : Hp} (h : tS z Wx (gAsgT f gt) D σ H) : tAsg (tE z Wx f) (tG z vs gt) D σ H := by
  obtain ⟨W, M, ρ, ok, env, r, hr, po⟩ := h
  refine stE ok env hr po fun e1 M1 W1 H1 v1 s1 q1 hr1 => ?_
  split at hr1
  · rename_i ρ1 M2 e2
    cases hr1
    exact ⟨W1, M1, ρ, e1, s1.ok, env.w s1.w, q1, _, e2, fun W' H' σ' t q _ => po W' H' σ' (s1.trans t) q⟩
  · cases hr1
theorem pd_asg {tg : Expr} {gt : GT} {vs : List Nat} (he : PE X e (tE z Wx f)) (hg : PG X tg (tG z vs gt)) (hs : swapsWithSole [tg] e pos.line X.env = pure false := by rfl) (hw : swappedStores [tg] e X.env = pure none := by rfl)
    (h1 : (assignEach [tg] X.env).map (·.2) = [assign tg X.env] := by rfl) : PS X (.Assign [tg] e pos) (tS z Wx (gAsgT f gt)) := ps_of (ps_asg he hg hs hw h1) fun _ _ _ => ta_asg
/-- name = value -/
def gSet (i : Nat) (f : FE) : FS := fun ρ M => stx (f ρ M) ρ fun e M1 => some (.nx (ρ.set i (some e)), M1)
theorem ta_set {i : Nat} {f : FE} {D : Ends} {σ : L2.St} {H : Hp} (h : tS z Wx (gSet i f) D σ H) : tAsg (tE z Wx f) (gName i) D σ H := by
  obtain ⟨W, M, ρ, ok, env, r, hr, po⟩ := h
  refine stE ok env hr po fun e1 M1 W1 H1 v1 s1 q1 hr1 => ?_
  cases hr1
  exact po W1 H1 _ s1 ((env.w s1.w).set q1 i)
theorem pd_set {i : Nat} {x : Str} {pos' : Pos} (hN : X.N.Nodup) (hi : X.N[i]? = some x) (hx : Loc X.env.scope x) (he : PE X e (tE z Wx f)) (hs : swapsWith e (some (.Name x pos')) pos.line X.env = pure false := by rfl) (hf : X.fn x = true ∨ X.env.scope.names.lookup x = some .local := by first | exact .inl rfl | exact .inr rfl | assumption) :
    PS X (.Assign [.Name x pos'] e pos) (tS z Wx (gSet i f)) := ps_of (ps_set hN hi hx he hs hf) fun _ _ _ => ta_set
/-- a, b = x, y: stored from the right, no tuple is made -/
def gPar (i j : Nat) (fa : FA) : FS := fun ρ M => stx (fa ρ M) ρ fun es M1 => match es with
  | [a, b] => some (.nx ((ρ.set i (some a)).set j (some b)), M1)
  | _ => none
theorem pd_par {i j : Nat} {x y : Str} {a b : Expr} {fa : FA} {px py pt : Pos} {kt k2 pt2} (hc : X.calm = true) (hN : X.N.Nodup) (hi : X.N[i]? = some x) (hj : X.N[j]? = some y) (hij : i ≠ j)
    (hx : X.env.scope.names.lookup x = some .local) (hy : X.env.scope.names.lookup y = some .local) (ha : PA X [a, b] (tA z Wx fa))
    (hw : swappedStores [.Tuple [.Name x px, .Name y py] kt pt] (.Tuple [a, b] k2 pt2) X.env = pure (some [x, y]))
    (hs : swapsWithSole [.Tuple [.Name x px, .Name y py] kt pt] (.Tuple [a, b] k2 pt2) pos.line X.env = pure false := by rfl) :
    PS X (.Assign [.Tuple [.Name x px, .Name y py] kt pt] (.Tuple [a, b] k2 pt2) pos) (tS z Wx (gPar i j fa)) := ps_of (ps_par hc hN hi hj hij hx hy ha hw hs) fun D σ H ⟨W, M, ρ, ok, env, r, hr, po⟩ =>
  stA ok env hr po fun es M1 W1 H1 vs s1 q1 hr1 => by
    split at hr1
    · rename_i a b
      cases hr1
      cases q1 with | cons r1 q1 => cases q1 with | cons r2 q1 => cases q1; exact ⟨_, _, rfl, po W1 H1 _ s1 (((env.w s1.w).set r1 i).set r2 j)⟩
    · cases hr1
end

abbrev FF := List E → Store → Rs E
def spD (z : Bz) (n : Nat) (f : FF) : Sp := fun vs H Q Xq => ∃ W M es, StoreOk z W M H ∧ REs z W vs es ∧ es.length = n ∧ ∃ r, f es M = some r ∧ Post z W H r Q Xq
/-- a def's function, by its body's -/
def fnOf (N : Nat) (g : FS) : FF := fun es M => match g (es.map some ++ List.replicate (N - es.length) none) M with
  | some (.nx _, M') => some (.inr (.p .non), M')
  | some (.rt e, M') => some (.inr e, M')
  | some (.xn x _, M') => some (.inl x, M')
  | _ => none
theorem env_start {z : Bz} {W : Wd} {N : List Str} {vs : List V} {es : List E} (h : REs z W vs es) : EnvOk z W (es.map some ++ List.replicate (N.length - es.length) none) (L2.start N vs) := by
  have hl := res_len h
  refine ⟨by simp [L2.start, hl], fun i e q => ?_⟩
  by_cases hi : i < es.length
  · rw [List.getElem?_append_left (by simpa using hi), List.getElem?_map] at q
    cases q2 : es[i]? with
    | none => rw [q2] at q; cases q
    | some e' =>
      rw [q2] at q
      cases q
      obtain ⟨v, h1, h2⟩ := paired_get h q2
      refine ⟨v, ?_, h2⟩
      unfold L2.start
      rw [List.getElem?_append_left (by simpa [hl] using hi), List.getElem?_map, h1]
      rfl
  · rw [List.getElem?_append_right (by simpa using hi)] at q
    have := List.mem_of_getElem? q
    rw [List.mem_replicate] at this
    cases this.2
section
variable {P : Program} {w : World} {K : PySem.W.Frag} {mg : Str → Option Value} {base : Heap} {ca : Nat → Addr} {T : List (Addr × Str)}
theorem fn_okD {x qual : Str} {st : Stmt} {f : Addr} {fd : FuncData} {N ps : List Str} {k : Nat} {g : FS} (F : Fun K x qual st f fd) (S : FnScope N ps (defScope st))
    (hb : ∀ (X : Cx), X.prog = P → X.w = w → X.K = K → X.mg = mg → X.base = base → X.N = N → X.env.scope = defScope st → X.calm = true → (X.fn = fun _ => true) → X.stack = X.env :: X.outer → X.env.frame = some X.env.locals → X.ex = [] → PassesOwn (model X.prog X.w) X.A X.env X.xe → ∀ Wx, Takes X Wx → Room k X.A →
      PSs X (defBody st) (tS ⟨P, w, K, ca, T⟩ Wx g)) : FnOk P w K mg base (L2.CX P w) (k + 1) f fd ps (spD ⟨P, w, K, ca, T⟩ ps.length (fnOf N.length g)) := by
  refine F.okX S (fun vs H Q E ⟨W, M, es, ok, rs, hl, _⟩ => (res_len rs).trans hl) fun cdv A outer s H vs Q Xq hr h => ?_
  refine ⟨_, hb (cxOf (L2.CX P w) P w K mg base N qual (defScope st) f cdv A outer s H Xq) rfl rfl rfl rfl rfl rfl rfl rfl rfl rfl rfl rfl PassesOwn.leaving (fun cls d _ H => Xq cls d H) (takes_of rfl rfl rfl rfl) hr, ?_⟩
  obtain ⟨W, M, es, ok, rs, hl, r, hf, po⟩ := h
  refine ⟨W, M, _, ok, env_start rs, ?_⟩
  unfold fnOf at hf
  split at hf
  · rename_i ρ M' e
    cases hf
    exact ⟨_, e, fun W' H' σ' s _ => po W' H' .non s (.p .non)⟩
  · rename_i v M' e
    cases hf
    exact ⟨_, e, fun W' H' v s q => po W' H' v s q⟩
  · rename_i v ρ M' e
    cases hf
    exact ⟨_, e, fun W' H' σ' c d s _ q => po W' H' c d s q⟩
  · cases hf
end
/-- f(e, ..) -/
def fCall (n : Nat) (ff : FF) (dv : List E) (fa : FA) : FE := fun ρ M => bnd (fa ρ M) fun xs M1 => if xs.length + dv.length = n then ff (xs ++ dv) M1 else none
section
variable {X : Cx} {z : Bz} {Wx : WX} {k : Nat} {f : Addr} {fd : FuncData} {ps : List Str} {n : Nat} {ff : FF} {dvs : List V} {ds : List Value} {dv : List E} {x : Str} {p pos : Pos} {e : Expr} {es : List Expr} {fa : FA}
theorem te_call (hdv : ∀ W, REs z W dvs dv) {σ : L2.St} {H : Hp} {Q : VK} (h : tE z Wx (fCall n ff dv fa) σ H Q) : tCallSD (spD z n ff) dvs (WE Wx) (tA z Wx fa) σ H Q := by
  obtain ⟨W, M, ρ, ok, env, r, hr, po⟩ := h
  refine seqA ok env hr po.exc fun e1 M1 W1 H1 v1 s1 q1 hr1 => ?_
  split at hr1
  · rename_i hl
    refine ⟨W1, M1, e1 ++ dv, s1.ok, paired_app q1 (hdv W1), by rw [List.length_append]; exact hl, r, hr1, ?_⟩
    obtain ⟨rr, M'⟩ := r
    cases rr with
    | inl x => exact fun W' H' c d t q => po W' H' c d (s1.trans t) q
    | inr v => exact fun W' H' v t q => po W' H' v (s1.trans t) q
  · cases hr1
theorem pd_call (F : FnOk X.prog X.w X.K X.mg X.base (L2.CX X.prog X.w) k f fd ps (spD z n ff)) (hr : Room k X.A) (hg : Gl X x) (hm : X.mg x = some (.ref f)) (hk : PySem.W.keepIn X.K (.ref f) = true) (hb : Binds X.K fd ps ds) (hd : Vals dvs ds) (hdv : ∀ W, REs z W dvs dv) (tk : Takes X Wx)
    (ha : PA X (e :: es) (tA z Wx fa)) (hdb : (x == ("__debug__" : Str)) = false := by decide) (he : starEach (e :: es) X.env = (false, eval e X.env) :: starEach es X.env := by rfl) (hpl : (backTo pos (starEach es X.env)).any (·.1) = false := by rfl) :
    PE X (.Call (.Name x p) (e :: es) [] pos) (tE z Wx (fCall n ff dv fa)) := pe_of (pe_callSD F hr hg hm hk hb hd (fun σ => passAt tk σ) ha hdb he hpl) fun _ _ _ => te_call hdv
end
end Pl

-- PL9
namespace Pl
open PySem PySem.Spec L2

def whileN (t : FT) (g : FS) : Nat → FS
  | 0, _, _ => none
  | n + 1, ρ, M => stx (t ρ M) ρ fun b M1 => if b = true then match g ρ M1 with
    | some (.nx ρ2, M2) => whileN t g n ρ2 M2
    | some (.ct ρ2, M2) => whileN t g n ρ2 M2
    | some (.bk ρ2, M2) => some (.nx ρ2, M2)
    | r => r
    else some (.nx ρ, M1)
def gWhile (fuel : Env → Store → Nat) (t : FT) (g : FS) : FS := fun ρ M => whileN t g (fuel ρ M) ρ M
section
variable {X : Cx} {z : Bz} {Wx : WX}
theorem pd_while {fuel : Env → Store → Nat} {t : FT} {g : FS} {c : Expr} {body : List Stmt} {pos : Pos} (hp : PassesOwn (model X.prog X.w) X.A X.env X.xe) (hc : PT X c (tT z Wx t)) (hb : PSs X body (tS z Wx g)) : PS X (.While c body [] pos) (tS z Wx (gWhile fuel t g)) := by
  refine ps_of (ps_while hp hc hb) fun D σ H ⟨W, M, ρ, ok, env, r, hr, po⟩ => ?_
  refine ⟨fun m σ' H' => ∃ W' M' ρ', Step z W H W' M' H' ∧ EnvOk z W' ρ' σ' ∧ whileN t g m ρ' M' = some r, ⟨_, W, M, ρ, .refl ok, env, hr⟩, ?_⟩
  rintro m σ' H' ⟨W', M', ρ', s, env', hr'⟩
  cases m with
  | zero => cases hr'
  | succ m =>
    refine stT s.ok env' hr' (po.step s) fun b M1 W1 H1 s1 hr1 => ?_
    have s01 := s.trans s1
    have env1 := env'.w s1.w
    cases b with
    | false =>
      rw [if_neg Bool.false_ne_true] at hr1 ⊢
      cases hr1
      exact po W1 H1 σ' s01 env1
    | true =>
      rw [if_pos rfl] at hr1 ⊢
      refine ⟨fun σ2 H2 => ∃ W2 M2 ρ2, Step z W H W2 M2 H2 ∧ EnvOk z W2 ρ2 σ2 ∧ whileN t g m ρ2 M2 = some r, fun σ2 H2 h => ⟨m, Nat.lt_succ_self _, h⟩, ?_⟩
      split at hr1
      · rename_i ρ2 M2 e
        exact ⟨W1, M1, ρ', s1.ok, env1, _, e, fun W2 H2 σ2 s2 q2 => ⟨W2, M2, ρ2, s01.trans s2, q2, hr1⟩⟩
      · rename_i ρ2 M2 e
        exact ⟨W1, M1, ρ', s1.ok, env1, _, e, fun W2 H2 σ2 s2 q2 => ⟨W2, M2, ρ2, s01.trans s2, q2, hr1⟩⟩
      · rename_i ρ2 M2 e
        cases hr1
        exact ⟨W1, M1, ρ', s1.ok, env1, _, e, fun W2 H2 σ2 s2 q2 => po W2 H2 σ2 (s01.trans s2) q2⟩
      · rename_i r1 n1 n2 n3
        refine ⟨W1, M1, ρ', s1.ok, env1, r, hr1, ?_⟩
        obtain ⟨fl, Mf⟩ := r
        cases fl with
        | nx ρ2 => exact absurd hr1 (n1 ρ2 Mf)
        | ct ρ2 => exact absurd hr1 (n2 ρ2 Mf)
        | bk ρ2 => exact absurd hr1 (n3 ρ2 Mf)
        | rt e => exact fun W2 H2 v s2 q2 => po W2 H2 v (s01.trans s2) q2
        | xn x ρ2 => exact fun W2 H2 σ2 c d s2 q2 => po W2 H2 σ2 c d (s01.trans s2) q2
end

structure It0 where
  n : Nat
  get : Nat → Store → Option E
  fin : Store → Bool
def fixIt (es : List E) : It0 := ⟨es.length, fun i _ => es[i]?, fun _ => true⟩
def cellIt (k n : Nat) : It0 := ⟨n, fun i M => match M[k]? with
  | some (some (.lst es)) => if es.length = n then es[i]? else none
  | _ => none, fun M => match M[k]? with
  | some (some (.lst es)) => decide (es.length = n)
  | _ => false⟩
def ItOk (z : Bz) (W : Wd) (H : Hp) (J : It) (t : It0) : Prop :=
  ∀ W' M' H', Step z W H W' M' H' → (∀ (i : Nat) (e : E), i < t.n → t.get i M' = some e → J.go i H' ∧ ∀ x H'', J.yld i H' x H'' → ∃ W'', Step z W' H' W'' M' H'' ∧ RE z W'' x e) ∧ (t.fin M' = true → J.stop t.n H')
abbrev FI := Env → Store → Rs It0
def PostI (z : Bz) (W : Wd) (H : Hp) (r : Sum Xn It0 × Store) (R : It → Hp → Prop) (Xq : XK) : Prop :=
  match r with
  | (.inr t, M') => ∀ W' H' J, Step z W H W' M' H' → ItOk z W' H' J t → R J H'
  | (.inl x, M') => ∀ W' H' cls d, Step z W H W' M' H' → RX z W'.F H' cls d x → Xq cls d H'
def tI (z : Bz) (Wx : WX) (f : FI) : TI := fun σ H R => ∃ W M ρ, StoreOk z W M H ∧ EnvOk z W ρ σ ∧ ∃ r, f ρ M = some r ∧ PostI z W H r R fun c d H' => Wx c d σ H'
theorem PostI.exc {z : Bz} {W : Wd} {H : Hp} {r : Sum Xn It0 × Store} {R : It → Hp → Prop} {Xq : XK} (h : PostI z W H r R Xq) : ExcOk z W H r Xq := fun x M' e => by subst e; exact h
section
variable {X : Cx} {z : Bz} {Wx : WX} {tg iter : Expr}
theorem pi_of {w w' : TI} (h : PI X tg iter w) (q : ∀ σ H R, w' σ H R → w σ H R) : PI X tg iter w' := ⟨fun pins s σ H R I x => h.run pins s σ H R I (q σ H R x)⟩
theorem pi_or {w w' : TI} (h : PI X tg iter w) (h' : PI X tg iter w') : PI X tg iter (fun σ H R => w σ H R ∨ w' σ H R) := ⟨fun pins s σ H R I x => x.elim (h.run pins s σ H R I) (h'.run pins s σ H R I)⟩

def forN (t : It0) (tg : GT) (g : FS) : Nat → Nat → FS
  | 0, _, ρ, M => if t.fin M = true then some (.nx ρ, M) else none
  | k + 1, i, ρ, M => match t.get i M with
    | none => none
    | some e => match tg e ρ M with
      | some (.inr ρ1, M1) => match g ρ1 M1 with
        | some (.nx ρ2, M2) => forN t tg g k (i + 1) ρ2 M2
        | some (.ct ρ2, M2) => forN t tg g k (i + 1) ρ2 M2
        | some (.bk ρ2, M2) => some (.nx ρ2, M2)
        | r => r
      | _ => none
def gFor (fi : FI) (tg : GT) (g : FS) : FS := fun ρ M => stx (fi ρ M) ρ fun t M1 => forN t tg g t.n 0 ρ M1
theorem pd_for {fi : FI} {gt : GT} {vs : List Nat} {g : FS} {body : List Stmt} {pos : Pos} (hp : PassesOwn (model X.prog X.w) X.A X.env X.xe) (hc : X.calm = true) (hi : PI X tg iter (tI z Wx fi)) (hg : PG X tg (tG z vs gt)) (hb : PSs X body (tS z Wx g))
    (hs : ∀ x, foldedSetIterable iter X.env x = pure x := by intro _; rfl) : PS X (.For tg iter body [] pos) (tS z Wx (gFor fi gt g)) := by
  refine ps_of (ps_for hp hc hi hg hb hs) fun D σ H ⟨W, M, ρ, ok, env, r, hr, po⟩ => ?_
  unfold gFor stx at hr
  show tI z Wx fi σ H _
  split at hr
  · cases hr
  · rename_i x M1 e1
    cases hr
    exact ⟨W, M, ρ, ok, env, _, e1, fun W' H' c d s q => po W' H' σ c d s (env.w s.w) q⟩
  · rename_i t M1 e1
    refine ⟨W, M, ρ, ok, env, _, e1, fun W1 H1 J s1 it => ?_⟩
    refine ⟨fun i m σ' H' => i + m = t.n ∧ ∃ W' M' ρ', Step z W1 H1 W' M' H' ∧ EnvOk z W' ρ' σ' ∧ forN t gt g m i ρ' M' = some r, ⟨t.n, by omega, W1, M1, ρ, .refl s1.ok, env.w s1.w, hr⟩, ?_⟩
    rintro i m σ' H' ⟨hm, W', M', ρ', s, env', hr'⟩
    have s01 := s1.trans s
    cases m with
    | zero =>
      unfold forN at hr'
      split at hr'
      · rename_i hf
        cases hr'
        have : i = t.n := by omega
        subst this
        exact .inl ⟨(it W' M' H' s).2 hf, po W' H' σ' s01 env'⟩
      · cases hr'
    | succ m =>
      unfold forN at hr'
      split at hr'
      · cases hr'
      · rename_i e he
        obtain ⟨go, yl⟩ := (it W' M' H' s).1 i e (by omega) he
        refine .inr ⟨go, fun σ2 H2 => ∃ W2 M2 ρ2, Step z W1 H1 W2 M2 H2 ∧ EnvOk z W2 ρ2 σ2 ∧ forN t gt g m (i + 1) ρ2 M2 = some r, fun σ2 H2 h => ⟨m, Nat.lt_succ_self _, by omega, h⟩, fun x H'' y => ?_⟩
        obtain ⟨W'', sy, rx⟩ := yl x H'' y
        split at hr'
        · rename_i ρ1 M2 e2
          refine ⟨W'', M', ρ', e, sy.ok, env'.w sy.w, rx, _, e2, fun W3 H3 σ3 s3 q3 _ => ?_⟩
          have s13 := (s.trans sy).trans s3
          have s03 := s1.trans s13
          split at hr'
          · rename_i ρ2 M3 e3
            exact ⟨W3, M2, ρ1, s3.ok, q3, _, e3, fun W4 H4 σ4 s4 q4 => ⟨W4, M3, ρ2, s13.trans s4, q4, hr'⟩⟩
          · rename_i ρ2 M3 e3
            exact ⟨W3, M2, ρ1, s3.ok, q3, _, e3, fun W4 H4 σ4 s4 q4 => ⟨W4, M3, ρ2, s13.trans s4, q4, hr'⟩⟩
          · rename_i ρ2 M3 e3
            cases hr'
            exact ⟨W3, M2, ρ1, s3.ok, q3, _, e3, fun W4 H4 σ4 s4 q4 => po W4 H4 σ4 (s03.trans s4) q4⟩
          · rename_i r1 n1 n2 n3
            refine ⟨W3, M2, ρ1, s3.ok, q3, r, hr', ?_⟩
            obtain ⟨fl, Mf⟩ := r
            cases fl with
            | nx ρ2 => exact absurd hr' (n1 ρ2 Mf)
            | ct ρ2 => exact absurd hr' (n2 ρ2 Mf)
            | bk ρ2 => exact absurd hr' (n3 ρ2 Mf)
            | rt e => exact fun W4 H4 v s4 q4 => po W4 H4 v (s03.trans s4) q4
            | xn x ρ2 => exact fun W4 H4 σ4 c d s4 q4 => po W4 H4 σ4 c d (s03.trans s4) q4
        · cases hr'

def chars (s : Str) : List E := s.cps.toList.map fun c => .p (.str ⟨#[c]⟩)
def kD : Key → PD
  | .inl i => .int i
  | .inr s => .str s
def itOf (M : Store) : E → Option It0
  | .p (.lst ds) => some (fixIt (ds.map .p))
  | .p (.scr ds) => some (fixIt (ds.map .p))
  | .p (.tup ds) => some (fixIt (ds.map .p))
  | .p (.str s) => some (fixIt (chars s))
  | .p (.dic kvs) => some (fixIt (kvs.map fun p => .p (kD p.1)))
  | .r k => match M[k]? with
    | some (some (.lst es)) => some (cellIt k es.length)
    | _ => none
  | _ => none
def fSeqIt (f : FE) : FI := fun ρ M => bnd (f ρ M) fun e M1 => match itOf M1 e with
  | some t => some (.inr t, M1)
  | none => none
theorem paired_at {vs : List V} {es : List E} {W : Wd} (h : REs z W vs es) {i : Nat} {e : E} (q : es[i]? = some e) : ∃ v, vs[i]? = some v ∧ RE z W v e := paired_get h q
theorem itOk_seqL {K : PySem.W.Frag} {W : Wd} {H : Hp} {a : Addr} {vs : List V} {es : List E} (hs : ∀ W' M' H', Step z W H W' M' H' → SqL K H' a vs) (h : REs z W vs es) : ItOk z W H (Itl K a) (fixIt es) := by
  intro W' M' H' s
  have q := hs W' M' H' s
  refine ⟨fun i e hi he => ?_, fun _ => ⟨vs, q, by rw [res_len h]; exact Nat.le_refl _⟩⟩
  obtain ⟨v, h1, h2⟩ := paired_at h he
  refine ⟨⟨vs, v, q, h1⟩, fun x H'' y => ?_⟩
  obtain ⟨e', y⟩ := y
  subst e'
  have := y vs q
  rw [h1] at this
  cases this
  exact ⟨W', .refl s.ok, s.w.re h2⟩
theorem itOk_seqT {K : PySem.W.Frag} {W : Wd} {H : Hp} {a : Addr} {vs : List V} {es : List E} (hs : ∀ W' M' H', Step z W H W' M' H' → SqT K H' a vs) (h : REs z W vs es) : ItOk z W H (Itt K a) (fixIt es) := by
  intro W' M' H' s
  have q := hs W' M' H' s
  refine ⟨fun i e hi he => ?_, fun _ => ⟨vs, q, by rw [res_len h]; exact Nat.le_refl _⟩⟩
  obtain ⟨v, h1, h2⟩ := paired_at h he
  refine ⟨⟨vs, v, q, h1⟩, fun x H'' y => ?_⟩
  obtain ⟨e', y⟩ := y
  subst e'
  have := y vs q
  rw [h1] at this
  cases this
  exact ⟨W', .refl s.ok, s.w.re h2⟩
theorem re_str {W : Wd} {v : V} {s : Str} (h : RE z W v (.p (.str s))) : v = .str s := by cases h with | p h => cases h; rfl
theorem re_dic {W : Wd} {v : V} {ds : List (Key × PD)} (h : RE z W v (.p (.dic ds))) : ∃ a o kvs, v = .ref a ∧ W.F a = some (.frz o (.dK kvs)) ∧ kvs.length ≤ sizeLine ∧ RVk z W.F kvs ds := by
  cases h with | p h => cases h with | dic h1 h2 h3 => exact ⟨_, _, _, rfl, h1, h2, h3⟩
theorem rvk_len {F : Hp} : ∀ {kvs : List (Key × V)} {ds : List (Key × PD)}, RVk z F kvs ds → kvs.length = ds.length
  | _, _, .nil => rfl
  | _, _, .cons r t => by simp [rvk_len t]
theorem rvk_at {F : Hp} : ∀ {kvs : List (Key × V)} {ds : List (Key × PD)} {i : Nat} {k : Key} {d : PD}, RVk z F kvs ds → ds[i]? = some (k, d) → ∃ v, kvs[i]? = some (k, v) ∧ RV z F v d
  | _, _, i, _, _, .nil, h => by simp at h
  | _, _, 0, _, _, .cons r t, h => by simp at h; obtain ⟨rfl, rfl⟩ := h; exact ⟨_, rfl, r⟩
  | _, _, i + 1, _, _, .cons r t, h => by
    obtain ⟨x, h1, h2⟩ := rvk_at (i := i) t (by simpa using h)
    exact ⟨x, by simpa using h1, h2⟩
theorem rv_key {F : Hp} (k : Key) : RV z F (kV k) (kD k) := by
  cases k with
  | inl i => exact .int i
  | inr s => exact .str s
theorem itOk_str {W : Wd} {H : Hp} (x : Str) : ItOk z W H (Its x) (fixIt (chars x)) := fun W2 M2 H2 s2 => by
  refine ⟨fun i e hi he => ?_, fun _ => ?_⟩
  · have hi' : i < x.cps.size := by simpa [fixIt, chars] using hi
    refine ⟨hi', fun y H'' ⟨e1, c, hc, ey⟩ => ?_⟩
    subst e1 ey
    refine ⟨W2, .refl s2.ok, ?_⟩
    have he : (chars x)[i]? = some e := he
    unfold chars at he
    rw [List.getElem?_map, Array.getElem?_toList, hc] at he
    cases he
    exact .p (.str _)
  · show x.cps.size ≤ (chars x).length
    simp [chars]
theorem itOk_keys {W : Wd} {H : Hp} {a : Addr} {o : Obj} {kvs : List (Key × V)} {ds : List (Key × PD)} (h1 : W.F a = some (.frz o (.dK kvs))) (h3 : RVk z W.F kvs ds) : ItOk z W H (Itk a o kvs) (fixIt (ds.map fun p => .p (kD p.1))) := fun W2 M2 H2 s2 => by
  have hf := s2.ok.same _ _ (s2.ext _ _ h1)
  refine ⟨fun i e hi he => ?_, fun _ => ⟨hf, by simp [fixIt, rvk_len h3]⟩⟩
  have hi' : i < kvs.length := by simpa [fixIt, rvk_len h3] using hi
  refine ⟨⟨hf, hi'⟩, fun y H'' ⟨e1, k, v, hk, ey⟩ => ?_⟩
  subst e1 ey
  refine ⟨W2, .refl s2.ok, ?_⟩
  have he : (ds.map fun p => E.p (kD p.1))[i]? = some e := he
  rw [List.getElem?_map] at he
  cases q : ds[i]? with
  | none => rw [q] at he; cases he
  | some p =>
    rw [q] at he
    cases he
    obtain ⟨k', d⟩ := p
    obtain ⟨v', h4, h5⟩ := rvk_at h3 q
    rw [hk] at h4
    cases h4
    exact .p (rv_key _)
theorem itOk_vals {W : Wd} {H : Hp} {a : Addr} {o : Obj} {kvs : List (Key × V)} {ds : List (Key × PD)} (h1 : W.F a = some (.frz o (.dK kvs))) (h3 : RVk z W.F kvs ds) : ItOk z W H (Itd a o kvs) (fixIt (ds.map fun p => .p p.2)) := fun W2 M2 H2 s2 => by
  have hf := s2.ok.same _ _ (s2.ext _ _ h1)
  refine ⟨fun i e hi he => ?_, fun _ => ⟨hf, by simp [fixIt, rvk_len h3]⟩⟩
  have hi' : i < kvs.length := by simpa [fixIt, rvk_len h3] using hi
  refine ⟨⟨hf, hi'⟩, fun y H'' ⟨e1, k, hk⟩ => ?_⟩
  subst e1
  refine ⟨W2, .refl s2.ok, ?_⟩
  have he : (ds.map fun p => E.p p.2)[i]? = some e := he
  rw [List.getElem?_map] at he
  cases q : ds[i]? with
  | none => rw [q] at he; cases he
  | some p =>
    rw [q] at he
    cases he
    obtain ⟨k', d⟩ := p
    obtain ⟨v', h4, h5⟩ := rvk_at h3 q
    rw [hk] at h4
    cases h4
    exact .p (h5.ext (Ext.of s2.ext))
/-- a new pair at each turn -/
theorem new_pair {W2 : Wd} {M2 : Store} {H2 : Hp} {T : Addr} {v w : V} {d e : PD} (ok : StoreOk z W2 M2 H2) (hT : H2 T = none) (r1 : RV z W2.F v d) (r2 : RV z W2.F w e) : ∃ W'', Step z W2 H2 W'' M2 (upd H2 T (.tup [v, w])) ∧ RE z W'' (.ref T) (.p (.tup [d, e])) := by
  have s := newF ok hT (.tup [v, w])
  exact ⟨_, s, .p (.tup (SqT.of upd_same) (by rw [sizeLine_eq]; exact (by decide : 2 ≤ 16777216)) (.cons (r1.ext s.w.ext) (.cons (r2.ext s.w.ext) .nil)))⟩
theorem itOk_items {W : Wd} {H : Hp} {a : Addr} {o : Obj} {kvs : List (Key × V)} {ds : List (Key × PD)} (h1 : W.F a = some (.frz o (.dK kvs))) (h3 : RVk z W.F kvs ds) : ItOk z W H (Iti a o kvs) (fixIt (ds.map fun p => .p (.tup [kD p.1, p.2]))) := fun W2 M2 H2 s2 => by
  have hf := s2.ok.same _ _ (s2.ext _ _ h1)
  refine ⟨fun i e hi he => ?_, fun _ => ⟨hf, by simp [fixIt, rvk_len h3]⟩⟩
  have hi' : i < kvs.length := by simpa [fixIt, rvk_len h3] using hi
  refine ⟨⟨hf, hi'⟩, fun y H'' ⟨T, k, v, hk, ey, hT, eH⟩ => ?_⟩
  subst ey eH
  have he : (ds.map fun p => E.p (.tup [kD p.1, p.2]))[i]? = some e := he
  rw [List.getElem?_map] at he
  cases q : ds[i]? with
  | none => rw [q] at he; cases he
  | some p =>
    rw [q] at he
    cases he
    obtain ⟨k', d⟩ := p
    obtain ⟨v', h4, h5⟩ := rvk_at h3 q
    rw [hk] at h4
    cases h4
    exact new_pair s2.ok hT (rv_key _) (h5.ext (Ext.of s2.ext))
theorem pdi_seq {f : FE} (F : Fits X z) (he : PE X iter (tE z Wx f)) : PI X tg iter (tI z Wx (fSeqIt f)) := by
  refine pi_of (pi_or (pi_list he) (pi_or (pi_tup he) (pi_or (pi_str he) (pi_keys he)))) fun σ H R ⟨W, M, ρ, ok, env, r, hr, po⟩ => ?_
  rcases bnd_some hr with ⟨x, M1, e1, e2⟩ | ⟨e, M1, e1, hr1⟩
  · subst e2
    exact .inl ⟨W, M, ρ, ok, env, _, e1, fun W' H' c d s q => po W' H' c d s q⟩
  · split at hr1
    · rename_i t ht
      cases hr1
      unfold itOf at ht
      split at ht
      · cases ht
        refine .inl ⟨W, M, ρ, ok, env, _, e1, fun W' H' v s q => ?_⟩
        cases q with | p q =>
        obtain ⟨a, xs, rfl, h1, h2, h3⟩ := rv_lst q
        refine ⟨a, rfl, ⟨xs, .of (s.ok.same _ _ h1)⟩, po W' H' _ s (itOk_seqL (fun W2 M2 H2 s2 => .of (s2.ok.same _ _ (s2.ext _ _ h1))) (rvs_res h3))⟩
      · cases ht
        refine .inl ⟨W, M, ρ, ok, env, _, e1, fun W' H' v s q => ?_⟩
        cases q with | p q => cases q with | scr h1 h2 h3 =>
        rename_i a xs
        have h1 : SqL X.K W'.F a xs := F.K ▸ h1
        exact ⟨a, rfl, ⟨xs, (Ext.of s.ok.same).sqL h1⟩, po W' H' _ s (itOk_seqL (fun W2 M2 H2 s2 => (Ext.of (s2.ext.trans s2.ok.same)).sqL h1) (rvs_res h3))⟩
      · cases ht
        refine .inr (.inl ⟨W, M, ρ, ok, env, _, e1, fun W' H' v s q => ?_⟩)
        cases q with | p q =>
        obtain ⟨a, xs, rfl, h1, h2, h3⟩ := rv_tup q
        have h1 : SqT X.K W'.F a xs := F.K ▸ h1
        exact ⟨a, rfl, ⟨xs, (Ext.of s.ok.same).sqT h1⟩, po W' H' _ s (itOk_seqT (fun W2 M2 H2 s2 => (Ext.of (s2.ext.trans s2.ok.same)).sqT h1) (rvs_res h3))⟩
      · cases ht
        refine .inr (.inr (.inl ⟨W, M, ρ, ok, env, _, e1, fun W' H' v s q => ?_⟩))
        exact ⟨_, re_str q, po W' H' _ s (itOk_str _)⟩
      · cases ht
        refine .inr (.inr (.inr ⟨W, M, ρ, ok, env, _, e1, fun W' H' v s q => ?_⟩))
        obtain ⟨a, o, kvs, rfl, h1, h2, h3⟩ := re_dic q
        exact ⟨a, o, rfl, .inl ⟨kvs, s.ok.same _ _ h1, po W' H' _ s (itOk_keys h1 h3)⟩⟩
      · rename_i k
        split at ht
        · rename_i es hM
          cases ht
          refine .inl ⟨W, M, ρ, ok, env, _, e1, fun W' H' v s q => ?_⟩
          cases q with | r ha =>
          rename_i a
          obtain ⟨b, e1', e2', vs, e3, e4, e5⟩ := s.ok.cell k _ hM
          rw [ha] at e1'; cases e1'
          refine ⟨a, rfl, ⟨vs, .of e3⟩, po W' H' _ s fun W2 M2 H2 s2 => ?_⟩
          have ha2 : W2.α[k]? = some a := by
            obtain ⟨more, em, _⟩ := s2.pre
            rw [em, List.getElem?_append_left (List.getElem?_eq_some_iff.mp ha).1]
            exact ha
          refine ⟨fun i e hi he => ?_, fun hf => ?_⟩
          · unfold cellIt at he
            dsimp only at he
            split at he
            · rename_i es2 hM2
              split at he
              · obtain ⟨b, f1, f2, vs2, f3, f4, f5⟩ := s2.ok.cell k _ hM2
                rw [ha2] at f1; cases f1
                obtain ⟨v, h1, h2⟩ := paired_at f5 he
                refine ⟨⟨vs2, v, .of f3, h1⟩, fun x H'' y => ?_⟩
                obtain ⟨e', y⟩ := y
                subst e'
                have := y vs2 (.of f3)
                rw [h1] at this
                cases this
                exact ⟨W2, .refl s2.ok, h2⟩
              · cases he
            · cases he
          · unfold cellIt at hf
            dsimp only at hf
            split at hf
            · rename_i es2 hM2
              obtain ⟨b, f1, f2, vs2, f3, f4, f5⟩ := s2.ok.cell k _ hM2
              rw [ha2] at f1; cases f1
              refine ⟨vs2, .of f3, ?_⟩
              rw [res_len f5, of_decide_eq_true hf]
              exact Nat.le_refl _
            · cases hf
        · cases ht
      · cases ht
    · cases hr1
end
end Pl

-- PL10
namespace Pl
open PySem PySem.Spec L2

section
variable {z : Bz} {W W' : Wd} {M M' : Store} {H H' : Hp} {D : Addr} {o : HO}
theorem Step.side (s : Step z W H W' M' H') (hn : H D = none) (hF : W'.F D = none) (hα : D ∉ W'.α) (hw : ∀ a, H' D ≠ some (.own a)) (hw2 : (∀ ps, H' D ≠ some (.tbl ps)) ∧ ∀ c q, H' D ≠ some (LamX.CodeO c q)) : Step z W H W' M' (upd H' D o) := by
  have k : ∀ b u, b ≠ D → H' b = some u → upd H' D o b = some u := fun b u e q => by rw [upd_ne e]; exact q
  refine ⟨s.ext, s.pre, ⟨fun b u q => k b u (ne_of_none q hF) (s.ok.same b u q), s.ok.len, s.ok.nd, fun b q n => ?_, fun j c q => ?_, setTabs hw2.1 hw2.2 s.ok.tabs, s.ok.ntb, fun b hb ps hq q => ?_⟩, s.fnew, fun b u q hb ht => k b u (ne_of_none q hn) (s.keep b u q hb ht)⟩
  · have nb : b ≠ D := fun e => hα (e ▸ q)
    rw [upd_ne nb] at n
    exact s.ok.live b q n
  · obtain ⟨a, e1, e2, e3⟩ := s.ok.cell j c q
    have na : a ≠ D := fun e => hα (e ▸ List.mem_of_getElem? e1)
    exact ⟨a, e1, e2, e3.mono ⟨.of (.refl _), [], by simp⟩ (fun u q => k a u na q) fun dx q => k dx _ (fun e => hw a (e ▸ q)) q⟩
  · rw [upd_ne (show b ≠ D from fun e => hα (e ▸ hb))] at q
    exact s.ok.nta b hb ps hq q
theorem Step.adoptF (s : Step z W H W' M' H') (hn : H D = none) (hF : W'.F D = none) (hα : D ∉ W'.α) (h : H' D = some o) (ho : ∀ ps, o ≠ .tbl ps := by intro _ q; cases q) : Step z W H ⟨upd W'.F D o, W'.α⟩ M' H' := by
  have w : WExt W' ⟨upd W'.F D o, W'.α⟩ := ⟨.of (same_upd hF), [], by simp⟩
  refine ⟨s.ext.trans (same_upd hF), s.pre, ⟨fun b u q => ?_, s.ok.len, s.ok.nd, s.ok.live, fun j c q => ?_, s.ok.tabs, fun b ps q => ?_, s.ok.nta⟩, fun b u q => ?_, s.keep⟩
  · by_cases e : b = D
    · subst e
      have q : upd W'.F b o b = some u := q
      rw [upd_same] at q
      cases q
      exact h
    · have q : upd W'.F D o b = some u := q
      rw [upd_ne e] at q
      exact s.ok.same b u q
  · obtain ⟨a, e1, e2, e3⟩ := s.ok.cell j c q
    have na : a ≠ D := fun e => hα (e ▸ List.mem_of_getElem? e1)
    exact ⟨a, e1, by show upd W'.F D o a = none; rw [upd_ne na]; exact e2, e3.mono w (fun _ q => q) fun _ q => q⟩
  · have q : upd W'.F D o b = some (.tbl ps) := q
    by_cases e : b = D
    · rw [e, upd_same] at q; exact ho _ (Option.some.inj q)
    · rw [upd_ne e] at q; exact s.ok.ntb b ps q
  · by_cases e : b = D
    · subst e; exact .inr (.inl (.of hn))
    · have q : upd W'.F D o b = some u := q
      rw [upd_ne e] at q
      exact s.fnew b u q
theorem odd_lst {a : Addr} {xs : List V} (h : H' a = some (.lst xs)) : ∀ o, OddO o → H' a ≠ some o := fun o ho q => by
  rw [h] at q
  cases q
  rcases ho with ⟨_, e⟩ | ⟨_, _, e⟩
  · cases e
  · unfold LamX.CodeO at e; cases e
theorem odd_dK {a : Addr} {xs : List (Key × V)} (h : H' a = some (.dK xs)) : ∀ o, OddO o → H' a ≠ some o := fun o ho q => by
  rw [h] at q
  cases q
  rcases ho with ⟨_, e⟩ | ⟨_, _, e⟩
  · cases e
  · unfold LamX.CodeO at e; cases e
theorem Step.adoptC {c : Cell} (s : Step z W H W' M' H') (hn : H D = none) (hF : W'.F D = none) (hα : D ∉ W'.α) (h : H' D ≠ none) (hc : CellAt z ⟨W'.F, W'.α ++ [D]⟩ H' D c) (ht : ∀ o, OddO o → H' D ≠ some o) : Step z W H ⟨W'.F, W'.α ++ [D]⟩ (M' ++ [some c]) H' := by
  have w : WExt W' ⟨W'.F, W'.α ++ [D]⟩ := ⟨.of (.refl _), [D], rfl⟩
  obtain ⟨more, e, n⟩ := s.pre
  refine ⟨s.ext, ⟨more ++ [D], by show W'.α ++ [D] = _; rw [e, List.append_assoc], fun b q => ?_⟩, ⟨s.ok.same, by simp [s.ok.len], ?_, fun b q => ?_, fun k c' q => ?_, s.ok.tabs, s.ok.ntb, fun b hb ps hq q => ?_⟩, s.fnew, s.keep⟩
  · rcases List.mem_append.mp q with q | q
    · exact n b q
    · rw [List.mem_singleton.mp q]; exact .of hn
  · refine List.nodup_append.mpr ⟨s.ok.nd, by simp, fun b hb c hc e => ?_⟩
    subst e
    rw [List.mem_singleton.mp hc] at hb
    exact hα hb
  · rcases List.mem_append.mp q with q | q
    · exact s.ok.live b q
    · rw [List.mem_singleton.mp q]; exact h
  · by_cases hk : k < M'.length
    · rw [List.getElem?_append_left hk] at q
      obtain ⟨b, e1, e2, e3⟩ := s.ok.cell k c' q
      refine ⟨b, ?_, e2, e3.mono w (fun _ q => q) fun _ q => q⟩
      show (W'.α ++ [D])[k]? = some b
      rw [List.getElem?_append_left (by rw [← s.ok.len]; exact hk)]
      exact e1
    · have hk2 : k = M'.length := by
        have := (List.getElem?_eq_some_iff.mp q).1
        simp at this
        omega
      subst hk2
      rw [List.getElem?_append_right (Nat.le_refl _)] at q
      simp at q
      subst q
      refine ⟨D, ?_, hF, hc⟩
      show (W'.α ++ [D])[M'.length]? = some D
      rw [s.ok.len, List.getElem?_append_right (Nat.le_refl _)]
      simp
  · rcases List.mem_append.mp hb with hb | hb
    · exact s.ok.nta b hb ps hq q
    · rw [List.mem_singleton.mp hb] at q; exact ht ps hq q
/-- a list that was filled beside becomes a value -/
theorem adoptLst {m : Bool} {es : List E} {vs : List V} {e : E} {M2 : Store} {Q : VK} (s : Step z W H W' M' H') (hn : H D = none) (hF : W'.F D = none) (hα : D ∉ W'.α) (h : H' D = some (.lst vs)) (hl : vs.length ≤ sizeLine) (r : REs z W' vs es) (hm : mkLst m es M' = some (e, M2))
    (hq : ∀ W' H' v, Step z W H W' M2 H' → RE z W' v e → Q v H') : Q (.ref D) H' := by
  unfold mkLst at hm
  split at hm
  · cases hm
    refine hq _ _ _ (s.adoptC hn hF hα (by rw [h]; exact fun z => by cases z) ⟨vs, h, hl, ?_⟩ (odd_lst h)) (.r ?_)
    · exact WExt.res (W := W') (W' := ⟨W'.F, W'.α ++ [D]⟩) ⟨.of (.refl _), [D], rfl⟩ r
    · show (W'.α ++ [D])[M'.length]? = some D
      rw [s.ok.len, List.getElem?_append_right (Nat.le_refl _)]
      simp
  · split at hm
    · rename_i ds hd
      cases hm
      exact hq _ _ _ (s.adoptF hn hF hα h) (.p (.lst upd_same hl ((asPs_rvs hd r).ext (Ext.of (same_upd hF)))))
    · cases hm
/-- what stood beside is not taken in -/
theorem Step.beside {W1 : Wd} {M1 : Store} {H1 : Hp} (t : Step z W' H' W1 M1 H1) (hF : W'.F D = none) (hα : D ∉ W'.α) (h : H' D = some o) (ho : ¬ OddO o := by rintro (⟨_, q⟩ | ⟨_, _, q⟩) <;> first | cases q | (unfold LamX.CodeO at q; cases q)) : W1.F D = none ∧ D ∉ W1.α ∧ H1 D = some o := by
  obtain ⟨more, e, n⟩ := t.pre
  refine ⟨?_, ?_, t.keep D o h hα fun ps e => ho (.inl ⟨ps, e⟩)⟩
  · cases q : W1.F D with
    | none => rfl
    | some u =>
      rcases t.fnew D u q with x | x | x | ⟨nm, x⟩
      · rw [hF] at x; cases x
      · exact absurd (.inl (x _ h)) ho
      · exact absurd x hα
      · have e1 := t.keep D o h hα fun ps e => ho (.inl ⟨ps, e⟩)
        have e2 := t.ok.same D u q
        rw [e1] at e2
        exact absurd (.inr ⟨D, nm, (Option.some.inj e2).trans x⟩) ho
  · rw [e]
    intro q
    rcases List.mem_append.mp q with q | q
    · exact hα q
    · exact ho (.inl (n D q _ h))
end

def rangeE (lo : Int) (n : Nat) : List E := (List.range n).map fun (k : Nat) => .p (.int (lo + (k : Int)))
theorem rangeE_at {lo : Int} {n i : Nat} {e : E} (h : (rangeE lo n)[i]? = some e) : e = .p (.int (lo + (i : Int))) ∧ i < n := by
  unfold rangeE at h
  rw [List.getElem?_map] at h
  cases q : (List.range n)[i]? with
  | none => rw [q] at h; cases h
  | some k =>
    rw [q] at h
    obtain ⟨h1, h2⟩ := List.getElem?_eq_some_iff.mp q
    rw [List.getElem_range] at h2
    rw [List.length_range] at h1
    cases h
    subst h2
    exact ⟨rfl, h1⟩
section
variable {X : Cx} {z : Bz} {Wx : WX} {tg : Expr}
theorem itOk_range {W : Wd} {H : Hp} (lo : Int) (n : Nat) : ItOk z W H (Itr lo n) (fixIt (rangeE lo n)) := fun W2 M2 H2 s2 => by
  refine ⟨fun i e hi he => ?_, fun _ => ?_⟩
  · obtain ⟨rfl, hi⟩ := rangeE_at he
    refine ⟨hi, fun x H'' ⟨e1, e2⟩ => ?_⟩
    subst e1 e2
    exact ⟨W2, .refl s2.ok, .p (.int _)⟩
  · show n ≤ (rangeE lo n).length
    simp [rangeE]
def okR (j : Int) : Bool := decide (-(2 ^ 62) ≤ j) && decide (j < 2 ^ 62)
theorem okR_ok {j : Int} (h : okR j = true) : -(2 ^ 62) ≤ j ∧ j < 2 ^ 62 := by
  unfold okR at h
  simp only [Bool.and_eq_true, decide_eq_true_eq] at h
  exact h
def rngIt1 : List E → Option It0
  | [a] => match asInt a with
    | some j => if okR j = true then some (fixIt (rangeE 0 j.toNat)) else none
    | none => none
  | _ => none
def rngIt2 : List E → Option It0
  | [a, b] => match asInt a, asInt b with
    | some i, some j => if (okR i && okR j) = true then some (fixIt (rangeE i (j - i).toNat)) else none
    | _, _ => none
  | _ => none
def fItA (g : List E → Option It0) (fa : FA) : FI := fun ρ M => bnd (fa ρ M) fun es M1 => match g es with
  | some t => some (.inr t, M1)
  | none => none
theorem ti_A {fa : FA} {g : List E → Option It0} {σ : L2.St} {H : Hp} {R : It → Hp → Prop} {Q : List V → Hp → Prop} (h : tI z Wx (fItA g fa) σ H R)
    (w : ∀ (W : Wd) (M : Store) (H : Hp) (vs : List V) (es : List E) (t : It0), StoreOk z W M H → REs z W vs es → g es = some t → (∀ J, ItOk z W H J t → R J H) → Q vs H) : tA z Wx fa σ H Q := by
  obtain ⟨W, M, ρ, ok, env, r, hr, po⟩ := h
  refine seqA ok env hr po.exc fun es M1 W1 H1 vs s1 q1 hr1 => ?_
  split at hr1
  · rename_i t ht
    cases hr1
    exact w W1 M1 H1 vs es t s1.ok q1 ht fun J it => po W1 H1 J s1 it
  · cases hr1
theorem pdi_range1 {fa : FA} {a : Expr} {p pos : Pos} (hg : Gl X "range") (hm : X.mg "range" = none) (ha : PA X [a] (tA z Wx fa)) (hs : starEach [a] X.env = [(false, eval a X.env)] := by rfl) : PI X tg (.Call (.Name "range" p) [a] [] pos) (tI z Wx (fItA rngIt1 fa)) :=
  pi_of (pi_range1 hg hm ha hs) fun σ H R h => ti_A h fun W M H vs es t ok q1 ht po => by
    unfold rngIt1 at ht
    split at ht
    · rename_i a
      split at ht
      · rename_i j hj
        split at ht
        · rename_i hb
          cases ht
          cases q1 with | cons r1 q1 =>
          cases q1
          obtain ⟨b1, b2⟩ := okR_ok hb
          exact ⟨j, by rw [asInt_ok r1 hj], b1, b2, po _ (itOk_range 0 j.toNat)⟩
        · cases ht
      · cases ht
    · cases ht
theorem pdi_range2 {fa : FA} {a b : Expr} {p pos : Pos} (hg : Gl X "range") (hm : X.mg "range" = none) (ha : PA X [a, b] (tA z Wx fa)) (hs : starEach [a, b] X.env = [(false, eval a X.env), (false, eval b X.env)] := by rfl) (hs2 : starEach [b] X.env = [(false, eval b X.env)] := by rfl) :
    PI X tg (.Call (.Name "range" p) [a, b] [] pos) (tI z Wx (fItA rngIt2 fa)) :=
  pi_of (pi_range2 hg hm ha hs hs2) fun σ H R h => ti_A h fun W M H vs es t ok q1 ht po => by
    unfold rngIt2 at ht
    split at ht
    · rename_i a b
      split at ht
      · rename_i i j hi hj
        split at ht
        · rename_i hb
          cases ht
          cases q1 with | cons r1 q1 =>
          cases q1 with | cons r2 q1 =>
          cases q1
          simp only [Bool.and_eq_true] at hb
          obtain ⟨b1, b2⟩ := okR_ok hb.1
          obtain ⟨b3, b4⟩ := okR_ok hb.2
          exact ⟨i, j, by rw [asInt_ok r1 hi, asInt_ok r2 hj], ⟨b1, b2, b3, b4⟩, po _ (itOk_range i _)⟩
        · cases ht
      · cases ht
    · cases ht
def enumIt : List E → Option It0
  | [.p (.lst ds)] => some (fixIt ((List.range ds.length).zipWith (fun (i : Nat) d => .p (.tup [.int (i : Int), d])) ds))
  | _ => none
theorem zipW_at {α β γ : Type} {f : α → β → γ} {xs : List α} {ys : List β} {i : Nat} {c : γ} (h : (List.zipWith f xs ys)[i]? = some c) : ∃ a b, xs[i]? = some a ∧ ys[i]? = some b ∧ c = f a b := by
  rw [List.getElem?_zipWith] at h
  cases h1 : xs[i]? with
  | none => rw [h1] at h; cases h
  | some a =>
    cases h2 : ys[i]? with
    | none => rw [h1, h2] at h; cases h
    | some b => rw [h1, h2] at h; cases h; exact ⟨a, b, rfl, rfl, rfl⟩
theorem pdi_enum {fa : FA} {e : Expr} {p pos tpos : Pos} {elts : List Expr} {kk : Nat} (hg : Gl X "enumerate") (hm : X.mg "enumerate" = none) (ha : PA X [e] (tA z Wx fa)) (hs : starEach [e] X.env = [(false, eval e X.env)] := by rfl) :
    PI X (.Tuple elts kk tpos) (.Call (.Name "enumerate" p) [e] [] pos) (tI z Wx (fItA enumIt fa)) :=
  pi_of (pi_enum hg hm ha hs) fun σ H R h => ti_A h fun W M H vs es t ok q1 ht po => by
    unfold enumIt at ht
    split at ht
    · rename_i ds
      cases ht
      cases q1 with | cons r1 q1 =>
      cases q1
      cases r1 with | p r1 =>
      obtain ⟨a, xs, rfl, h1, h2, h3⟩ := rv_lst r1
      have hl := rvs_len h3
      refine ⟨a, xs, rfl, .of (ok.same _ _ h1), po _ fun W2 M2 H2 s2 => ?_⟩
      have hf : SqL X.K H2 a xs := .of (s2.ok.same _ _ (s2.ext _ _ h1))
      refine ⟨fun i e hi he => ?_, fun _ => ⟨xs, hf, ?_⟩⟩
      · obtain ⟨j, d, e1, e2, rfl⟩ := zipW_at he
        obtain ⟨k1, k2⟩ := List.getElem?_eq_some_iff.mp e1
        rw [List.getElem_range] at k2
        subst k2
        obtain ⟨x, hx, rx⟩ := paired_get (rvs_paired h3) e2
        refine ⟨⟨xs, x, hf, hx⟩, fun y H'' ⟨T, x', ey, hT, eH, hy⟩ => ?_⟩
        subst ey eH
        have := hy xs hf
        rw [hx] at this
        cases this
        exact new_pair s2.ok hT (.int _) (rx.ext (Ext.of s2.ext))
      · simp [fixIt, hl]
    · cases ht
def zipIt : List E → Option It0
  | [.p (.lst ds), .p (.lst es)] => some (fixIt (List.zipWith (fun d e => .p (.tup [d, e])) ds es))
  | _ => none
theorem pdi_zip {fa : FA} {e e2 : Expr} {p pos tpos : Pos} {elts : List Expr} {kk : Nat} (hg : Gl X "zip") (hm : X.mg "zip" = none) (ha : PA X [e, e2] (tA z Wx fa))
    (hs : starEach [e, e2] X.env = (false, eval e X.env) :: starEach [e2] X.env := by rfl) (hpl : (backTo pos (starEach [e2] X.env)).any (·.1) = false := by rfl) :
    PI X (.Tuple elts kk tpos) (.Call (.Name "zip" p) [e, e2] [] pos) (tI z Wx (fItA zipIt fa)) :=
  pi_of (pi_zip hg hm ha hs hpl) fun σ H R h => ti_A h fun W M H vs es t ok q1 ht po => by
    unfold zipIt at ht
    split at ht
    · rename_i ds es
      cases ht
      cases q1 with | cons r1 q1 =>
      cases q1 with | cons r2 q1 =>
      cases q1
      cases r1 with | p r1 =>
      cases r2 with | p r2 =>
      obtain ⟨a, xs, rfl, h1, h2, h3⟩ := rv_lst r1
      obtain ⟨b, ys, rfl, k1, k2, k3⟩ := rv_lst r2
      have hl := rvs_len h3
      have kl := rvs_len k3
      refine ⟨a, b, xs, ys, rfl, .of (ok.same _ _ h1), .of (ok.same _ _ k1), po _ fun W2 M2 H2 s2 => ?_⟩
      have hf : SqL X.K H2 a xs := .of (s2.ok.same _ _ (s2.ext _ _ h1))
      have kf : SqL X.K H2 b ys := .of (s2.ok.same _ _ (s2.ext _ _ k1))
      refine ⟨fun i e hi he => ?_, fun _ => ⟨xs, ys, hf, kf, ?_⟩⟩
      · obtain ⟨d, d2, e1, e2, rfl⟩ := zipW_at he
        obtain ⟨x, hx, rx⟩ := paired_get (rvs_paired h3) e1
        obtain ⟨y, hy, ry⟩ := paired_get (rvs_paired k3) e2
        refine ⟨⟨xs, ys, x, y, hf, kf, hx, hy⟩, fun v H'' ⟨T, x', y', ey, hT, eH, hxx, hyy⟩ => ?_⟩
        subst ey eH
        have z1 := hxx xs hf
        have z2 := hyy ys kf
        rw [hx] at z1
        rw [hy] at z2
        cases z1
        cases z2
        exact new_pair s2.ok hT (rx.ext (Ext.of s2.ext)) (ry.ext (Ext.of s2.ext))
      · simp only [fixIt, List.length_zipWith, hl, kl]
        omega
    · cases ht
/-- d.items(), d.values() -/
def itemsIt : E → Option It0
  | .p (.dic ds) => some (fixIt (ds.map fun p => .p (.tup [kD p.1, p.2])))
  | _ => none
def valsIt : E → Option It0
  | .p (.dic ds) => some (fixIt (ds.map fun p => .p p.2))
  | _ => none
def fItE (g : E → Option It0) (fa : FE) : FI := fun ρ M => bnd (fa ρ M) fun e M1 => match g e with
  | some t => some (.inr t, M1)
  | none => none
theorem ti_E {fa : FE} {g : E → Option It0} {σ : L2.St} {H : Hp} {R : It → Hp → Prop} {Q : VK} (h : tI z Wx (fItE g fa) σ H R)
    (w : ∀ (W : Wd) (M : Store) (H : Hp) (v : V) (e : E) (t : It0), StoreOk z W M H → RE z W v e → g e = some t → (∀ J, ItOk z W H J t → R J H) → Q v H) : tE z Wx fa σ H Q := by
  obtain ⟨W, M, ρ, ok, env, r, hr, po⟩ := h
  refine seqE ok env hr po.exc fun e M1 W1 H1 v s1 q1 hr1 => ?_
  split at hr1
  · rename_i t ht
    cases hr1
    exact w W1 M1 H1 v e t s1.ok q1 ht fun J it => po W1 H1 J s1 it
  · cases hr1
theorem pdi_items {fa : FE} {e : Expr} {apos cpos tpos : Pos} {elts : List Expr} {kk : Nat} (he : PE X e (tE z Wx fa)) (hbase : attributeBase e "items" X.env (eval e X.env) = eval e X.env := by rfl) (hline : (apos.endLine == cpos.line) = true := by rfl) :
    PI X (.Tuple elts kk tpos) (.Call (.Attribute e "items" apos) [] [] cpos) (tI z Wx (fItE itemsIt fa)) :=
  pi_of (pi_items he hbase hline) fun σ H R h => ti_E h fun W M H v e t ok q1 ht po => by
    unfold itemsIt at ht
    split at ht
    · cases ht
      obtain ⟨a, o, kvs, rfl, h1, h2, h3⟩ := re_dic q1
      exact ⟨a, o, kvs, rfl, ok.same _ _ h1, po _ (itOk_items h1 h3)⟩
    · cases ht
theorem pdi_values {fa : FE} {e : Expr} {apos cpos : Pos} (he : PE X e (tE z Wx fa)) (hbase : attributeBase e "values" X.env (eval e X.env) = eval e X.env := by rfl) (hline : (apos.endLine == cpos.line) = true := by rfl) :
    PI X tg (.Call (.Attribute e "values" apos) [] [] cpos) (tI z Wx (fItE valsIt fa)) :=
  pi_of (pi_values he hbase hline) fun σ H R h => ti_E h fun W M H v e t ok q1 ht po => by
    unfold valsIt at ht
    split at ht
    · cases ht
      obtain ⟨a, o, kvs, rfl, h1, h2, h3⟩ := re_dic q1
      exact ⟨a, o, kvs, rfl, ok.same _ _ h1, po _ (itOk_vals h1 h3)⟩
    · cases ht

def wipeE (ρ : Env) : List Nat → Env
  | [] => ρ
  | v :: vs => (wipeE ρ vs).set v none
theorem envOk_wipe {W : Wd} {ρ : Env} {σ : L2.St} (h : EnvOk z W ρ σ) : ∀ vs : List Nat, EnvOk z W (wipeE ρ vs) (wipe σ vs)
  | [] => h
  | v :: vs => (envOk_wipe h vs).unset v
theorem wipe_at (σ : L2.St) : ∀ (vs : List Nat) (i : Nat), (wipe σ vs)[i]? = if i ∈ vs then (if i < σ.length then some none else none) else σ[i]?
  | [], i => by simp [wipe]
  | v :: vs, i => by
    unfold wipe
    by_cases h : v = i
    · subst h
      rw [List.getElem?_set]
      simp [wipe_length]
    · rw [List.getElem?_set_ne h, wipe_at σ vs i]
      have : (i ∈ v :: vs) = (i ∈ vs) := by
        apply propext
        simp only [List.mem_cons]
        exact ⟨fun x => x.resolve_left fun e => h e.symm, .inr⟩
      simp only [this]
theorem wipe_off {σ σ2 : L2.St} {us vs : List Nat} (h : Off us (wipe σ vs) σ2) (hu : ∀ i ∈ us, i ∈ vs) : wipe σ2 vs = wipe σ vs := by
  apply List.ext_getElem?
  intro i
  have hl : σ2.length = σ.length := by rw [h.1, wipe_length]
  rw [wipe_at, wipe_at, hl]
  by_cases hi : i ∈ vs
  · rw [if_pos hi, if_pos hi]
  · rw [if_neg hi, if_neg hi, h.2 i fun m => hi (hu i m), wipe_at, if_neg hi]
/-- one clause: target, tests, element -/
def compN (t : It0) (tg : GT) (tt : FT) (fe : FE) : Nat → Nat → Env → Store → Option (List E × Store)
  | 0, _, _, M => if t.fin M = true then some ([], M) else none
  | k + 1, i, ρ, M => match t.get i M with
    | none => none
    | some e => match tg e ρ M with
      | some (.inr ρ1, M1) => match tt ρ1 M1 with
        | some (.inr true, M2) => match fe ρ1 M2 with
          | some (.inr y, M3) => match compN t tg tt fe k (i + 1) ρ M3 with
            | some (ys, M4) => some (y :: ys, M4)
            | none => none
          | _ => none
        | some (.inr false, M2) => compN t tg tt fe k (i + 1) ρ M2
        | _ => none
      | _ => none
def fComp (m : Bool) (vs : List Nat) (fi : FI) (tg : GT) (tt : FT) (fe : FE) : FE := fun ρ M => bnd (fi ρ M) fun t M1 => if t.n ≤ 16777216 then match compN t tg tt fe t.n 0 (wipeE ρ vs) M1 with
    | some (es, M2) => lft (mkLst m es M2)
    | none => none
  else none
abbrev W0 : WX := fun _ _ _ _ => False
def fYes : FT := fun _ M => some (.inr true, M)
theorem pdt_nil : PTs X [] (tT z W0 fYes) := ⟨fun pins s σ H Q I ⟨W, M, ρ, ok, env, r, hr, po⟩ => pts_nil.run pins s σ H Q I (by cases hr; exact po W H (.refl ok))⟩
theorem pdt_one {c : Expr} {f : FT} (h : PT X c (tT z W0 f)) : PTs X [c] (tT z W0 f) := pts_one h
/-- the reading of a comprehension -/
theorem te_comp {m : Bool} {us vs : List Nat} {fi : FI} {gt : GT} {tt : FT} {fe : FE} {σ : L2.St} {H : Hp} {Q : VK} (hu : ∀ i ∈ us, i ∈ vs) (h : tE z Wx (fComp m vs fi gt tt fe) σ H Q) : tLc (tI z Wx fi) (tG z us gt) (tT z W0 tt) (tE z W0 fe) vs σ H Q := by
  obtain ⟨W, M, ρ, ok, env, r, hr, po⟩ := h
  rcases bnd_some hr with ⟨x, M1, e1, e2⟩ | ⟨t, M1, e1, hr1⟩
  · subst e2
    exact ⟨W, M, ρ, ok, env, _, e1, fun W' H' c d s q => po W' H' c d s q⟩
  refine ⟨W, M, ρ, ok, env, _, e1, fun W1 H1 J s1 it D hD => ?_⟩
  split at hr1
  rotate_left
  · cases hr1
  rename_i hlim
  split at hr1
  rotate_left
  · cases hr1
  rename_i es Mf hc
  obtain ⟨e, M9, hm, rfl⟩ := lft_some hr1
  have env1 := envOk_wipe (env.w s1.w) vs
  refine ⟨fun i k H' => i + k = t.n ∧ ∃ W' M' acc accE rest, Step z W1 H1 W' M' H' ∧ W'.F D = none ∧ D ∉ W'.α ∧ H' D = some (.lst acc) ∧ REs z W' acc accE ∧ accE.length ≤ i ∧ compN t gt tt fe k i (wipeE ρ vs) M' = some (rest, Mf) ∧ es = accE ++ rest,
    ⟨t.n, by omega, W1, M1, [], [], es, ?_, s1.ok.none_F hD, s1.ok.notin hD, upd_same, .nil, Nat.zero_le _, hc, rfl⟩, ?_⟩
  · exact (Step.refl s1.ok).side hD (s1.ok.none_F hD) (s1.ok.notin hD) (fun a q => by rw [hD] at q; cases q) ⟨fun ps q => by (rw [hD] at q; cases q), fun c q e => by (rw [hD] at e; cases e)⟩
  rintro i k H' ⟨hk, W', M', acc, accE, rest, s, hF, hα, hA, rA, lA, hr', he⟩
  have env' := env1.w s.w
  cases k with
  | zero =>
    unfold compN at hr'
    split at hr'
    · rename_i hf
      cases hr'
      rw [List.append_nil] at he
      subst he
      have : i = t.n := by omega
      subst this
      have hl : acc.length ≤ sizeLine := by rw [sizeLine_eq, res_len rA]; omega
      exact .inl ⟨(it _ _ _ s).2 hf, adoptLst s hD hF hα hA hl rA hm fun W2 H2 v t2 q2 => po W2 H2 v (s1.trans t2) q2⟩
    · cases hr'
  | succ k =>
    unfold compN at hr'
    split at hr'
    · cases hr'
    rename_i x hx
    obtain ⟨go, yl⟩ := (it _ _ _ s).1 i x (by omega) hx
    refine .inr ⟨go, fun H2 => ∃ W2 M2 acc accE rest, Step z W1 H1 W2 M2 H2 ∧ W2.F D = none ∧ D ∉ W2.α ∧ H2 D = some (.lst acc) ∧ REs z W2 acc accE ∧ accE.length ≤ i + 1 ∧ compN t gt tt fe k (i + 1) (wipeE ρ vs) M2 = some (rest, Mf) ∧ es = accE ++ rest, fun H2 h => ⟨k, Nat.lt_succ_self _, by omega, h⟩, fun y H'' yy => ?_⟩
    obtain ⟨W'', sy, rx⟩ := yl y H'' yy
    split at hr'
    rotate_left
    · cases hr'
    rename_i ρ1 M2 e2
    refine ⟨W'', M', _, x, sy.ok, env'.w sy.w, rx, _, e2, fun W3 H3 σ3 s3 q3 o3 => ⟨wipe_off o3 hu, ?_⟩⟩
    have b1 := sy.beside hF hα hA
    have b2 := s3.beside b1.1 b1.2.1 b1.2.2
    have s03 := (s.trans sy).trans s3
    split at hr'
    · rename_i M3 e3
      refine ⟨W3, M2, ρ1, s3.ok, q3, _, e3, fun W4 H4 s4 => iteT ?_⟩
      have b3 := s4.beside b2.1 b2.2.1 b2.2.2
      split at hr'
      rotate_left
      · cases hr'
      rename_i yv M4 e4
      split at hr'
      rotate_left
      · cases hr'
      rename_i ys M5 e5
      cases hr'
      refine ⟨W4, M3, ρ1, s4.ok, q3.w s4.w, _, e4, fun W5 H5 v5 s5 q5 => ?_⟩
      have b4 := s5.beside b3.1 b3.2.1 b3.2.2
      have s05 := (s03.trans s4).trans s5
      have lt : acc.length < sizeLine := by rw [sizeLine_eq, res_len rA]; omega
      refine ⟨acc, b4.2.2, lt, W5, M4, acc ++ [v5], accE ++ [yv], ys, s05.side hD b4.1 b4.2.1 (fun a q => by rw [b4.2.2] at q; cases q) ⟨fun ps q => by (rw [b4.2.2] at q; cases q), fun c q e => by (rw [b4.2.2] at e; unfold LamX.CodeO at e; cases e)⟩, b4.1, b4.2.1, upd_same, ?_, ?_, e5, ?_⟩
      · exact paired_app (s5.w.res (s4.w.res (s3.w.res (sy.w.res rA)))) (.cons q5 .nil)
      · rw [List.length_append, List.length_singleton]; omega
      · rw [he, List.append_assoc]; rfl
    · rename_i M3 e3
      refine ⟨W3, M2, ρ1, s3.ok, q3, _, e3, fun W4 H4 s4 => iteF ?_⟩
      have b3 := s4.beside b2.1 b2.2.1 b2.2.2
      exact ⟨W4, M3, acc, accE, rest, s03.trans s4, b3.1, b3.2.1, b3.2.2, s4.w.res (s3.w.res (sy.w.res rA)), by omega, hr', he⟩
    · cases hr'
end
end Pl

-- PS1
namespace Pl
section
variable {α : Type}
def ins (le : α → α → Bool) (x : α) : List α → List α
  | [] => [x]
  | y :: ys => if le x y = true then x :: y :: ys else y :: ins le x ys
def isort (le : α → α → Bool) : List α → List α
  | [] => []
  | x :: xs => ins le x (isort le xs)
theorem ins_perm (le : α → α → Bool) (x : α) : ∀ ys : List α, (ins le x ys).Perm (x :: ys)
  | [] => .refl _
  | y :: ys => by
    unfold ins
    split
    · exact .refl _
    · exact ((ins_perm le x ys).cons y).trans (.swap x y ys)
theorem isort_perm (le : α → α → Bool) : ∀ xs : List α, (isort le xs).Perm xs
  | [] => .refl _
  | x :: xs => (ins_perm le x _).trans ((isort_perm le xs).cons x)
theorem ins_sorted {le : α → α → Bool} (ht : ∀ a b c, le a b = true → le b c = true → le a c = true) (hl : ∀ a b, (le a b || le b a) = true) (x : α) : ∀ {ys : List α}, ys.Pairwise (fun a b => le a b = true) → (ins le x ys).Pairwise (fun a b => le a b = true)
  | [], _ => by simp [ins]
  | y :: ys, h => by
    unfold ins
    obtain ⟨h1, h2⟩ := List.pairwise_cons.mp h
    split
    · rename_i hc
      refine List.pairwise_cons.mpr ⟨fun z hz => ?_, h⟩
      rcases List.mem_cons.mp hz with rfl | hz
      · exact hc
      · exact ht _ _ _ hc (h1 z hz)
    · rename_i hc
      refine List.pairwise_cons.mpr ⟨fun z hz => ?_, ins_sorted ht hl x h2⟩
      rcases List.mem_cons.mp ((ins_perm le x ys).mem_iff.mp hz) with rfl | hz
      · have := hl z y
        simp only [hc, Bool.false_or] at this
        simpa [hc] using this
      · exact h1 z hz
theorem isort_sorted {le : α → α → Bool} (ht : ∀ a b c, le a b = true → le b c = true → le a c = true) (hl : ∀ a b, (le a b || le b a) = true) : ∀ xs : List α, (isort le xs).Pairwise (fun a b => le a b = true)
  | [] => .nil
  | x :: xs => ins_sorted ht hl x (isort_sorted ht hl xs)
theorem zle_of {le : α → α → Bool} {a b : α × Nat} (h : a.2 < b.2) : List.zipIdxLE le a b = le a.1 b.1 := by
  unfold List.zipIdxLE
  cases h1 : le a.1 b.1 with
  | false => simp
  | true => simp [Nat.le_of_lt h]
theorem ins_map {le : α → α → Bool} (x : α × Nat) : ∀ (ys : List (α × Nat)), (∀ y ∈ ys, x.2 < y.2) → (ins (List.zipIdxLE le) x ys).map (·.1) = ins le x.1 (ys.map (·.1))
  | [], _ => rfl
  | y :: ys, h => by
    unfold ins
    rw [zle_of (h y List.mem_cons_self)]
    show _ = if le x.1 y.1 = true then x.1 :: y.1 :: ys.map (·.1) else y.1 :: ins le x.1 (ys.map (·.1))
    split
    · rfl
    · rw [List.map_cons, ins_map x ys fun z hz => h z (List.mem_cons_of_mem _ hz)]
theorem mem_zip_ge : ∀ {xs : List α} {n : Nat} {p : α × Nat}, p ∈ xs.zipIdx n → n ≤ p.2
  | [], _, _, h => by simp at h
  | x :: xs, n, p, h => by
    rw [List.zipIdx_cons] at h
    rcases List.mem_cons.mp h with rfl | h
    · exact Nat.le_refl _
    · exact Nat.le_of_succ_le (mem_zip_ge h)
theorem isort_zip {le : α → α → Bool} : ∀ (xs : List α) (n : Nat), (isort (List.zipIdxLE le) (xs.zipIdx n)).map (·.1) = isort le xs
  | [], _ => rfl
  | x :: xs, n => by
    rw [List.zipIdx_cons]
    show (ins (List.zipIdxLE le) (x, n) (isort (List.zipIdxLE le) (xs.zipIdx (n + 1)))).map (·.1) = ins le x (isort le xs)
    rw [ins_map (x, n) _ fun y hy => mem_zip_ge ((isort_perm _ _).mem_iff.mp hy), isort_zip xs (n + 1)]
theorem zip_inj : ∀ {xs : List α} {n : Nat} {a b : α × Nat}, a ∈ xs.zipIdx n → b ∈ xs.zipIdx n → a.2 = b.2 → a = b
  | [], _, _, _, h, _, _ => by simp at h
  | x :: xs, n, a, b, ha, hb, e => by
    rw [List.zipIdx_cons] at ha hb
    rcases List.mem_cons.mp ha with rfl | ha <;> rcases List.mem_cons.mp hb with rfl | hb
    · rfl
    · have := mem_zip_ge hb
      simp at e
      omega
    · have := mem_zip_ge ha
      simp at e
      omega
    · exact zip_inj ha hb e
/-- inserting one after the other is the merge sort -/
theorem merge_isort {le : α → α → Bool} (ht : ∀ a b c, le a b = true → le b c = true → le a c = true) (hl : ∀ a b, (le a b || le b a) = true) (xs : List α) : xs.mergeSort le = isort le xs := by
  rw [← List.mergeSort_zipIdx, ← isort_zip xs 0]
  congr 1
  refine List.Perm.eq_of_pairwise (le := fun a b => List.zipIdxLE le a b = true) (fun a b ha hb h1 h2 => ?_) (List.pairwise_mergeSort (List.zipIdxLE_trans ht) (List.zipIdxLE_total hl) _) (isort_sorted (List.zipIdxLE_trans ht) (List.zipIdxLE_total hl) _) ((List.mergeSort_perm _ _).trans (isort_perm _ _).symm)
  have ha' : a ∈ xs.zipIdx := (List.mergeSort_perm _ _).mem_iff.mp ha
  have hb' : b ∈ xs.zipIdx := (isort_perm _ _).mem_iff.mp hb
  refine zip_inj ha' hb' ?_
  unfold List.zipIdxLE at h1 h2
  cases h3 : le a.1 b.1 with
  | false => rw [h3] at h1; simp at h1
  | true =>
    cases h4 : le b.1 a.1 with
    | false => rw [h4] at h2; simp at h2
    | true =>
      rw [h3, h4] at h1
      rw [h3, h4] at h2
      simp at h1 h2
      omega
end
/-- the order of data -/
def dLe {β : Type} (k : β → PySem.PyData) (a b : β) : Bool := !PySem.W.dataLt (k b) (k a)
theorem dLe_eq {β : Type} (k : β → PySem.PyData) : PySem.W.dataLe false k = dLe k := rfl
theorem dLe_trans {β : Type} (k : β → PySem.PyData) (a b c : β) (h1 : dLe k a b = true) (h2 : dLe k b c = true) : dLe k a c = true := by
  unfold dLe PySem.W.dataLt at *
  simp only [Bool.not_eq_true'] at *
  cases h : PyProof.Rows.lexLt PyProof.Rows.itemOrd (PySem.W.keyToks (k c)) (PySem.W.keyToks (k a)) with
  | false => rfl
  | true =>
    rcases (PyProof.Rows.listOrd PyProof.Rows.itemOrd).negTrans _ (PySem.W.keyToks (k b)) _ h with x | x
    · rw [show PyProof.Rows.lexLt PyProof.Rows.itemOrd (PySem.W.keyToks (k c)) (PySem.W.keyToks (k b)) = true from x] at h2; cases h2
    · rw [show PyProof.Rows.lexLt PyProof.Rows.itemOrd (PySem.W.keyToks (k b)) (PySem.W.keyToks (k a)) = true from x] at h1; cases h1
theorem dLe_total {β : Type} (k : β → PySem.PyData) (a b : β) : (dLe k a b || dLe k b a) = true := by
  unfold dLe PySem.W.dataLt
  cases h : PyProof.Rows.lexLt PyProof.Rows.itemOrd (PySem.W.keyToks (k b)) (PySem.W.keyToks (k a)) with
  | false => rfl
  | true =>
    cases h2 : PyProof.Rows.lexLt PyProof.Rows.itemOrd (PySem.W.keyToks (k a)) (PySem.W.keyToks (k b)) with
    | false => rfl
    | true =>
      have := (PyProof.Rows.listOrd PyProof.Rows.itemOrd).trans _ _ _ h h2
      rw [(PyProof.Rows.listOrd PyProof.Rows.itemOrd).irrefl] at this
      cases this
theorem sort_data_eq {β : Type} (k : β → PySem.PyData) (xs : List β) : xs.mergeSort (PySem.W.dataLe false k) = isort (dLe k) xs := merge_isort (dLe_trans k) (dLe_total k) xs
end Pl

-- PL11
namespace Pl
open PySem PySem.Spec L2

section
variable {X : Cx} {z : Bz} {Wx : WX} {tg iter elt : Expr}
/-- within a comprehension -/
abbrev InB (X : Cx) (scope : Scope) (J : Cx → Prop) : Prop := ∀ (s : Shared) (H : Hp) (C : Addr) (cl : List (Str × Addr)) (fp : List Addr), J (X.blk s H scope (compEnvC scope cl C X.env) fp)
theorem pe_weak {m : Bool} {us vs : List Nat} {fi : FI} {gt : GT} {tt : FT} {fe : FE} {e : Expr} (h : PE X e (tLc (tI z Wx fi) (tG z us gt) (tT z W0 tt) (tE z W0 fe) vs)) (hu : ∀ i ∈ us, i ∈ vs) : PE X e (tE z Wx (fComp m vs fi gt tt fe)) :=
  pe_of h fun _ _ _ => te_comp hu
theorem pd_comp {m : Bool} {us : List Nat} {fi : FI} {gt : GT} {tt : FT} {fe : FE} {ifs : List Expr} {scope : Scope} {own : List (Str × Nat)} {pos : Pos} (hc : X.calm = true) (hN : X.N.Nodup) (hi : PI X tg iter (tI z Wx fi)) (ok : BlkOk X.N X.env.scope scope own)
    (hg : InB X scope fun Y => PG Y tg (tG z us gt)) (ht : InB X scope fun Y => PTs Y ifs (tT z W0 tt)) (he : InB X scope fun Y => PE Y elt (tE z W0 fe)) (hu : ∀ i ∈ us, i ∈ own.map (·.2)) (hs : ∀ x, foldedSetIterable iter X.env x = pure x := by intro _; rfl) :
    PE X (.ListComp elt [⟨tg, iter, ifs, 0⟩] scope pos) (tE z Wx (fComp m (own.map (·.2)) fi gt tt fe)) := pe_weak (pe_lc hc hN hi ok hg ht he hs) hu
/-- name = [..] -/
theorem pd_setComp {m : Bool} {i : Nat} {y : Str} {py : Pos} {us : List Nat} {fi : FI} {gt : GT} {tt : FT} {fe : FE} {ifs : List Expr} {scope : Scope} {own : List (Str × Nat)} {pos spos : Pos} (hc : X.calm = true) (hN : X.N.Nodup) (hy : X.N[i]? = some y) (hyl : X.env.scope.names.lookup y = some .local)
    (hsw : swapsWith (.ListComp elt [⟨tg, iter, ifs, 0⟩] scope pos) (some (.Name y py)) spos.line X.env = pure true) (hi : PI X tg iter (tI z Wx fi)) (ok : BlkOk X.N X.env.scope scope own)
    (hg : InB X scope fun Y => PG Y tg (tG z us gt)) (ht : InB X scope fun Y => PTs Y ifs (tT z W0 tt)) (he : InB X scope fun Y => PE Y elt (tE z W0 fe)) (hu : ∀ i ∈ us, i ∈ own.map (·.2)) (hs : ∀ x, foldedSetIterable iter X.env x = pure x := by intro _; rfl) :
    PS X (.Assign [.Name y py] (.ListComp elt [⟨tg, iter, ifs, 0⟩] scope pos) spos) (tS z Wx (gSet i (fComp m (own.map (·.2)) fi gt tt fe))) :=
  ps_of (ps_setLc hc hN hy hyl hsw hi ok hg ht he hs) fun D σ H h => te_comp hu (ta_set h)

def gAbs : GL := fun xs M => match xs with
  | [a] => match asInt a with
    | some i => some (.p (.int (if i < 0 then -i else i)), M)
    | none => none
  | _ => none
def gI2L (f : Int → Int → Int) : GL := fun xs M => match xs with
  | [a, b] => match asInt a, asInt b with
    | some i, some j => some (.p (.int (f i j)), M)
    | _, _ => none
  | _ => none
def gMin2 : GL := gI2L fun i j => if j < i then j else i
def gMax2 : GL := gI2L fun i j => if j > i then j else i
theorem cr_abs : CallR X (.builtin "abs") (rLD z gAbs) := callR_of call_abs fun xs H Q ⟨W, M, es, ok, r, e, M', hg, hq⟩ => by
  unfold gAbs at hg
  split at hg
  · rename_i a
    split at hg
    · rename_i i hi
      cases hg
      cases r with | cons r1 r2 => cases r2; exact ⟨i, by rw [asInt_ok r1 hi], hq W H _ (.refl ok) (.p (.int _))⟩
    · cases hg
  · cases hg
theorem i2_split {f : Int → Int → Int} {W : Wd} {M M' : Store} {vs : List V} {es : List E} {e : E} (r : REs z W vs es) (h : gI2L f es M = some (e, M')) : ∃ i j, vs = [.int i, .int j] ∧ e = .p (.int (f i j)) ∧ M' = M := by
  unfold gI2L at h
  split at h
  · rename_i a b
    split at h
    · rename_i i j hi hj
      cases h
      cases r with | cons r1 r2 => cases r2 with | cons r2 r3 => cases r3; exact ⟨i, j, by rw [asInt_ok r1 hi, asInt_ok r2 hj], rfl, rfl⟩
    · cases h
  · cases h
theorem cr_min2 (hc : X.calm = true) : CallR X (.builtin "min") (rLD z gMin2) := callR_of (call_min2 hc) fun xs H Q ⟨W, M, es, ok, r, e, M', hg, hq⟩ => by
  obtain ⟨i, j, rfl, rfl, rfl⟩ := i2_split r hg
  exact ⟨i, j, rfl, hq W H _ (.refl ok) (.p (.int _))⟩
theorem cr_max2 (hc : X.calm = true) : CallR X (.builtin "max") (rLD z gMax2) := callR_of (call_max2 hc) fun xs H Q ⟨W, M, es, ok, r, e, M', hg, hq⟩ => by
  obtain ⟨i, j, rfl, rfl, rfl⟩ := i2_split r hg
  exact ⟨i, j, rfl, hq W H _ (.refl ok) (.p (.int _))⟩
/-- what has a length (but dicts and sets) -/
def lenE (M : Store) : E → Option Nat
  | .p (.str s) => if s.length ≤ 16777216 then some s.length else none
  | .p (.lst ds) => some ds.length
  | .p (.scr ds) => some ds.length
  | .p (.tup ds) => some ds.length
  | .r k => match M[k]? with
    | some (some (.lst es)) => some es.length
    | _ => none
  | _ => none
def gLen : GL := fun xs M => match xs with
  | [a] => match lenE M a with
    | some n => some (.p (.int n), M)
    | none => none
  | _ => none
theorem rvs_len2 {F : Hp} {vs : List V} {ds : List PD} (h : RVs z F vs ds) : vs.length = ds.length := rvs_len h
theorem cr_len (F : Fits X z) : CallR X (.builtin "len") (rLD z gLen) := callR_of call_len fun xs H Q ⟨W, M, es, ok, r, e, M', hg, hq⟩ => by
  unfold gLen at hg
  split at hg
  · rename_i a
    split at hg
    · rename_i n hn
      cases hg
      cases r with
      | cons r1 r2 =>
        cases r2
        refine ⟨_, n, rfl, ?_, hq W H _ (.refl ok) (.p (.int _))⟩
        unfold lenE at hn
        split at hn
        · rename_i s
          split at hn
          · rename_i hl
            cases hn
            cases r1 with | p r1 => cases r1; exact ⟨by rw [sizeLine_eq]; exact hl, rfl⟩
          · cases hn
        · cases hn
          cases r1 with | p r1 => cases r1 with | lst e1 l1 r1 => exact .inl ⟨_, .inl (.of (ok.same _ _ e1)), (rvs_len r1).symm⟩
        · cases hn
          cases r1 with | p r1 => cases r1 with | scr e1 l1 r1 => exact .inl ⟨_, F.K ▸ (Ext.of ok.same).sqL e1, (rvs_len r1).symm⟩
        · cases hn
          cases r1 with | p r1 => cases r1 with | tup e1 l1 r1 => exact .inr ⟨_, F.K ▸ (Ext.of ok.same).sqT e1, (rvs_len r1).symm⟩
        · rename_i k
          split at hn
          · rename_i es hM
            cases hn
            cases r1 with | r ha =>
            obtain ⟨b, e1, e2, vs, e3, e4, e5⟩ := ok.cell k _ hM
            rw [ha] at e1; cases e1
            exact .inl ⟨_, .inl (.of e3), (res_len e5).symm⟩
          · cases hn
        · cases hn
    · cases hg
  · cases hg

/-- the items of a list, a tuple, the script -/
def seqE0 (M : Store) : E → Option (List E)
  | .p (.scr ds) => some (ds.map .p)
  | .p (.tup ds) => some (ds.map .p)
  | e => asLst M e
theorem seqE0_ok {W : Wd} {M : Store} {H : Hp} {v : V} {e : E} {es : List E} (ok : StoreOk z W M H) (r : RE z W v e) (h : seqE0 M e = some es) : ∃ a vs, v = .ref a ∧ (SqL z.K H a vs ∨ SqT z.K H a vs) ∧ vs.length ≤ sizeLine ∧ REs z W vs es := by
  unfold seqE0 at h
  split at h
  · cases h
    cases r with | p r => cases r with | scr e1 l1 r1 => exact ⟨_, _, rfl, .inl ((Ext.of ok.same).sqL e1), l1, rvs_res r1⟩
  · cases h
    cases r with | p r => cases r with | tup e1 l1 r1 => exact ⟨_, _, rfl, .inr ((Ext.of ok.same).sqT e1), l1, rvs_res r1⟩
  · obtain ⟨a, vs, e1, e2, e3, e4⟩ := asLst_ok ok r h
    exact ⟨a, vs, e1, .inl (.inl (.of e2)), e3, e4⟩
def gListOf (m : Bool) : GL := fun xs M => match xs with
  | [a] => match seqE0 M a with
    | some es => mkLst m es M
    | none => none
  | _ => none
theorem cr_listOf (F : Fits X z) {m : Bool} : CallR X (.type "list") (rLD z (gListOf m)) := callR_of call_list_of fun xs H Q ⟨W, M, es, ok, r, e, M', hg, hq⟩ => by
  unfold gListOf at hg
  split at hg
  · rename_i a
    split at hg
    · rename_i es2 h2
      cases r with
      | cons r1 r2 =>
        cases r2
        obtain ⟨p, vs, rfl, h3, h4, h5⟩ := seqE0_ok ok r1 h2
        exact ⟨p, vs, rfl, F.K ▸ h3, fun l hl => mkLst_ok ok hg h5 h4 hl hq⟩
    · cases hg
  · cases hg
def gTupOf : GL := fun xs M => match xs with
  | [.p (.tup ds)] => some (.p (.tup ds), M)
  | [a] => match asLst M a with
    | some es => mkTup es M
    | none => match a with
      | .p (.scr ds) => some (.p (.tup ds), M)
      | _ => none
  | _ => none
theorem cr_tupOf (F : Fits X z) : CallR X (.type "tuple") (rLD z gTupOf) := callR_of call_tuple_of fun xs H Q ⟨W, M, es, ok, r, e, M', hg, hq⟩ => by
  unfold gTupOf at hg
  split at hg
  · rename_i ds
    cases hg
    cases r with
    | cons r1 r2 =>
      cases r2
      cases r1 with | p r1 =>
      have r1' := r1
      cases r1 with | tup e1 l1 r2 => exact ⟨_, _, rfl, .inr ⟨F.K ▸ (Ext.of ok.same).sqT e1, hq W H _ (.refl ok) (.p r1')⟩⟩
  · rename_i a _
    split at hg
    · rename_i es2 h2
      cases r with
      | cons r1 r2 =>
        cases r2
        obtain ⟨p, vs, rfl, h3, h4, h5⟩ := asLst_ok ok r1 h2
        exact ⟨p, vs, rfl, .inl ⟨.inl (.of h3), fun l hl => mkTup_ok ok hg h5 h4 hl hq⟩⟩
    · split at hg
      · rename_i ds
        cases hg
        cases r with
        | cons r1 r2 =>
          cases r2
          cases r1 with | p r1 => cases r1 with | scr e1 l1 r1 =>
          rename_i ys _
          refine ⟨_, ys, rfl, .inl ⟨F.K ▸ (Ext.of ok.same).sqL e1, fun l hl => ?_⟩⟩
          have s := newF ok hl (.tup ys)
          exact hq _ _ _ s (.p (.tup (SqT.of upd_same) l1 (r1.ext s.w.ext)))
      · cases hg
  · cases hg
end
end Pl

-- PL12
namespace Pl
open PySem PySem.Spec L2

theorem ins_mapK {α β : Type} {la : α → α → Bool} {lb : β → β → Bool} (f : α → β) (h : ∀ a b, lb (f a) (f b) = la a b) (x : α) : ∀ ys : List α, (ins la x ys).map f = ins lb (f x) (ys.map f)
  | [] => rfl
  | y :: ys => by
    unfold ins
    rw [List.map_cons]
    show _ = if lb (f x) (f y) = true then f x :: f y :: ys.map f else f y :: ins lb (f x) (ys.map f)
    rw [h]
    split
    · rfl
    · rw [List.map_cons, ins_mapK f h x ys]
theorem isort_mapK {α β : Type} {la : α → α → Bool} {lb : β → β → Bool} (f : α → β) (h : ∀ a b, lb (f a) (f b) = la a b) : ∀ xs : List α, (isort la xs).map f = isort lb (xs.map f)
  | [] => rfl
  | x :: xs => by
    show (ins la x (isort la xs)).map f = ins lb (f x) (isort lb (xs.map f))
    rw [ins_mapK f h, isort_mapK f h xs]
def pyKeys (M : Store) : List E → Option (List (E × PyData))
  | [] => some []
  | e :: es => match toPyE M e, pyKeys M es with
    | some k, some ks => some ((e, k) :: ks)
    | _, _ => none
def isTup1 : PyData → Bool
  | .tuple (_ :: _) => true
  | _ => false
def notTup : PyData → Bool
  | .none => false
  | .tuple _ => false
  | _ => true
def sortable (ks : List PyData) : Bool := ks.all isTup1 || ks.all notTup
def alikeAll : List PyData → Bool
  | [] => true
  | k :: ks => ks.all (fun j => PySem.W.alike k j && PySem.W.alike j k) && PySem.W.alike k k && alikeAll ks
theorem alikeAll_ok : ∀ {ks : List PyData}, alikeAll ks = true → PySem.W.AllAlike ks
  | [], _ => fun d hd => absurd hd (by simp)
  | k :: ks, h => by
    unfold alikeAll at h
    simp only [Bool.and_eq_true, List.all_eq_true] at h
    obtain ⟨⟨h1, h2⟩, h3⟩ := h
    intro d hd d' hd'
    rcases List.mem_cons.mp hd with e1 | m1 <;> rcases List.mem_cons.mp hd' with e2 | m2
    · rw [e1, e2]; exact h2
    · rw [e1]; exact (h1 _ m2).1
    · rw [e2]; exact (h1 _ m1).2
    · exact alikeAll_ok h3 d m1 d' m2
theorem sortable_ok {ks : List PyData} (h : sortable ks = true) : PySem.W.Sortable ks := by
  unfold sortable at h
  rcases Bool.or_eq_true _ _ |>.mp h with h | h
  · refine .inl fun d hd => ?_
    have := List.all_eq_true.mp h d hd
    unfold isTup1 at this
    split at this
    · exact ⟨_, _, rfl⟩
    · cases this
  · refine .inr fun d hd => ?_
    have := List.all_eq_true.mp h d hd
    unfold notTup at this
    split at this
    · cases this
    · cases this
    · rename_i h1 h2
      exact ⟨h1, fun xs e => h2 xs e⟩
def sortE (ks : List (E × PyData)) : List (E × PyData) := isort (dLe (·.2)) ks
def sortOk (ks : List PyData) : Bool := alikeAll ks && sortable ks && ks.all fun k => decide (k.depth ≤ 60)
def gSorted0 (m : Bool) (es : List E) (M : Store) : Option (E × Store) := match pyKeys M es with
  | some ks => if sortOk (ks.map (·.2)) = true then mkLst m ((sortE ks).map (·.1)) M else none
  | none => none
def gSorted (m : Bool) : GL := fun xs M => match xs with
  | [a] => match asLst M a with
    | some es => gSorted0 m es M
    | none => none
  | _ => none
/-- value, reading, key -/
abbrev Tri := V × E × PyData
theorem tri_of {z : Bz} {W : Wd} {M : Store} : ∀ {vs : List V} {es : List E} {ks : List (E × PyData)}, REs z W vs es → pyKeys M es = some ks → ∃ bs : List Tri, bs.map (·.1) = vs ∧ bs.map (·.2) = ks ∧ ∀ b ∈ bs, RE z W b.1 b.2.1 ∧ toPyE M b.2.1 = some b.2.2
  | _, _, _, .nil, h => by cases h; exact ⟨[], rfl, rfl, by simp⟩
  | _, _, _, .cons (a := v) (b := e) r rs, h => by
    unfold pyKeys at h
    split at h
    · rename_i k ks h1 h2
      cases h
      obtain ⟨bs, e1, e2, e3⟩ := tri_of rs h2
      refine ⟨(v, e, k) :: bs, by simp [e1], by simp [e2], fun b hb => ?_⟩
      rcases List.mem_cons.mp hb with rfl | hb
      · exact ⟨r, h1⟩
      · exact e3 b hb
    · cases h
theorem res_mem {z : Bz} {W : Wd} : ∀ {bs : List Tri}, (∀ b ∈ bs, RE z W b.1 b.2.1) → REs z W (bs.map (·.1)) (bs.map (·.2.1))
  | [], _ => .nil
  | b :: bs, h => .cons (h b List.mem_cons_self) (res_mem fun c hc => h c (List.mem_cons_of_mem _ hc))
theorem each_of {H : Hp} {R : Value → Tri → Prop} : ∀ {bs : List Tri} {its : List Value}, Vals (bs.map (·.1)) its → (∀ b ∈ bs, ∀ u, RelV b.1 u → R u b) → PySem.W.EachIs R its bs
  | [], _, h, _ => by
    have h : Vals [] _ := h
    cases h; exact .nil
  | b :: bs, its, h, k => by
    have h : Vals (b.1 :: bs.map (·.1)) its := h
    cases h with
    | cons r rs => exact .cons (k b List.mem_cons_self _ r) (each_of (H := H) rs fun c hc => k c (List.mem_cons_of_mem _ hc))
theorem vals_each : ∀ {out : List Value} {bs : List Tri}, PySem.W.EachIs (fun u (b : Tri) => RelV b.1 u) out bs → Vals (bs.map (·.1)) out
  | _, _, .nil => .nil
  | _, _, .cons r rs => .cons r (vals_each rs)
section
variable {X : Cx} {z : Bz} {Wx : WX}
theorem cr_sorted (F : Fits X z) (hu : X.A.units + 64 < cLine) {m : Bool} : CallR X (.builtin "sorted") (rLD z (gSorted m)) := by
  intro pins s σ H xs us Q I rs ⟨W, M, es, ok, r, e, M', hg, hq⟩
  unfold gSorted at hg
  split at hg
  rotate_left
  · cases hg
  rename_i a
  split at hg
  rotate_left
  · cases hg
  rename_i es ha
  unfold gSorted0 at hg
  split at hg
  rotate_left
  · cases hg
  rename_i ks hk
  split at hg
  rotate_left
  · cases hg
  rename_i hok
  cases r with | cons r1 r2 =>
  cases r2
  obtain ⟨p, vs, rfl, h1, h2, h3⟩ := asLst_ok ok r1 ha
  obtain ⟨u, rfl, ru⟩ := vals1 rs
  obtain rfl : u = Value.ref p := ru
  obtain ⟨its, rv, pl, hz⟩ := I.list (SqL.of h1)
  obtain ⟨bs, rfl, rfl, hb⟩ := tri_of h3 hk
  unfold sortOk at hok
  simp only [Bool.and_eq_true, List.all_eq_true, decide_eq_true_eq] at hok
  obtain ⟨⟨o1, o2⟩, o3⟩ := hok
  have mm : (bs.map (·.2)).map (·.2) = bs.map fun b : Tri => b.2.2 := by rw [List.map_map]; rfl
  rw [mm] at o1 o2 o3
  have hlen : bs.length ≤ sizeLine := by rw [List.length_map] at h2; exact h2
  refine PySem.W.sorted_data (R := fun u (b : Tri) => RelV b.1 u) (enc := fun b : Tri => b.2.2) pl.isList (each_of (H := H) rv fun b _ u q => q) (each_of (H := H) rv fun b hb2 u q => Dp.reads I b.2.2 b.1 u (F.K ▸ (hb b hb2).1.dp ok (hb b hb2).2) q)
    (alikeAll_ok o1) (sortable_ok o2) hlen (fun b hb2 => ?_) fun out ol eo => ?_
  · have := o3 _ (List.mem_map.mpr ⟨b, hb2, rfl⟩)
    omega
  · rw [sort_data_eq] at eo
    have rvs := vals_each eo
    obtain ⟨c, hc⟩ := PyProof.Rows.sortedAll_at s.heap its out.toArray
    have hn : H (s.heap.objs.size + 1) = none := I.hok.fresh (Nat.le_succ _)
    have pm := isort_perm (dLe fun b : Tri => b.2.2) bs
    have hls : ((isort (dLe fun b : Tri => b.2.2) bs).map (·.1)).length ≤ sizeLine := by rw [List.length_map, pm.length_eq]; exact hlen
    refine ⟨.ref (s.heap.objs.size + 1), _, I.laid (t' := s.toks) (o := .lst ((isort (dLe fun b : Tri => b.2.2) bs).map (·.1))) (h' := PyProof.Rows.sortedAll s.heap its out.toArray) (fun _ _ => PyProof.Rows.sortedAll_old) (Nat.le_succ _) ⟨hls, out, c, rvs, hc⟩, rfl, ?_⟩
    refine mkLst_ok ok hg (es := _) ?_ hls hn hq
    have e1 : sortE (bs.map (·.2)) = (isort (dLe fun b : Tri => b.2.2) bs).map (·.2) := (isort_mapK (la := dLe fun b : Tri => b.2.2) (lb := dLe fun b : E × PyData => b.2) (fun b : Tri => b.2) (fun _ _ => rfl) bs).symm
    rw [e1, List.map_map]
    exact res_mem fun b hb2 => (hb b (pm.mem_iff.mp hb2)).1
end
end Pl

-- PL13
namespace Pl
open PySem PySem.Spec L2

/-- a type's name, or the c-th class -/
inductive Tg where
  | b (n : String) | c (i : Nat)
  deriving DecidableEq, Inhabited
def tgV (z : Bz) : Tg → Value
  | .b n => .type n
  | .c i => .ref (z.ca i)
/-- the classes: which are of instances, which are errors; who is below whom -/
structure CT where
  ins : Nat → Bool
  exc : Nat → Bool
  sub : Tg → Tg → Option Bool
structure InsC (K : PySem.W.Frag) (C : Addr) : Prop where
  cl : Cls K C
  ha : PySem.W.findIn K (.ref C) "__class__" = some (some (.builtin "object.__class__"))
  hn : PySem.W.specialIn K (.builtin "object.__class__") "__get__" = some (some (.builtin "getset_descriptor.__get__"))
  ht : PySem.W.takesIn K (.builtin "object.__class__") = some true
  hm : PySem.W.mroIn K C (.type "object") = some true
structure CTok (z : Bz) (ct : CT) : Prop where
  ins : ∀ c, ct.ins c = true → InsC z.K (z.ca c)
  exc : ∀ c, ct.exc c = true → ExcC z.K (z.ca c)
  sub : ∀ t u b, ct.sub t u = some b → PySem.W.kitOne z.K (tgV z t) (tgV z u) = some b
def tagP (ct : CT) : PD → Option Tg
  | .non => some (.b "NoneType")
  | .bl _ => some (.b "bool")
  | .int _ => some (.b "int")
  | .str _ => some (.b "str")
  | .lst _ => some (.b "list")
  | .scr _ => some (.b "list")
  | .tup _ => some (.b "tuple")
  | .dic _ => some (.b "dict")
  | .ins c _ => if ct.ins c = true then some (.c c) else none
  | .exn c [] => if ct.exc c = true then some (.c c) else none
  | _ => none
def tagE (ct : CT) (M : Store) : E → Option Tg
  | .p d => tagP ct d
  | .r k => match M[k]? with
    | some (some (.lst _)) => some (.b "list")
    | some (some (.dic _)) => some (.b "dict")
    | some (some (.dcN _)) => some (.b "dict")
    | some (some (.ins c _)) => if ct.ins c = true then some (.c c) else none
    | _ => none
  | _ => none
/-- a class as a value -/
def asTg : PD → Option Tg
  | .ty n => some (.b n)
  | .cls c => some (.c c)
  | _ => none
def asTgs : List PD → Option (List Tg)
  | [] => some []
  | d :: ds => match asTg d, asTgs ds with
    | some t, some ts => some (t :: ts)
    | _, _ => none
def isAny (ct : CT) (t : Tg) : List Tg → Option Bool
  | [] => some false
  | u :: us => match ct.sub t u with
    | some true => some true
    | some false => isAny ct t us
    | none => none
def gIsi (ct : CT) : GL := fun xs M => match xs with
  | [a, .p (.tup ds)] => match tagE ct M a, asTgs ds with
    | some t, some us => match isAny ct t us with
      | some b => some (.p (.bl b), M)
      | none => none
    | _, _ => none
  | [a, .p d] => match tagE ct M a, asTg d with
    | some t, some u => match ct.sub t u with
      | some b => some (.p (.bl b), M)
      | none => none
    | _, _ => none
  | _ => none
theorem tg_val {z : Bz} {F : Hp} {v : V} {d : PD} {t : Tg} {u : Value} (r : RV z F v d) (h : asTg d = some t) (ru : RelV v u) : u = tgV z t := by
  unfold asTg at h
  split at h
  · cases h; cases r; exact ru
  · cases h; cases r; exact ru
  · cases h
theorem tgs_val {z : Bz} {F : Hp} : ∀ {vs : List V} {ds : List PD} {ts : List Tg} {us : List Value}, RVs z F vs ds → asTgs ds = some ts → Vals vs us → us = ts.map (tgV z)
  | _, _, _, _, .nil, h, r => by cases h; cases r; rfl
  | _, _, _, _, .cons r rs, h, ru => by
    unfold asTgs at h
    split at h
    · rename_i t ts h1 h2
      cases h
      cases ru with
      | cons q qs => rw [tg_val r h1 q, tgs_val rs h2 qs]; rfl
    · cases h
theorem isAny_ok {z : Bz} {ct : CT} (T : CTok z ct) {t : Tg} : ∀ {us : List Tg} {b : Bool}, isAny ct t us = some b → PySem.W.kitAny z.K (tgV z t) (us.map (tgV z)) = some b
  | [], b, h => by cases h; rfl
  | u :: us, b, h => by
    unfold isAny at h
    split at h
    · rename_i e
      cases h
      exact kitAny_cons (T.sub _ _ _ e) (fun q => by cases q) fun _ => rfl
    · rename_i e
      exact kitAny_cons (T.sub _ _ _ e) (fun _ => isAny_ok T h) fun q => by cases q
    · cases h
section
variable {X : Cx} {z : Bz} {Wx : WX} {ct : CT}
theorem kitE (F : Fits X z) (T : CTok z ct) {pins : List (Addr × Obj)} {s : Shared} {σ : L2.St} {H : Hp} {W : Wd} {M : Store} {x : V} {u : Value} {e : E} {t : Tg} (I : Inv X pins σ H s) (ok : StoreOk z W M H) (re : RE z W x e) (rx : RelV x u) (h : tagE ct M e = some t) :
    ∃ P : Heap → Prop, PySem.W.KitX X.K u (tgV z t) P ∧ P s.heap ∧ u ≠ .builtin "__main__.__loader__#opaque" := by
  have insK : ∀ {a : Addr} {c : Nat} {dx : Addr} {fs : List (Str × V)}, H a = some (.ins (z.ca c) dx fs) → ct.ins c = true → ∃ P : Heap → Prop, PySem.W.KitX X.K (.ref a) (.ref (z.ca c)) P ∧ P s.heap ∧ Value.ref a ≠ .builtin "__main__.__loader__#opaque" := fun {a c dx fs} e hc => by
    have q := T.ins c hc
    rw [F.K] at q
    exact kit_of (x := .ref a) I rfl (.base (.ins e q.cl q.ha q.hn q.ht q.hm))
  unfold tagE at h
  split at h
  · rename_i d
    cases re with | p r =>
    unfold tagP at h
    split at h
    · cases h; cases r; exact kit_of I rx (.base .non)
    · cases h; cases r; exact kit_of I rx (.base (.bl _))
    · cases h; cases r; exact kit_of I rx (.base (.int _))
    · cases h; cases r; exact kit_of I rx (.base (.str _))
    · cases h; cases r with | lst e1 l1 r1 => exact kit_of I rx (.base (.lst (ok.same _ _ e1)))
    · cases h
      cases r with | scr e1 l1 r1 =>
      rcases (F.K ▸ (Ext.of ok.same).sqL e1 : SqL X.K H _ _) with (e | ⟨o, e⟩) | ⟨o, its, n, e, hc, _⟩
      · exact kit_of I rx (.base (.lst e))
      · exact kit_of I rx (.base (.frz e))
      · exact kit_of I rx (.kList e hc)
    · cases h
      cases r with | tup e1 l1 r1 =>
      rcases (F.K ▸ (Ext.of ok.same).sqT e1 : SqT X.K H _ _) with (e | ⟨o, e⟩) | ⟨o, its, n, e, hc, _⟩
      · exact kit_of I rx (.base (.tup e))
      · exact kit_of I rx (.fTuple e)
      · exact kit_of I rx (.kTuple e hc)
    · cases h; cases r with | dic e1 l1 r1 => exact kit_of I rx (.fDict (ok.same _ _ e1))
    · rename_i c fs
      split at h
      · rename_i hc
        cases h
        cases r with | ins e1 r1 =>
        cases (show u = Value.ref _ from rx)
        exact insK (ok.same _ _ e1) hc
      · cases h
    · rename_i c
      split at h
      · rename_i hc
        cases h
        have C := T.exc c hc
        rw [F.K] at C
        cases r with
        | exn0 e1 =>
          cases (show u = Value.ref _ from rx)
          obtain ⟨⟨oe, vs, ho, hz, hv⟩, _, _⟩ := I.hok _ _ (ok.same _ _ e1)
          refine ⟨_, PySem.W.handS_kitx_exc (ox := oe) C.hg C.hk C.hs C.hd C.ha C.hn C.ht C.hm, ?_, fun z => nomatch z⟩
          obtain ⟨oc, od, oda, osl⟩ := oe
          obtain ⟨q1, q2⟩ := hz
          dsimp only at q1 q2 hv
          subst q1 q2 hv
          exact ⟨ho, rfl, rfl, trivial⟩
        | exn e1 e2 nn r1 => exact absurd rfl nn
      · cases h
    · cases h
  · rename_i k
    split at h
    · rename_i es hM
      cases h
      cases re with | r ha =>
      obtain ⟨b, q1, q2, vs, q3, q4, q5⟩ := ok.cell k _ hM
      rw [ha] at q1; cases q1
      exact kit_of I rx (.base (.lst q3))
    · rename_i es hM
      cases h
      cases re with | r ha =>
      obtain ⟨b, q1, q2, vs, q3, q4, q5⟩ := ok.cell k _ hM
      rw [ha] at q1; cases q1
      exact kit_of I rx (.base (.dK q3))
    · rename_i es hM
      cases h
      cases re with | r ha =>
      obtain ⟨b, q1, q2, L, q3, q4, q5⟩ := ok.cell k _ hM
      rw [ha] at q1; cases q1
      cases (show u = Value.ref _ from rx)
      obtain ⟨⟨xs, _, _, _, o, es, ep, h1, h2, _⟩, _, _⟩ := I.hok _ _ q3
      exact ⟨_, PySem.W.kitx_dict, ⟨o, h1, h2.1⟩, fun z => nomatch z⟩
    · rename_i c fs hM
      split at h
      · rename_i hc
        cases h
        cases re with | r ha =>
        obtain ⟨b, q1, q2, dx, vs, q3, q4, q5⟩ := ok.cell k _ hM
        rw [ha] at q1; cases q1
        cases (show u = Value.ref _ from rx)
        exact insK q3 hc
      · cases h
    · cases h
  · cases h
theorem cr_isi (F : Fits X z) (T : CTok z ct) : CallR X (.builtin "isinstance") (rLD z (gIsi ct)) := by
  intro pins s σ H xs us Q I rs ⟨W, M, es, ok, r, e, M', hg, hq⟩
  unfold gIsi at hg
  split at hg
  · rename_i a ds
    split at hg
    rotate_left
    · cases hg
    rename_i t ts ht hts
    split at hg
    rotate_left
    · cases hg
    rename_i b hb
    cases hg
    cases r with | cons ra r =>
    cases r with | cons rt r =>
    cases r
    obtain ⟨u1, u2, rfl, r1, r2⟩ := vals2 rs
    obtain ⟨P, Z, p, hx⟩ := kitE F T I ok ra r1 ht
    cases rt with | p rt =>
    cases rt with | tup e1 l1 rr =>
    cases (show u2 = Value.ref _ from r2)
    obtain ⟨its, rv, ⟨o, ho, hc, n, hd⟩, _⟩ := I.tuple (F.K ▸ (Ext.of ok.same).sqT e1)
    have e3 := tgs_val rr hts rv
    subst e3
    obtain ⟨oc, od, dt, sl⟩ := o
    simp only at hc hd
    subst hc hd
    exact PySem.W.kia_tup Z I.kIn p ho (F.K ▸ isAny_ok T hb) hx fun tk => ⟨.bl b, H, I.tok tk, rfl, hq W H _ (.refl ok) (.p (.bl _))⟩
  · rename_i a d _
    split at hg
    rotate_left
    · cases hg
    rename_i t u ht hu
    split at hg
    rotate_left
    · cases hg
    rename_i b hb
    cases hg
    cases r with | cons ra r =>
    cases r with | cons rt r =>
    cases r
    obtain ⟨u1, u2, rfl, r1, r2⟩ := vals2 rs
    obtain ⟨P, Z, p, hx⟩ := kitE F T I ok ra r1 ht
    cases rt with | p rt =>
    rw [tg_val rt hu r2]
    exact PySem.W.kia_one Z I.kIn p (F.K ▸ T.sub _ _ _ hb) hx fun tk => ⟨.bl b, H, I.tok tk, rfl, hq W H _ (.refl ok) (.p (.bl _))⟩
  · cases hg

def rngP (a b : Int) : List PD := (List.range (b - a).toNat).map fun i => .int (a + (i : Nat))
theorem rngP_rv {F : Hp} (a b : Int) : RVs z F (rgV a b) (rngP a b) := by
  unfold rgV rngP
  induction List.range (b - a).toNat with
  | nil => exact .nil
  | cons k ks ih => exact .cons (.int _) ih
def okRg (a b : Int) : Bool := okR a && okR b && decide ((b - a).toNat ≤ 2 ^ 24)
theorem okRg_ok {a b : Int} (h : okRg a b = true) : RgOk a b := by
  unfold okRg at h
  simp only [Bool.and_eq_true, decide_eq_true_eq] at h
  obtain ⟨⟨h1, h2⟩, h3⟩ := h
  exact ⟨(okR_ok h1).1, (okR_ok h1).2, (okR_ok h2).1, (okR_ok h2).2, h3⟩
def fTupRg (f : FE) : FE := fun ρ M => bnd (f ρ M) fun x M1 => match asInt x with
  | some n => if okRg 0 n = true then some (.inr (.p (.tup (rngP 0 n))), M1) else none
  | none => none
theorem pd_tupRg {f : FE} {a : Expr} {p p2 pos pos2 : Pos} (hc : X.calm = true) (hg : Gl X "tuple") (hm : X.mg "tuple" = none) (hg2 : Gl X "range") (hm2 : X.mg "range" = none) (ha : PE X a (tE z Wx f))
    (na : starEach [a] X.env = (false, eval a X.env) :: starEach [] X.env := by rfl) (na2 : starEach [.Call (.Name "range" p2) [a] [] pos2] X.env = (false, eval (.Call (.Name "range" p2) [a] [] pos2) X.env) :: starEach [] X.env := by rfl) :
    PE X (.Call (.Name "tuple" p) [.Call (.Name "range" p2) [a] [] pos2] [] pos) (tE z Wx (fTupRg f)) :=
  pe_of (pe_tupRg hc hg hm (prg_1 hg2 hm2 ha na) na2) fun σ H Q ⟨W, M, ρ, ok, env, r, hr, po⟩ => by
    refine seqE ok env hr po.exc fun e1 M1 W1 H1 v1 s1 q1 hr1 => ?_
    split at hr1
    · rename_i n hn
      split at hr1
      · rename_i hk
        cases hr1
        refine ⟨n, asInt_ok q1 hn, okRg_ok hk, fun q hq => ?_⟩
        have s2 := newF s1.ok hq (.tup (rgV 0 n))
        refine po _ _ _ (s1.trans s2) (.p (.tup (SqT.of upd_same) ?_ (rngP_rv 0 n)))
        rw [rgV_length, sizeLine_eq]
        have := (okRg_ok hk).2.2.2.2
        simpa using this
      · cases hr1
    · cases hr1

def asInts : List PD → Option (List Int)
  | [] => some []
  | .int i :: ds => match asInts ds with
    | some is => some (i :: is)
    | none => none
  | _ :: _ => none
theorem asInts_vals {F : Hp} : ∀ {vs : List V} {ds : List PD} {is : List Int}, RVs z F vs ds → asInts ds = some is → vs = is.map V.int
  | _, _, _, .nil, h => by cases h; rfl
  | _, _, _, .cons (d := d) r rs, h => by
    unfold asInts at h
    split at h
    · rename_i he; cases he
    · rename_i he
      cases he
      split at h
      · rename_i is h2
        cases h
        cases r
        rw [asInts_vals rs h2]; rfl
      · cases h
    · cases h
def gSetT : GL := fun xs M => match xs with
  | [.p (.tup ds)] => match asInts ds with
    | some ks => if ks.length < 1000 then some (.p (.iset ks), M) else none
    | none => none
  | _ => none
theorem cr_setT (F : Fits X z) (hc : X.calm = true) : CallR X (.type "set") (rLD z gSetT) := by
  intro pins s σ H xs us Q I rs ⟨W, M, es, ok, r, e, M', hg, hq⟩
  unfold gSetT at hg
  split at hg
  rotate_left
  · cases hg
  rename_i ds
  split at hg
  rotate_left
  · cases hg
  rename_i ks hk
  split at hg
  rotate_left
  · cases hg
  rename_i hl
  cases hg
  cases r with | cons ra r =>
  cases r
  obtain ⟨u, rfl, ru⟩ := vals1 rs
  cases ra with | p ra =>
  cases ra with | tup e1 l1 rr =>
  cases (show u = Value.ref _ from ru)
  obtain ⟨its, rv, pt, _⟩ := I.tuple (F.K ▸ (Ext.of ok.same).sqT e1)
  have ev := asInts_vals rr hk
  subst ev
  refine L2.call_set_tupI ks (I.ok.hd hc) pt ?_ (by unfold scanBound; omega) fun h' tk c R1 hcn k => ?_
  · have : its.toArray.toList = its := rfl
    rw [this]
    exact ints_of_vals rv
  · have hn : H s.heap.objs.size = none := I.hok.fresh (Nat.le_refl _)
    refine ⟨.ref s.heap.objs.size, _, I.laid (t' := tk) (o := SetO X.w s.heap.objs.size (fun j => decide (j ∈ ks)) c) k (Nat.le_refl _) (setO_new R1), rfl, ?_⟩
    refine hq _ _ _ (newF ok hn _ (fun ps q => by unfold SetO at q; cases q)) (.p (.iset (S := fun j => decide (j ∈ ks)) (n := c) ?_ (fun k => by simp) hcn))
    rw [F.w]
    exact upd_same
/-- strictly rising -/
def uins (i : Int) : List Int → List Int
  | [] => [i]
  | j :: js => if i < j then i :: j :: js else if i = j then j :: js else j :: uins i js
def usort : List Int → List Int
  | [] => []
  | i :: is => uins i (usort is)
theorem uins_mem (i k : Int) : ∀ {js : List Int}, k ∈ uins i js ↔ k = i ∨ k ∈ js
  | [] => by simp [uins]
  | j :: js => by
    unfold uins
    split
    · simp
    · split
      · rename_i e
        subst e
        simp
      · rw [List.mem_cons, uins_mem i k, List.mem_cons]
        constructor
        · rintro (h | h | h)
          · exact .inr (.inl h)
          · exact .inl h
          · exact .inr (.inr h)
        · rintro (h | h | h)
          · exact .inr (.inl h)
          · exact .inl h
          · exact .inr (.inr h)
theorem usort_mem (k : Int) : ∀ {is : List Int}, k ∈ usort is ↔ k ∈ is
  | [] => by simp [usort]
  | i :: is => by
    show k ∈ uins i (usort is) ↔ _
    rw [uins_mem, usort_mem k, List.mem_cons]
theorem uins_up (i : Int) : ∀ {js : List Int}, js.Pairwise (· < ·) → (uins i js).Pairwise (· < ·)
  | [], _ => by simp [uins]
  | j :: js, h => by
    unfold uins
    obtain ⟨h1, h2⟩ := List.pairwise_cons.mp h
    split
    · rename_i hl
      refine List.pairwise_cons.mpr ⟨fun k hk => ?_, h⟩
      rcases List.mem_cons.mp hk with e | hk
      · omega
      · have := h1 k hk; omega
    · split
      · exact h
      · refine List.pairwise_cons.mpr ⟨fun k hk => ?_, uins_up i h2⟩
        rcases (uins_mem i k).mp hk with e | hk
        · omega
        · exact h1 k hk
theorem usort_up : ∀ is : List Int, (usort is).Pairwise (· < ·)
  | [] => .nil
  | i :: is => uins_up i (usort_up is)
theorem up_eq : ∀ {a b : List Int}, a.Pairwise (· < ·) → b.Pairwise (· < ·) → (∀ k, k ∈ a ↔ k ∈ b) → a = b
  | [], [], _, _, _ => rfl
  | [], b :: bs, _, _, h => absurd ((h b).mpr List.mem_cons_self) (by simp)
  | a :: as, [], _, _, h => absurd ((h a).mp List.mem_cons_self) (by simp)
  | a :: as, b :: bs, ha, hb, h => by
    obtain ⟨a1, a2⟩ := List.pairwise_cons.mp ha
    obtain ⟨b1, b2⟩ := List.pairwise_cons.mp hb
    have e : a = b := by
      rcases List.mem_cons.mp ((h a).mp List.mem_cons_self) with q | q
      · exact q
      · rcases List.mem_cons.mp ((h b).mpr List.mem_cons_self) with q2 | q2
        · exact q2.symm
        · have := b1 _ q; have := a1 _ q2; omega
    subst e
    rw [up_eq a2 b2 fun k => ?_]
    constructor
    · intro hk
      rcases List.mem_cons.mp ((h k).mp (List.mem_cons_of_mem _ hk)) with q | q
      · have := a1 k hk; omega
      · exact q
    · intro hk
      rcases List.mem_cons.mp ((h k).mpr (List.mem_cons_of_mem _ hk)) with q | q
      · have := b1 k hk; omega
      · exact q
def gSortI (m : Bool) : GL := fun xs M => match xs with
  | [.p (.iset ks)] => if ks.length < 64 then mkLst m ((usort ks).map fun k => .p (.int k)) M else none
  | _ => none
theorem res_ints {W : Wd} : ∀ ks : List Int, REs z W (ks.map V.int) (ks.map fun k => .p (.int k))
  | [] => .nil
  | k :: ks => .cons (.p (.int k)) (res_ints ks)
theorem uins_len (i : Int) : ∀ js : List Int, (uins i js).length ≤ js.length + 1
  | [] => by simp [uins]
  | j :: js => by
    unfold uins
    split
    · simp
    · split
      · simp
      · have := uins_len i js
        simp; omega
theorem usort_len : ∀ is : List Int, (usort is).length ≤ is.length
  | [] => by simp [usort]
  | i :: is => by
    have h1 := uins_len i (usort is)
    have h2 := usort_len is
    show (uins i (usort is)).length ≤ _
    simp; omega
theorem cr_sortI (F : Fits X z) (hc : X.calm = true) {m : Bool} : CallR X (.builtin "sorted") (rLD z (gSortI m)) := callR_of (cr_sortedSet hc) fun xs H Q ⟨W, M, es, ok, r, e, M', hg, hq⟩ => by
  unfold gSortI at hg
  split at hg
  rotate_left
  · cases hg
  rename_i ks
  split at hg
  rotate_left
  · cases hg
  rename_i hl
  cases r with | cons ra r =>
  cases r
  cases ra with | p ra =>
  cases ra with | @iset a S n _ e1 hS hn =>
  refine ⟨a, S, n, rfl, F.w ▸ ok.same _ _ e1, by omega, fun ns p up mem len hp => ?_⟩
  have e2 : ns = usort ks := up_eq up (usort_up ks) fun k => by rw [mem, hS, usort_mem]
  subst e2
  refine mkLst_ok ok hg (res_ints _) ?_ hp hq
  rw [List.length_map, sizeLine_eq]
  have := usort_len ks
  omega
end
end Pl

-- PL14
namespace Pl
open PySem PySem.Spec L2

def asKey : E → Option Key
  | .p (.int i) => some (.inl i)
  | .p (.str s) => some (.inr s)
  | _ => none
theorem asKey_ok {z : Bz} {W : Wd} {v : V} {e : E} {k : Key} (r : RE z W v e) (h : asKey e = some k) : v = kV k := by
  unfold asKey at h
  split at h
  · cases h; cases r with | p r => cases r; rfl
  · cases h; cases r with | p r => cases r; rfl
  · cases h
def getD {α : Type} : List (Key × α) → Key → Option α
  | [], _ => none
  | (k, v) :: r, j => if k = j then some v else getD r j
def setD {α : Type} : List (Key × α) → Key → α → List (Key × α)
  | [], j, x => [(j, x)]
  | (k, v) :: r, j, x => if k = j then (k, x) :: r else (k, v) :: setD r j x
theorem setD_len {α : Type} (j : Key) (x : α) : ∀ r : List (Key × α), (setD r j x).length ≤ r.length + 1
  | [] => by simp [setD]
  | (k, v) :: r => by
    unfold setD
    split
    · simp
    · have := setD_len j x r
      simp; omega
/-- the keys of a dict, each once -/
def keysOk {α : Type} : List (Key × α) → Bool
  | [] => true
  | (k, _) :: r => !(r.any fun p => decide (p.1 = k)) && keysOk r
theorem find_rel {R : V → E → Prop} {j : Key} : ∀ {vs : List (Key × V)} {es : List (Key × E)}, Paired (fun p q => p.1 = q.1 ∧ R p.2 q.2) vs es → (getD es j = none → valV vs j = none) ∧ ∀ e, getD es j = some e → ∃ v, valV vs j = some v ∧ R v e
  | _, _, .nil => ⟨fun _ => rfl, fun e h => by cases h⟩
  | (k, v) :: vs, (k2, e) :: es, .cons h t => by
    obtain ⟨h1, h2⟩ := h
    have h1 : k = k2 := h1
    subst h1
    obtain ⟨i1, i2⟩ := find_rel (j := j) t
    refine ⟨fun q => ?_, fun e' q => ?_⟩
    · unfold getD at q
      split at q
      · cases q
      · rename_i n; rw [valV_neg n]; exact i1 q
    · unfold getD at q
      split at q
      · rename_i n; cases q; exact ⟨v, valV_pos n, h2⟩
      · rename_i n
        obtain ⟨v', q1, q2⟩ := i2 e' q
        exact ⟨v', by rw [valV_neg n]; exact q1, q2⟩
theorem getD_setD {α : Type} (j : Key) (x : α) (k : Key) : ∀ es : List (Key × α), getD (setD es j x) k = if k = j then some x else getD es k
  | [] => by
    unfold setD getD
    by_cases e : k = j
    · rw [if_pos e, if_pos e.symm]
    · rw [if_neg e, if_neg (fun q => e q.symm)]; rfl
  | (k2, v) :: r => by
    unfold setD
    split
    · rename_i e
      subst e
      unfold getD
      by_cases e : k = k2
      · rw [if_pos e, if_pos e.symm]
      · rw [if_neg e, if_neg (fun q => e q.symm), if_neg (fun q => e q.symm)]
    · rename_i n
      unfold getD
      rw [getD_setD j x k r]
      by_cases e : k2 = k
      · rw [if_pos e, if_neg (fun q => n (e.trans q)), if_pos e]
      · rw [if_neg e, if_neg e]
/-- putK on both sides, keys each once -/
theorem put_rel {R : V → E → Prop} {j : Key} {v : V} {e : E} (r : R v e) : ∀ {vs : List (Key × V)} {es : List (Key × E)}, Paired (fun p q => p.1 = q.1 ∧ R p.2 q.2) vs es → keysOk es = true → Paired (fun p q => p.1 = q.1 ∧ R p.2 q.2) (putK vs j v) (setD es j e)
  | _, _, .nil, _ => .cons ⟨rfl, r⟩ .nil
  | (k, v0) :: vs, (k2, e0) :: es, .cons h t, hk => by
    obtain ⟨h1, h2⟩ := h
    have h1 : k = k2 := h1
    subst h1
    unfold keysOk at hk
    simp only [Bool.and_eq_true, Bool.not_eq_true'] at hk
    by_cases c : k = j
    · subst c
      have e1 : putK ((k, v0) :: vs) k v = (k, v) :: vs.map (fun kv => if kv.1 = k then (kv.1, v) else kv) := by
        unfold putK
        rw [if_pos (by simp)]
        simp
      rw [e1]
      unfold setD
      rw [if_pos rfl]
      refine .cons ⟨rfl, r⟩ ?_
      have no : ∀ p ∈ vs, p.1 ≠ k := by
        have := hk.1
        intro p hp q
        obtain ⟨qe, hq1, hq2⟩ : ∃ qe ∈ es, qe.1 = p.1 := by
          clear hk this e1
          induction t with
          | nil => cases hp
          | cons a b ih =>
            rcases List.mem_cons.mp hp with rfl | hp
            · exact ⟨_, List.mem_cons_self, a.1.symm⟩
            · obtain ⟨qe, m, ee⟩ := ih hp
              exact ⟨qe, List.mem_cons_of_mem _ m, ee⟩
        rw [List.any_eq_false] at this
        have := this qe hq1
        simp [hq2, q] at this
      have e2 : vs.map (fun kv => if kv.1 = k then (kv.1, v) else kv) = vs := by
        conv => rhs; rw [← List.map_id vs]
        exact List.map_congr_left fun p hp => by rw [if_neg (no p hp)]; rfl
      rw [e2]
      exact t
    · have e1 : putK ((k, v0) :: vs) j v = (k, v0) :: putK vs j v := by
        unfold putK
        rw [List.any_cons]
        simp only [c, decide_false, Bool.false_or]
        split
        · simp [c]
        · simp
      rw [e1]
      unfold setD
      rw [if_neg c]
      exact .cons ⟨rfl, h2⟩ (put_rel r t hk.2)
section
variable {X : Cx} {z : Bz} {Wx : WX}

/-- what a dict holds: a cell, or one that never changes -/
def asDic (M : Store) : E → Option (List (Key × E))
  | .p (.dic ds) => some (ds.map fun p => (p.1, .p p.2))
  | .r k => match M[k]? with
    | some (some (.dic es)) => some es
    | _ => none
  | _ => none
theorem rvk_rek {W : Wd} : ∀ {vs : List (Key × V)} {ds : List (Key × PD)}, RVk z W.F vs ds → REk z W vs (ds.map fun p => (p.1, .p p.2))
  | _, _, .nil => .nil
  | _, _, .cons r t => .cons ⟨rfl, .p r⟩ (rvk_rek t)
theorem asDic_ok {W : Wd} {M : Store} {H : Hp} {v : V} {e : E} {es : List (Key × E)} (ok : StoreOk z W M H) (r : RE z W v e) (h : asDic M e = some es) : ∃ a vs, v = .ref a ∧ Rd H a (.dK vs) ∧ vs.length ≤ sizeLine ∧ REk z W vs es := by
  unfold asDic at h
  split at h
  · cases h
    cases r with | p r => cases r with | dic e1 l1 r1 => exact ⟨_, _, rfl, .inr ⟨_, ok.same _ _ e1⟩, l1, rvk_rek r1⟩
  · rename_i k
    split at h
    · rename_i es' hM
      cases h
      cases r with | r ha =>
      obtain ⟨b, e1, e2, vs, e3, e4, e5⟩ := ok.cell k _ hM
      rw [ha] at e1; cases e1
      exact ⟨_, _, rfl, .of e3, e4, e5⟩
    · cases h
  · cases h
def gDGet : G2 := fun d y M => match asDic M d, asKey y with
  | some es, some k => match getD es k with
    | some e => some (e, M)
    | none => none
  | _, _ => none
theorem pd_dget {fd fy : FE} {o i : Expr} {pos : Pos} (hu : X.A.units + 64 < cLine) (ho : PE X o (tE z Wx fd)) (hi : PE X i (tE z Wx fy)) (hs : NoSl i) : PE X (.Subscript o i pos) (tE z Wx (fBin gDGet fd fy)) :=
  pe_of (pe_dget (by omega) ho hi hs) fun σ H Q ⟨W, M, ρ, ok, env, r, hr, po⟩ => by
    refine seqE ok env hr po.exc fun e1 M1 W1 H1 v1 s1 q1 hr1 => ?_
    refine seqE s1.ok (env.w s1.w) hr1 (po.exc.step s1) fun e2 M2 W2 H2 v2 s2 q2 hr2 => ?_
    obtain ⟨e, M', he, rfl⟩ := lft_some hr2
    unfold gDGet at he
    split at he
    · rename_i es k h1 h2
      split at he
      · rename_i e' h3
        cases he
        obtain ⟨a, vs, rfl, q3, _, q4⟩ := asDic_ok s2.ok (s2.w.re q1) h1
        obtain ⟨v, q5, q6⟩ := (find_rel q4).2 _ h3
        exact ⟨a, v, rfl, .inl ⟨vs, k, q3, asKey_ok q2 h2, q5.symm⟩, po W2 H2 v (s1.trans s2) q6⟩
      · cases he
    · cases he
def gDIn (b : Bool) : G2 := fun y d M => match asDic M d, asKey y with
  | some es, some k => some (.p (.bl ((getD es k).isSome == b)), M)
  | _, _ => none
theorem din_split {W : Wd} {M M' : Store} {H : Hp} {v2 v1 : V} {e1 e2 e : E} {b : Bool} (ok : StoreOk z W M H) (q1 : RE z W v1 e1) (q2 : RE z W v2 e2) (h : gDIn b e1 e2 M = some (e, M')) : ∃ a o, v2 = .ref a ∧ DGet H a v1 o ∧ e = .p (.bl (o.isSome == b)) ∧ M' = M := by
  unfold gDIn at h
  split at h
  · rename_i es k h1 h2
    cases h
    obtain ⟨a, vs, rfl, q3, _, q4⟩ := asDic_ok ok q2 h1
    refine ⟨a, valV vs k, rfl, .inl ⟨vs, k, q3, asKey_ok q1 h2, rfl⟩, ?_, rfl⟩
    cases h3 : getD es k with
    | none => rw [(find_rel q4).1 h3]; rfl
    | some e' =>
      obtain ⟨v, q5, _⟩ := (find_rel q4).2 _ h3
      rw [q5]; rfl
  · cases h

def gDPut (fd fy fv : FE) : FS := fun ρ M => stx (fv ρ M) ρ fun v M1 => stx (fd ρ M1) ρ fun d M2 => stx (fy ρ M2) ρ fun y M3 => match d, asKey y with
  | .r n, some k => match M3[n]? with
    | some (some (.dic es)) => if es.length < 16777216 ∧ keysOk es = true then some (.nx ρ, M3.set n (some (.dic (setD es k v)))) else none
    | _ => none
  | _, _ => none
theorem setDic {W : Wd} {M : Store} {H : Hp} {n : Nat} {a : Addr} {es : List (Key × E)} {k : Key} {e : E} {v : V} (ok : StoreOk z W M H) (hM : M[n]? = some (some (.dic es))) (ha : W.α[n]? = some a) (hk : keysOk es = true) (hl : es.length < 16777216) (r : RE z W v e) :
    ∃ vs, H a = some (.dK vs) ∧ vs.length < sizeLine ∧ Step z W H W (M.set n (some (.dic (setD es k e)))) (upd H a (.dK (putK vs k v))) := by
  obtain ⟨b, e1, e2, vs, e3, e4, e5⟩ := ok.cell n _ hM
  rw [ha] at e1; cases e1
  have l1 : vs.length < sizeLine := by rw [sizeLine_eq, PySem.Paired.length e5]; exact hl
  refine ⟨vs, e3, l1, setC ok hM ha (fun dx q => by cases q) (fun dx q => by rw [e3] at q; cases q) ⟨_, upd_same, ?_, put_rel r e5 hk⟩⟩
  have := length_putK vs k v
  omega
theorem pd_dput {fd fy fv : FE} {o i value : Expr} {pos pos' : Pos} (hu : X.A.units + 64 < cLine) (ho : PE X o (tE z Wx fd)) (hi : PE X i (tE z Wx fy)) (hv : PE X value (tE z Wx fv)) (hs : swapsWith value (some (.Subscript o i pos')) pos.line X.env = pure false := by rfl) :
    PS X (.Assign [.Subscript o i pos'] value pos) (tS z Wx (gDPut fd fy fv)) := ps_of (ps_dput (by omega) ho hi hv hs) fun D σ H ⟨W, M, ρ, ok, env, r, hr, po⟩ =>
  stE ok env hr po fun v1 M1 W1 H1 x1 s1 q1 hr1 => stE s1.ok (env.w s1.w) hr1 (po.step s1) fun d M2 W2 H2 x2 s2 q2 hr2 => stE s2.ok ((env.w s1.w).w s2.w) hr2 ((po.step s1).step s2) fun y M3 W3 H3 x3 s3 q3 hr3 => by
    split at hr3
    · rename_i n k hk
      split at hr3
      · rename_i es hM
        split at hr3
        · rename_i hc
          cases hr3
          have q2' := s3.w.re q2
          cases q2' with | r ha =>
          obtain ⟨vs, h1, h2, st⟩ := setDic (k := k) s3.ok hM ha hc.2 hc.1 (s3.w.re (s2.w.re q1))
          exact ⟨_, _, rfl, .inl ⟨vs, k, h1, asKey_ok q3 hk, h2, rfl⟩, po _ _ σ (((s1.trans s2).trans s3).trans st) (((env.w s1.w).w s2.w).w (s3.w) |>.w st.w)⟩
        · cases hr3
      · cases hr3
    · cases hr3

abbrev FPs := Env → Store → Rs (List (Key × E))
def fpNil : FPs := fun _ M => some (.inr [], M)
def fpCons (fk fv : FE) (fr : FPs) : FPs := fun ρ M => bnd (fk ρ M) fun k M1 => bnd (fv ρ M1) fun v M2 => match asKey k with
  | some k => bnd (fr ρ M2) fun r M3 => some (.inr ((k, v) :: r), M3)
  | none => none
def mkDic : List (Key × E) → List (Key × E) := fun l => l.foldl (fun acc p => setD acc p.1 p.2) []
def distinct (l : List (Key × E)) : Bool := keysOk l && decide (l.length ≤ 15)
/-- {k: v, ..}: a cell; the keys are unlike -/
def fDict (fp : FPs) : FE := fun ρ M => bnd (fp ρ M) fun l M1 => if distinct l = true then some (.inr (.r M1.length), M1 ++ [some (.dic l)]) else none
def PostP (z : Bz) (W : Wd) (H : Hp) (r : Sum Xn (List (Key × E)) × Store) (Q : List (Key × V) → Hp → Prop) (Xq : XK) : Prop :=
  match r with
  | (.inr es, M') => ∀ W' H' vs, Step z W H W' M' H' → REk z W' vs es → Q vs H'
  | (.inl x, M') => ∀ W' H' cls d, Step z W H W' M' H' → RX z W'.F H' cls d x → Xq cls d H'
/-- the pairs of a display, judged -/
inductive PDp (X : Cx) (z : Bz) (Wx : WX) (pos : Pos) : List (Option Expr) → List Expr → FPs → List (TE × TE) → Prop
  | nil : PDp X z Wx pos [] [] fpNil []
  | cons {k v : Expr} {ks : List (Option Expr)} {vs : List Expr} {fk fv : FE} {fr : FPs} {ts : List (TE × TE)} : PE X k (tE z Wx fk) → PE X v (tE z Wx fv) → PDp X z Wx pos ks vs fr ts → PDp X z Wx pos (some k :: ks) (v :: vs) (fpCons fk fv fr) ((tE z Wx fk, tE z Wx fv) :: ts)
theorem PDp.pps {pos : Pos} {ks : List (Option Expr)} {vs : List Expr} {fp : FPs} {ts : List (TE × TE)} (h : PDp X z Wx pos ks vs fp ts) : PPs X pos ks vs ts := by
  induction h with
  | nil => exact pps_nil
  | cons h1 h2 _ ih => exact pps_cons h1 h2 ih
/-- the reading: the dict at p, still empty, stands beside -/
theorem PDp.reads {pos : Pos} {ks : List (Option Expr)} {vs : List Expr} {fp : FPs} {ts : List (TE × TE)} (h : PDp X z Wx pos ks vs fp ts) {β : Type} {p : Addr} {o : HO} (hno : ¬ OddO o) {σ : L2.St} {H : Hp} {W : Wd} {M : Store} {ρ : Env} {Q : List (V × V) → Hp → Prop} {k : List (Key × E) → Store → Rs β} {r : Sum Xn β × Store}
    (ok : StoreOk z W M H) (env : EnvOk z W ρ σ) (hp : H p = some o) (hF : W.F p = none) (hα : p ∉ W.α) (hr : bnd (fp ρ M) k = some r) (hx : ExcOk z W H r fun c d H' => Wx c d σ H')
    (hk : ∀ W' M' H' (kvs : List (Key × V)) es, Step z W H W' M' H' → H' p = some o → W'.F p = none → p ∉ W'.α → REk z W' kvs es → k es M' = some r → Q (kvs.map fun kv => (kV kv.1, kv.2)) H') : tPairs ts σ H Q := by
  induction h generalizing H W M Q k with
  | nil => exact hk W M H [] [] (.refl ok) hp hF hα .nil hr
  | @cons ke ve ks vs fk fv fr ts h1 h2 _ ih =>
    have hr : bnd (bnd (fk ρ M) fun k M1 => bnd (fv ρ M1) fun v M2 => match asKey k with
      | some k => bnd (fr ρ M2) fun r M3 => some (.inr ((k, v) :: r), M3)
      | none => none) k = some r := hr
    have assoc : ∀ {α β γ : Type} (x : Rs α) (f : α → Store → Rs β) (g : β → Store → Rs γ), bnd (bnd x f) g = bnd x fun a M => bnd (f a M) g := fun x f g => by
      match x with
      | none => rfl
      | some (.inl _, _) => rfl
      | some (.inr _, _) => rfl
    rw [assoc] at hr
    refine seqE ok env hr hx fun e1 M1 W1 H1 v1 s1 q1 hr1 => ?_
    rw [assoc] at hr1
    refine seqE s1.ok (env.w s1.w) hr1 (hx.step s1) fun e2 M2 W2 H2 v2 s2 q2 hr2 => ?_
    have b1 := s1.beside hF hα hp hno
    have b2 := s2.beside b1.1 b1.2.1 b1.2.2 hno
    split at hr2
    · rename_i kk hkk
      rw [assoc] at hr2
      refine ih s2.ok ((env.w s1.w).w s2.w) b2.2.2 b2.1 b2.2.1 hr2 ((hx.step s1).step s2) fun W' M' H' kvs es st hp' hF' hα' rr hr3 => ?_
      have := hk W' M' H' ((kk, v2) :: kvs) ((kk, e2) :: es) ((s1.trans s2).trans st) hp' hF' hα' (.cons ⟨rfl, st.w.re q2⟩ rr) hr3
      rw [List.map_cons] at this
      rw [asKey_ok q1 hkk]
      exact this
    · cases hr2
theorem merge_distinct : ∀ (l acc : List (Key × V)), (acc ++ l).map (·.1) |>.Nodup → mergeK acc l = acc ++ l
  | [], acc, _ => by simp [mergeK]
  | p :: l, acc, h => by
    show mergeK (putK acc p.1 p.2) l = _
    have e : putK acc p.1 p.2 = acc ++ [p] := by
      unfold putK
      rw [if_neg]
      intro q
      obtain ⟨x, hx, hq⟩ := List.any_eq_true.mp q
      have hq : x.1 = p.1 := by simpa using hq
      rw [List.map_append, List.map_cons] at h
      have := (List.nodup_append.mp h).2.2 x.1 (List.mem_map.mpr ⟨x, hx, rfl⟩) p.1 List.mem_cons_self
      exact this hq
    rw [e, merge_distinct l (acc ++ [p]) (by rw [List.append_assoc]; exact h), List.append_assoc]
    rfl
theorem keys_nodup : ∀ {l : List (Key × E)}, keysOk l = true → (l.map (·.1)).Nodup
  | [], _ => .nil
  | (k, v) :: r, h => by
    unfold keysOk at h
    simp only [Bool.and_eq_true, Bool.not_eq_true'] at h
    refine List.nodup_cons.mpr ⟨fun q => ?_, keys_nodup h.2⟩
    obtain ⟨x, hx, hq⟩ := List.mem_map.mp q
    have := List.any_eq_false.mp h.1 x hx
    simp [hq] at this
theorem rek_keys {W : Wd} : ∀ {vs : List (Key × V)} {es : List (Key × E)}, REk z W vs es → vs.map (·.1) = es.map (·.1)
  | _, _, .nil => rfl
  | _, _, .cons h t => by rw [List.map_cons, List.map_cons, h.1, rek_keys t]
theorem pd_dict {pos : Pos} {keys : List (Option Expr)} {values : List Expr} {fp : FPs} {ts : List (TE × TE)} (h : PDp X z Wx pos keys values fp ts) (hall : keys.all (·.isSome) = true := by rfl) (hl : keys.length = values.length := by rfl) (h0 : keys ≠ [] := by exact List.cons_ne_nil _ _) (h15 : keys.length ≤ 15 := by decide) :
    PE X (.Dict keys values pos) (tE z Wx (fDict fp)) := pe_of (pe_disp h.pps hall hl h0 h15) fun σ H Q ⟨W, M, ρ, ok, env, r, hr, po⟩ p hp => by
  have s0 := (Step.refl ok).side (o := .dK []) hp (ok.none_F hp) (ok.notin hp) (fun a q => by rw [hp] at q; cases q) ⟨fun ps q => by (rw [hp] at q; cases q), fun c q e => by (rw [hp] at e; cases e)⟩
  refine h.reads (p := p) (o := .dK []) (by rintro (⟨_, q⟩ | ⟨_, _, q⟩) <;> first | cases q | (unfold LamX.CodeO at q; cases q)) s0.ok env upd_same (ok.none_F hp) (ok.notin hp) hr (po.exc.step s0) fun W' M' H' kvs es st hp' hF' hα' rr hr1 => ?_
  split at hr1
  · rename_i hd
    cases hr1
    unfold distinct at hd
    simp only [Bool.and_eq_true, decide_eq_true_eq] at hd
    have hle : kvs.length = es.length := PySem.Paired.length rr
    refine ⟨hp', kvs, rfl, by omega, ?_⟩
    have em : mergeK [] kvs = kvs := merge_distinct kvs [] (by rw [List.nil_append, rek_keys rr]; exact keys_nodup hd.1)
    rw [em]
    have st2 := (s0.trans st).side (o := .dK kvs) hp hF' hα' (fun a q => by rw [hp'] at q; cases q) ⟨fun ps q => by (rw [hp'] at q; cases q), fun c q e => by (rw [hp'] at e; unfold LamX.CodeO at e; cases e)⟩
    have w : WExt W' ⟨W'.F, W'.α ++ [p]⟩ := ⟨.of (.refl _), [p], rfl⟩
    refine po _ _ _ (st2.adoptC (c := .dic es) hp hF' hα' (by rw [upd_same]; exact fun q => by cases q) ⟨kvs, upd_same, by rw [sizeLine_eq]; omega, w.rek rr⟩ (odd_dK upd_same)) (.r ?_)
    show (W'.α ++ [p])[M'.length]? = some p
    rw [st.ok.len, List.getElem?_append_right (Nat.le_refl _)]
    simp
  · cases hr1
/-- {} -/
def fDict0 : FE := fun _ M => some (.inr (.r M.length), M ++ [some (.dic [])])
theorem pd_dict0 {pos : Pos} : PE X (.Dict [] [] pos) (tE z Wx fDict0) := pe_of pe_dnewK fun σ H Q ⟨W, M, ρ, ok, env, r, hr, po⟩ p hp => by
  cases hr
  refine po _ _ _ (newC (c := .dic []) ok hp ⟨[], upd_same, Nat.zero_le _, .nil⟩) (.r ?_)
  show (W.α ++ [p])[M.length]? = some p
  rw [ok.len, List.getElem?_append_right (Nat.le_refl _)]
  simp

abbrev GM := E → List E → Store → Option (E × Store)
def rMD (z : Bz) (g : GM) : V → List V → Hp → VK → Prop := fun x xs H Q => ∃ W M e es, StoreOk z W M H ∧ RE z W x e ∧ REs z W xs es ∧ ∃ e' M', g e es M = some (e', M') ∧ ∀ W' H' v, Step z W H W' M' H' → RE z W' v e' → Q v H'
def isL (M : Store) (e : E) : Bool := (asLst M e).isSome
def fBM (t : Store → E → Bool) (g : GM) (fo : FE) (fa : FA) : FE := fun ρ M => bnd (fo ρ M) fun o M1 => if t M1 o = true then bnd (fa ρ M1) fun xs M2 => lft (g o xs M2) else none
theorem mtR_of {id : String} {r r' : V → List V → Hp → VK → Prop} (h : MtR X id r) (w : ∀ x xs H Q, r' x xs H Q → r x xs H Q) : MtR X id r' := fun pins s σ H x xs v us Q I rx rs q => h pins s σ H x xs v us Q I rx rs (w x xs H Q q)
theorem pd_bm {T id : String} {name : Str} {t : Store → E → Bool} {g : GM} {fo : FE} {fa : FA} {o e : Expr} {es : List Expr} {apos cpos : Pos} (pa : PlainAttrs T) (slot : Slot T name id) (hty : typeOf (.builtin id) = pure (.type "method_descriptor")) (hm : MtR X id (rMD z g))
    (ht : ∀ W M H v e, StoreOk z W M H → RE z W v e → t M e = true → tyV X.K T v H) (ho : PE X o (tE z Wx fo)) (ha : PA X (e :: es) (tA z Wx fa))
    (hbase : attributeBase o name X.env (eval o X.env) = eval o X.env := by rfl)
    (hfew : ((backTo cpos (starEach (e :: es) X.env)).all (fun x => !x.1) && (backToKw cpos (keywordEach [] X.env)).all (fun x => x.1.isSome)
      && decide ((e :: es).length + ([] : List Keyword).length + (if ([] : List Keyword).isEmpty then 0 else 1) < 30)) = true := by rfl)
    (hline : (apos.endLine == cpos.line) = true := by rfl) (hs : starEach (e :: es) X.env = (false, eval e X.env) :: starEach es X.env := by rfl) (hplain : (backTo cpos (starEach es X.env)).any (·.1) = false := by rfl) :
    PE X (.Call (.Attribute o name apos) (e :: es) [] cpos) (tE z Wx (fBM t g fo fa)) := pe_of (pe_bm pa slot hty hm ho ha hbase hfew hline hs hplain) fun σ H Q ⟨W, M, ρ, ok, env, r, hr, po⟩ => by
  refine seqE ok env hr po.exc fun e1 M1 W1 H1 v1 s1 q1 hr1 => ?_
  split at hr1
  · rename_i hc
    refine ⟨ht W1 M1 H1 v1 e1 s1.ok q1 hc, ?_⟩
    refine seqA s1.ok (env.w s1.w) hr1 (po.exc.step s1) fun e2 M2 W2 H2 v2 s2 q2 hr2 => ?_
    obtain ⟨e, M', he, rfl⟩ := lft_some hr2
    exact ⟨W2, M2, e1, e2, s2.ok, s2.w.re q1, q2, e, M', he, fun W' H' v s q => po W' H' v ((s1.trans s2).trans s) q⟩
  · cases hr1
theorem isL_ty {W : Wd} {M : Store} {H : Hp} {v : V} {e : E} (ok : StoreOk z W M H) (r : RE z W v e) (h : isL M e = true) : tyV X.K "list" v H := by
  obtain ⟨es, he⟩ := Option.isSome_iff_exists.mp h
  obtain ⟨a, vs, rfl, h1, _⟩ := asLst_ok ok r he
  exact .inl ⟨rfl, vs, .inl (.of h1)⟩
theorem setLst {W : Wd} {M : Store} {H : Hp} {n : Nat} {a : Addr} {es es' : List E} {vs' : List V} (ok : StoreOk z W M H) (hM : M[n]? = some (some (.lst es))) (ha : W.α[n]? = some a) (hl : vs'.length ≤ sizeLine) (r : REs z W vs' es') :
    ∃ vs, H a = some (.lst vs) ∧ REs z W vs es ∧ Step z W H W (M.set n (some (.lst es'))) (upd H a (.lst vs')) := by
  obtain ⟨b, e1, e2, vs, e3, e4, e5⟩ := ok.cell n _ hM
  rw [ha] at e1; cases e1
  exact ⟨vs, e3, e5, setC ok hM ha (fun dx q => by cases q) (fun dx q => by rw [e3] at q; cases q) ⟨_, upd_same, hl, r⟩⟩
theorem cellL {W : Wd} {M : Store} {H : Hp} {n : Nat} {a : Addr} {es : List E} (ok : StoreOk z W M H) (hM : M[n]? = some (some (.lst es))) (ha : W.α[n]? = some a) : ∃ vs, H a = some (.lst vs) ∧ REs z W vs es ∧ vs.length ≤ sizeLine := by
  obtain ⟨b, e1, e2, vs, e3, e4, e5⟩ := ok.cell n _ hM
  rw [ha] at e1; cases e1
  exact ⟨vs, e3, e5, e4⟩
def gApp : GM := fun o xs M => match o, xs with
  | .r n, [y] => match M[n]? with
    | some (some (.lst es)) => if es.length < 16777216 then some (.p .non, M.set n (some (.lst (es ++ [y])))) else none
    | _ => none
  | _, _ => none
theorem mt_app : MtR X "list.append" (rMD z gApp) := mtR_of mt_append fun x xs H Q ⟨W, M, e, es, ok, re, rs, e', M', hg, hq⟩ => by
  unfold gApp at hg
  split at hg
  · rename_i n y
    split at hg
    · rename_i es hM
      split at hg
      · rename_i hl
        cases hg
        cases re with | r ha =>
        cases rs with | cons r1 r2 =>
        cases r2
        obtain ⟨vs, h1, h2, h3⟩ := cellL ok hM ha
        have hl2 : vs.length < sizeLine := by rw [sizeLine_eq, res_len h2]; exact hl
        obtain ⟨vs', h4, _, st⟩ := setLst (vs' := vs ++ [_]) ok hM ha (by rw [List.length_append, List.length_singleton]; omega) (paired_app h2 (.cons r1 .nil))
        rw [h1] at h4; cases h4
        exact ⟨_, vs, _, rfl, rfl, h1, hl2, hq _ _ _ st (.p .non)⟩
      · cases hg
    · cases hg
  · cases hg
theorem pd_append {fo : FE} {fa : FA} {o e : Expr} {apos cpos : Pos} (ho : PE X o (tE z Wx fo)) (ha : PA X [e] (tA z Wx fa)) (hbase : attributeBase o "append" X.env (eval o X.env) = eval o X.env := by rfl)
    (hfew : ((backTo cpos (starEach [e] X.env)).all (fun x => !x.1) && (backToKw cpos (keywordEach [] X.env)).all (fun x => x.1.isSome)
      && decide (([e] : List Expr).length + ([] : List Keyword).length + (if ([] : List Keyword).isEmpty then 0 else 1) < 30)) = true := by rfl)
    (hline : (apos.endLine == cpos.line) = true := by rfl) (hs : starEach [e] X.env = (false, eval e X.env) :: starEach [] X.env := by rfl) (hplain : (backTo cpos (starEach [] X.env)).any (·.1) = false := by rfl) :
    PE X (.Call (.Attribute o "append" apos) [e] [] cpos) (tE z Wx (fBM isL gApp fo fa)) :=
  pd_bm PySem.F.plainAttrs_list PySem.F.slot_list_append PySem.F.type_list_append mt_app (fun _ _ _ _ _ => isL_ty) ho ha hbase hfew hline hs hplain
/-- xs.pop(0) -/
def gPop0 : GM := fun o xs M => match o, xs with
  | .r n, [.p (.int 0)] => match M[n]? with
    | some (some (.lst (e :: es))) => some (e, M.set n (some (.lst es)))
    | _ => none
  | _, _ => none
theorem mt_pop0 : MtR X "list.pop" (rMD z gPop0) := mtR_of mt_popAt fun x xs H Q ⟨W, M, e, es, ok, re, rs, e', M', hg, hq⟩ => by
  unfold gPop0 at hg
  split at hg
  · rename_i n
    split at hg
    · rename_i e0 es hM
      cases hg
      cases re with | r ha =>
      cases rs with | cons r1 r2 =>
      cases r2
      cases r1 with | p r1 =>
      cases r1
      obtain ⟨vs, h1, h2, h3⟩ := cellL ok hM ha
      cases h2 with
      | @cons v _ vs _ h2 h4 =>
        rw [List.length_cons] at h3
        obtain ⟨vs', h5, _, st⟩ := setLst (vs' := vs) ok hM ha (by omega) h4
        rw [h1] at h5; cases h5
        refine ⟨_, v :: vs, 0, 0, v, rfl, rfl, h1, by decide, by decide, ?_, rfl, hq _ _ _ st h2⟩
        unfold seqIndex?
        simp
    · cases hg
  · cases hg
theorem pd_pop0 {fo : FE} {fa : FA} {o e : Expr} {apos cpos : Pos} (ho : PE X o (tE z Wx fo)) (ha : PA X [e] (tA z Wx fa)) (hbase : attributeBase o "pop" X.env (eval o X.env) = eval o X.env := by rfl)
    (hfew : ((backTo cpos (starEach [e] X.env)).all (fun x => !x.1) && (backToKw cpos (keywordEach [] X.env)).all (fun x => x.1.isSome)
      && decide (([e] : List Expr).length + ([] : List Keyword).length + (if ([] : List Keyword).isEmpty then 0 else 1) < 30)) = true := by rfl)
    (hline : (apos.endLine == cpos.line) = true := by rfl) (hs : starEach [e] X.env = (false, eval e X.env) :: starEach [] X.env := by rfl) (hplain : (backTo cpos (starEach [] X.env)).any (·.1) = false := by rfl) :
    PE X (.Call (.Attribute o "pop" apos) [e] [] cpos) (tE z Wx (fBM isL gPop0 fo fa)) :=
  pd_bm PySem.F.plainAttrs_list PySem.F.slot_list_pop PySem.F.type_list_pop mt_pop0 (fun _ _ _ _ _ => isL_ty) ho ha hbase hfew hline hs hplain
end
end Pl

-- PL15
namespace Pl
open PySem PySem.Spec L2

section
variable {X : Cx} {pins : List (Addr × Obj)} {σ : L2.St} {H : Hp} {s : Shared} {a : Addr}
/-- what is new since the def was entered -/
structure NewAt (X : Cx) (pins : List (Addr × Obj)) (a : Addr) : Prop where
  s0 : X.s_0.heap.get? a = none
  loc : a ≠ X.env.locals
  cel : ∀ x c, X.env.cells.lookup x = some c → c ≠ a
  pin : ∀ p ∈ X.pn ++ pins, p.1 ≠ a
/-- an object that stands untracked is tracked from now on -/
theorem Inv.track {o : HO} (I : Inv X pins σ H s) (n : NewAt X pins a) (na : H a = none) (ho : ObjOk X.prog X.w (upd H a o) s.heap a o) : Inv X pins σ (upd H a o) s := by
  have up : ∀ {b : Addr} {u : HO}, H b = some u → upd H a o b = some u := fun {b u} q => by rw [upd_ne (ne_of_none q na)]; exact q
  have un : ∀ {b : Addr}, b ≠ a → H b = none → upd H a o b = none := fun {b} h q => by rw [upd_ne h]; exact q
  have hok : HOk X.prog X.w (upd H a o) s.heap := fun b u q => by
    by_cases e : b = a
    · subst e
      rw [upd_same] at q
      cases q
      exact ho
    · rw [upd_ne e] at q
      exact (I.hok b u q).stay (fun _ _ _ r => r) (fun _ r => up r) fun _ _ r => up r
  have old : ∀ b v, X.s_0.heap.get? b = some v → b ≠ a := fun b v q e => by rw [e, n.s0] at q; cases q
  have base : Un X.fs X.ex X.H_0 (upd H a o) X.s_0.heap s.heap := ⟨I.base.keep, I.base.slot, fun b v q r t => un (old b v q) (I.base.free b v q r t), I.base.there, fun b xs q => up (I.base.tups b xs q), fun b v u q => up (I.base.frzs b v u q), fun b ps q => by
    obtain ⟨more, e⟩ := I.base.tbls b ps q
    exact ⟨more, up e⟩⟩
  exact { I with base := base, free := un n.loc.symm I.free, freeC := fun x c e => un (n.cel x c e) (I.freeC x c e), pin := fun p hp => ⟨(I.pin p hp).1, un (n.pin p hp) (I.pin p hp).2.1, (I.pin p hp).2.2⟩, hok := hok }
/-- an exception's address is new -/
theorem newAt_of {B : Heap} (I : Inv X pins σ H s) (hex : X.ex = []) (hs : X.stack = X.env :: X.outer) (hf : X.env.frame = some X.env.locals) (g : ∀ b o, s.heap.get? b = some o → b ∉ frs X.stack → B.get? b = some o) (ba : B.get? a = none) (nf : a ∉ frs X.stack) : NewAt X pins a := by
  have no : ∀ o, s.heap.get? a = some o → False := fun o q => by
    have := g a o q nf
    rw [ba] at this; cases this
  have el : frs X.stack = X.env.locals :: X.fs := by rw [hs]; simp [frs, hf]
  refine ⟨?_, fun e => nf (by rw [el, e]; exact List.mem_cons_self), fun x c q e => ?_, fun p hp e => ?_⟩
  · cases q : X.s_0.heap.get? a with
    | none => rfl
    | some o =>
      obtain ⟨o', e⟩ := I.base.there a o q (by rw [hex]; simp)
      exact (no o' e).elim
  · obtain ⟨v, o, ho, _⟩ := I.cell x c q
    rw [e] at ho
    exact no o ho
  · have := (I.pin p hp).1
    rw [e] at this
    exact no _ this
end

section
variable {X : Cx} {x n y : Str} {c : Value} {i j : Nat} {body : List Stmt} {np pos pos' py pn' ps : Pos} {tb : WX → TS} {Wout : WX}
/-- what is wished of the body's exceptions -/
def wKeep (K : PySem.W.Frag) (c : Value) (i j : Nat) (Wout : WX) (D : Ends) : WX := fun cls d σ H =>
  ∃ b, PySem.W.exmOne K cls c = some b ∧ (b = true → ∀ a, H a = none → D.nx (((σ.set i (some (.ref a))).set j (some (.ref a))).set i none) (upd H a (ExK cls d a))) ∧ (b = false → Wout cls d σ H)
theorem exK_ok {P : Program} {w : World} {H : Hp} {h : Heap} {a : Addr} {cls : Value} {d : Option Addr} {oe : Obj} {vs : Array Value} (e : h.get? a = some oe) (z : Zc cls d oe) (q : oe.data = .fields vs) : ObjOk P w H h a (ExK cls d a) :=
  ⟨⟨oe, vs, e, z, q⟩, ⟨oe, e⟩, fun _ _ ⟨o, v, q, r⟩ k => ⟨o, v, k o q, r⟩⟩
theorem ps_keep (hex : X.ex = []) (hs : X.stack = X.env :: X.outer) (hf : X.env.frame = some X.env.locals) (hN : X.N.Nodup) (hi : X.N[i]? = some n) (hj : X.N[j]? = some y) (hln : X.env.kindOf n = some .local) (hly : X.env.scope.names.lookup y = some .local) (hc : Names X x c) (tk : Takes X Wout)
    (hb : ∀ (W : WX) (pn : List (Addr × Obj)) (xe : Value → Shared → Prop), Takes (X.tr pn xe) W → PassesOwn (model X.prog X.w) X.A X.env xe → PSs (X.tr pn xe) body (tb W))
    (hd1 : (n == ("__debug__" : Str)) = false := by decide) (hd2 : (n == ("__classdict__" : Str)) = false := by decide)
    (hsw : ∀ a pn, swapsWith (.Name n pn') (some (.Name y py)) ps.line (X.suite a pn).env = pure false := by intro _ _; rfl) :
    PS X (.Try body [.ExceptHandler (some (.Name x np)) (some n) [.Assign [.Name y py] (.Name n pn') ps] pos'] [] [] pos) (fun D σ H => tb (wKeep X.K c i j Wout D) D σ H) := by
  refine ⟨fun pins s σ H D I wish => ?_⟩
  have xok := I.ok
  have frames : X.A.frames = some (X.env :: X.outer) := hs ▸ xok.frames
  have nLoc : Loc X.env.scope n := .inl hln
  refine wpAny_Try_except ?_
  have run := (hb (wKeep X.K c i j Wout D) (X.pn ++ pins) (fun e t1 => wpAny (model X.prog X.w) X.A (noteFrame e X.env) (fun _ t2 => wpAny (model X.prog X.w) X.A (setFlight e none) (fun _ t3 =>
    wpAny (model X.prog X.w) X.A (handleBy e X.env [.ExceptHandler (some (.Name x np)) (some n) [.Assign [.Name y py] (.Name n pn') ps] pos']) (SP X pins D) X.xe t3) X.xe t2) X.xe t1) (fun u t0 air => ?_) PassesOwn.looking).run [] s σ H D (I.toTry _) wish
  · refine wpAny_mono run (fun f t done => ?_) fun _ _ z => z
    cases f with
    | next => obtain ⟨σ1, H1, J, q⟩ := done; exact wpAny_execs_nil ⟨σ1, H1, J.ofTry xok, q⟩
    | brk => obtain ⟨σ1, H1, J, q⟩ := done; exact ⟨σ1, H1, J.ofTry xok, q⟩
    | cont => obtain ⟨σ1, H1, J, q⟩ := done; exact ⟨σ1, H1, J.ofTry xok, q⟩
    | ret u => obtain ⟨v, σ1, H1, J, r, q⟩ := done; exact ⟨v, σ1, H1, J.ofTry xok, r, q⟩
  obtain ⟨a, G, tI, pinsI, σ1, H1, cls, d, rfl, JI, ground, upI, skyI, free, osI, bareI, b, isb, wYes, wNo⟩ := air
  have J0 : L2.Inv X pins σ1 H1 tI := JI.ofTry xok
  have sky0 : Sky G (X.env :: X.outer) a (Zc cls d) X.env.locals t0.heap := hs ▸ skyI
  show wpAny (model X.prog X.w) X.A (noteFrame (.ref a) X.env) _ _ _
  refine Sky.land Zc.steady frames hf sky0 fun hp1 held1 upA => ?_
  have J1 : L2.Inv X pins σ1 H1 { t0 with heap := hp1 } := J0.landed ground held1.1 (upI.trans upA) osI bareI
  obtain ⟨oe1, ws1, got1, kind1, fld1⟩ := held1.there
  have notFrame : a ∉ frs (X.env :: X.outer) := fun hm => by
    have ff : hp1.FunFrames G (X.env :: X.outer) := held1.2.2.1
    obtain ⟨_, o', e', bad⟩ := ff.mem hm
    rw [got1] at e'; cases e'
    exact bad _ fld1
  have nL : a ≠ X.env.locals := fun z => notFrame (List.mem_filterMap.mpr ⟨X.env, List.mem_cons_self, by rw [hf, z]⟩)
  have nF : a ∉ X.fs := fun hm => by
    obtain ⟨e, he, q⟩ := List.mem_filterMap.mp hm
    exact notFrame (List.mem_filterMap.mpr ⟨e, List.mem_cons_of_mem _ he, q⟩)
  have isNew : NewAt X pins a := newAt_of J0 hex hs hf ground held1.2.1 (by rw [hs]; exact notFrame)
  have S1 := J1.suite got1 fld1 free nL nF
  refine wpAny_handleBy_cons (codeAny_handlers_test ?_) (by intro q; cases q)
  have tyA : PySem.W.Looks (model X.prog X.w) hp1 (typeOf (.ref a)) cls := fun A Q E s k q => wpAny_typeOf_ref (k _ _ got1) (by rw [kind1.1]; exact q)
  have isA := PySem.W.exm_one (M := model X.prog X.w) (J1.kIn) tyA isb
  have clause : ∀ {Q : Value → Shared → Prop} {E : Value → Shared → Prop}, Q c { t0 with heap := hp1 } → wpAny (model X.prog X.w) (X.A.mark (some (.ref a))) (eval (.Name x np) X.env) Q E { t0 with heap := hp1 } := fun {Q E} q => by
    obtain ⟨hg, hdbg, hm | ⟨hm, hv, hnn⟩⟩ := hc
    · exact ld_glob (X := X.suite a ((a, oe1) :: (X.pn ++ pins))) S1 hg hm q hdbg
    · exact ld_blt (X := X.suite a ((a, oe1) :: (X.pn ++ pins))) S1 hg hm hv q hnn hdbg
  refine clause (isA.here ?_)
  cases b with
  | true =>
    refine codeAny_handlers_suite_as ?_
    refine HandSPX.lands_againZ held1 fun hp2 held2 upB => ?_
    have J2 : L2.Inv X pins σ1 H1 { t0 with heap := hp2 } := J0.landed ground held2.1 ((upI.trans upA).trans upB) osI bareI
    obtain ⟨oe2, ws2, got2, kind2, fld2⟩ := held2.there
    have S2 := J2.suite got2 fld2 free nL nF
    refine store_ok (X := X.suite a ((a, oe2) :: (X.pn ++ pins))) (v := .ref a) S2 hN hi nLoc rfl (fun t5 S5 => ?_) (.inr hln)
    have asg : PSs (X.suite a ((a, oe2) :: (X.pn ++ pins))) [.Assign [.Name y py] (.Name n pn') ps] (tAsg (tVar i) (gName j)) :=
      pss_one (ps_set hN hj (.inl hly) (pe_var hi (.inl hln) hd1 hd2) (hsw _ _) (.inr hly))
    have len1 : i < σ1.length := by
      have := J2.len
      rw [this]
      exact (List.getElem?_eq_some_iff.mp hi).1
    refine wpAny_mono (asg.run [] t5 _ H1 { nx := fun σ2 H2 => σ2 = (σ1.set i (some (.ref a))).set j (some (.ref a)) ∧ H2 = H1, rt := fun _ _ => False } S5 ?_) (fun f t6 done => ?_) fun _ _ z => z.elim
    · exact ⟨.ref a, List.getElem?_set_self len1, rfl, rfl⟩
    cases f with
    | brk => obtain ⟨_, _, _, q⟩ := done; exact q.elim
    | cont => obtain ⟨_, _, _, q⟩ := done; exact q.elim
    | ret u => obtain ⟨_, _, _, _, _, q⟩ := done; exact q.elim
    | next =>
      obtain ⟨σ6, H6, S6, rfl, rfl⟩ := done
      refine gone_ok (X := X.suite a ((a, oe2) :: (X.pn ++ pins))) S6 hN hi hln fun t7 S7 => ?_
      have got7 : t7.heap.get? a = some oe2 := (S7.pin (a, oe2) (List.mem_append_left _ List.mem_cons_self)).1
      have J7 : L2.Inv X pins _ H6 t7 := S7.unsuite xok
      exact ⟨_, _, Inv.track J7 isNew free (exK_ok got7 kind2 fld2), wYes rfl a free⟩
  | false =>
    show wpAny _ X.A (handleBy (.ref a) X.env []) _ _ _
    refine wpAny_handleBy_nil ?_
    obtain ⟨_, _, _, oe, vs, T, oT, ts', he, hz, hd, h1, hr⟩ := id held1
    unfold PySem.passOn
    refine wpAny_bind (wpAny_field he hd h1 ?_)
    rw [if_neg (by simp)]
    have last : wpAny (model X.prog X.w) X.A (setFlight (.ref a) X.env.frame) (fun _ t4 => wpAny (model X.prog X.w) X.A (throw (.ref a) : Sem Flow) (SP X pins D) X.xe t4) X.xe { t0 with heap := hp1 } := by
      rw [hf]
      refine HandSPX.setFlight_upZ held1 fun hp4 held4 upC => wpAny_throw (tk _ _ ?_)
      exact ⟨a, G, tI, pins, σ1, H1, cls, d, rfl, J0, ground, (upI.trans upA).trans upC, .inr (.inr (by rw [hs]; exact held4)), free, osI, bareI, wNo rfl⟩
    first
      | exact wpAny_bind (wpAny_pure (wpAny_bind last))
      | exact wpAny_bind last
end
end Pl

-- PL16
namespace Pl
open PySem PySem.Spec L2

section
variable {X : Cx} {z : Bz} {Wx : WX}
/-- what an own error class must say to be raised by X('..') -/
structure RaiseC (K : PySem.W.Frag) (C : Addr) (bmB : List Value) (B newId initId : String) : Prop where
  F : ExcBaseFacts B newId initId bmB
  q : PySem.W.excIn K C bmB newId = true
  k : PySem.W.keepIn K (.ref C) = true
  h1 : PySem.W.subIn K (.ref C) (.type "BaseException") = some true
  h2 : PySem.W.typeIn K (.ref C) = some (.type "type")
def gRaise (c : Nat) : FS := fun ρ M => some (.xn ⟨c, []⟩ ρ, M)
theorem pd_raise {c : Nat} {x m : Str} {jj : Nat} {p p2 pos pos2 : Pos} {bmB : List Value} {B newId initId : String} (F : Fits X z) (R : RaiseC X.K (z.ca c) bmB B newId initId) (hc : X.calm = true) (tk : Takes X Wx) (gC : X.mg x = some (.ref (z.ca c))) (hg : Gl X x)
    (hdb : (x == ("__debug__" : Str)) = false := by decide) : PS X (.Raise (some (.Call (.Name x p) [.Constant (.str m) jj p2] [] pos)) none pos2) (tS z Wx (gRaise c)) :=
  ps_of (ps_raise hc tk (pmk_own R.F R.q gC R.k (raises_own R.h1 R.h2) hg hdb)) fun D σ H ⟨W, M, ρ, ok, env, r, hr, po⟩ => by
    cases hr
    exact po W H σ _ _ (.refl ok) env ⟨rfl, .inl ⟨rfl, rfl⟩⟩
/-- try: g / except C as n: y = n -/
def gKeep (i j : Nat) (catch_ : Nat → Option Bool) (g : FS) : FS := fun ρ M => match g ρ M with
  | some (.xn x ρ', M') => match catch_ x.c with
    | some true => some (.nx ((ρ'.set j (some (.p (.exn x.c x.fs)))).set i none), M')
    | some false => some (.xn x ρ', M')
    | none => none
  | r => r
theorem pd_keep {x n y : Str} {c : Value} {i j : Nat} {body : List Stmt} {np pos pos' py pn' ps : Pos} {g : FS} {catch_ : Nat → Option Bool} (F : Fits X z) (hcatch : ∀ k b, catch_ k = some b → PySem.W.exmOne X.K (.ref (z.ca k)) c = some b) (hij : i ≠ j)
    (hex : X.ex = []) (hs : X.stack = X.env :: X.outer) (hf : X.env.frame = some X.env.locals) (hN : X.N.Nodup) (hi : X.N[i]? = some n) (hj : X.N[j]? = some y) (hln : X.env.kindOf n = some .local) (hly : X.env.scope.names.lookup y = some .local) (hc : Names X x c) (tk : Takes X Wx)
    (hb : ∀ (W : WX) (pn : List (Addr × Obj)) (xe : Value → Shared → Prop), Takes (X.tr pn xe) W → PassesOwn (model X.prog X.w) X.A X.env xe → PSs (X.tr pn xe) body (tS z W g))
    (hd1 : (n == ("__debug__" : Str)) = false := by decide) (hd2 : (n == ("__classdict__" : Str)) = false := by decide)
    (hsw : ∀ a pn, swapsWith (.Name n pn') (some (.Name y py)) ps.line (X.suite a pn).env = pure false := by intro _ _; rfl) :
    PS X (.Try body [.ExceptHandler (some (.Name x np)) (some n) [.Assign [.Name y py] (.Name n pn') ps] pos'] [] [] pos) (tS z Wx (gKeep i j catch_ g)) :=
  ps_of (ps_keep (tb := fun W => tS z W g) hex hs hf hN hi hj hln hly hc tk hb hd1 hd2 hsw) fun D σ H ⟨W, M, ρ, ok, env, r, hr, po⟩ => by
    show tS z _ g D σ H
    unfold gKeep at hr
    split at hr
    · rename_i x ρ' M' e1
      refine ⟨W, M, ρ, ok, env, _, e1, fun W1 H1 σ1 cls d st env1 rx => ?_⟩
      split at hr
      · rename_i hcx
        cases hr
        refine ⟨true, rx.1 ▸ hcatch _ _ hcx, fun _ a na => ?_, fun q => by cases q⟩
        have s2 := newF st.ok na (ExK cls d a) (fun ps q => by unfold ExK at q; cases q)
        have rv : RV z (upd W1.F a (ExK cls d a)) (.ref a) (.exn x.c x.fs) := by
          obtain ⟨e2, e3⟩ := rx
          subst e2
          rcases e3 with ⟨e4, e5⟩ | ⟨dd, vs, e4, e5, e6, e7⟩
          · rw [e4, e5]
            exact .exn0 upd_same
          · subst e5
            have nd : dd ≠ a := ne_of_none (st.ok.same _ _ e6) na
            exact .exn upd_same (by rw [upd_ne nd]; exact e6) e4 (e7.ext s2.w.ext)
        have e9 : (((σ1.set i (some (V.ref a))).set j (some (.ref a))).set i none) = ((σ1.set j (some (.ref a))).set i none) := by
          rw [List.set_comm (some (V.ref a)) (some (V.ref a)) hij, List.set_set]
        rw [e9]
        exact po _ _ _ (st.trans s2) (((env1.w s2.w).set (.p rv) j).unset i)
      · rename_i hcx
        cases hr
        refine ⟨false, rx.1 ▸ hcatch _ _ hcx, fun q => by (cases q), fun _ => po W1 H1 σ1 cls d st env1 rx⟩
      · cases hr
    · rename_i hn
      refine ⟨W, M, ρ, ok, env, r, hr, ?_⟩
      obtain ⟨fl, M'⟩ := r
      cases fl with
      | xn x ρ' => exact absurd hr (hn x ρ' M')
      | nx ρ1 => exact po
      | rt e => exact po
      | bk ρ1 => exact po
      | ct ρ1 => exact po
end
end Pl

-- PL17
namespace Pl
open PySem PySem.Spec L2 LamX

section
variable {z : Bz} {W : Wd} {M : Store} {H H1 : Hp}
/-- the tables grew -/
theorem stepN (ok : StoreOk z W M H) (x : ExtN H H1) (t : Tabs z.T H1) : Step z W H W M H1 := by
  have at_ : ∀ a, a ∈ W.α → ∀ o, H a = some o → H1 a = some o := fun a ha o q => x a o q fun ps e => ok.nta a ha o (.inl ⟨ps, e⟩) q
  refine ⟨.refl _, ⟨[], by simp, by simp⟩, ⟨fun a o q => x a o (ok.same a o q) fun ps e => ok.ntb a ps (e ▸ q), ok.len, ok.nd, fun a ha n => ?_, fun k c q => ?_, t, ok.ntb, fun a ha o ho q => ?_⟩, fun _ _ q => .inl q, fun a o q _ ht => x a o q ht⟩
  · cases q : H a with
    | none => exact ok.live a ha q
    | some o => rw [at_ a ha o q] at n; cases n
  · obtain ⟨a, e1, e2, e3⟩ := ok.cell k c q
    exact ⟨a, e1, e2, e3.mono ⟨.of (.refl _), [], by simp⟩ (fun o q => at_ a (List.mem_of_getElem? e1) o q) fun dx q => x dx _ q fun ps e => by cases e⟩
  · cases q2 : H a with
    | none => exact ok.live a ha q2
    | some u =>
      have := at_ a ha u q2
      rw [q] at this
      cases this
      exact ok.nta a ha o ho q2
/-- a code object is known -/
theorem addCode {c' : Addr} {q : Str} (ok : StoreOk z W M H) (h : H c' = some (CodeO c' q)) : ∃ W', Step z W H W' M H ∧ W'.F c' = some (CodeO c' q) ∧ W'.α = W.α := by
  cases e : W.F c' with
  | some o =>
    have := ok.same _ _ e
    rw [h] at this
    cases this
    exact ⟨W, .refl ok, e, rfl⟩
  | none =>
    have nα : c' ∉ W.α := fun m => ok.nta c' m _ (.inr ⟨c', q, rfl⟩) h
    have w : WExt W ⟨upd W.F c' (CodeO c' q), W.α⟩ := ⟨.of (same_upd e), [], by simp⟩
    refine ⟨⟨upd W.F c' (CodeO c' q), W.α⟩, ⟨same_upd e, ⟨[], by simp, by simp⟩, ⟨fun b u k => ?_, ok.len, ok.nd, ok.live, fun j c k => ?_, ok.tabs, fun b ps k => ?_, ok.nta⟩, fun b u k => ?_, fun _ _ k _ _ => k⟩, upd_same, rfl⟩
    · have k : upd W.F c' (CodeO c' q) b = some u := k
      by_cases eb : b = c'
      · subst eb; rw [upd_same] at k; cases k; exact h
      · rw [upd_ne eb] at k; exact ok.same b u k
    · obtain ⟨a, e1, e2, e3⟩ := ok.cell j c k
      have na : a ≠ c' := fun ea => nα (ea ▸ List.mem_of_getElem? e1)
      exact ⟨a, e1, by show upd W.F c' _ a = none; rw [upd_ne na]; exact e2, e3.mono w (fun _ q => q) fun _ q => q⟩
    · have k : upd W.F c' (CodeO c' q) b = some (.tbl ps) := k
      by_cases eb : b = c'
      · rw [eb, upd_same] at k; exact codeO_ne ps (Option.some.inj k)
      · rw [upd_ne eb] at k; exact ok.ntb b ps k
    · have k : upd W.F c' (CodeO c' q) b = some u := k
      by_cases eb : b = c'
      · subst eb; rw [upd_same] at k; cases k; exact .inr (.inr (.inr ⟨q, rfl⟩))
      · rw [upd_ne eb] at k; exact .inl k
def capE : Sum PD Nat → E
  | .inl d => .p d
  | .inr k => .r k
/-- the maker's slots that the lambda knows -/
def capEnv (n : Nat) : List Nat → List (Sum PD Nat) → Env
  | i :: ix, c :: cs => (capEnv n ix cs).set i (some (capE c))
  | _, _ => List.replicate n none
theorem EnvOk.at_ {ρ : Env} {σ : L2.St} (h : EnvOk z W ρ σ) {i : Nat} {v : V} {e : E} (hv : σ[i]? = some (some v)) (r : RE z W v e) : EnvOk z W (ρ.set i (some e)) σ := by
  refine ⟨by simp [h.1], fun j e' q => ?_⟩
  by_cases hj : i = j
  · subst hj
    by_cases hl : i < ρ.length
    · rw [List.getElem?_set_self hl] at q
      cases q
      exact ⟨v, hv, r⟩
    · rw [List.getElem?_eq_none (by simpa using hl)] at q; cases q
  · rw [List.getElem?_set_ne hj] at q
    exact h.2 j e' q
theorem capEnv_ok {σ : L2.St} {n : Nat} (hn : σ.length = n) {ix : List Nat} {cs : List (Sum PD Nat)} (h : Caps z W σ ix cs) : EnvOk z W (capEnv n ix cs) σ := by
  induction h with
  | nil =>
    refine ⟨by simp [capEnv, hn], fun j e q => ?_⟩
    have := List.mem_of_getElem? q
    unfold capEnv at this
    rw [List.mem_replicate] at this
    cases this.2
  | p h1 h2 _ ih => exact ih.at_ h1 (.p h2)
  | r h1 h2 _ ih => exact ih.at_ h1 (.r h2)
/-- what the lambda takes along -/
def capsOf (ρ : Env) : List Nat → Option (List (Sum PD Nat))
  | [] => some []
  | i :: ix => match ρ[i]?, capsOf ρ ix with
    | some (some (.p d)), some cs => some (.inl d :: cs)
    | some (some (.r k)), some cs => some (.inr k :: cs)
    | _, _ => none
theorem capsOf_ok {ρ : Env} {σ : L2.St} (h : EnvOk z W ρ σ) : ∀ {ix : List Nat} {cs : List (Sum PD Nat)}, capsOf ρ ix = some cs → Caps z W σ ix cs
  | [], cs, q => by cases q; exact .nil
  | i :: ix, cs, q => by
    unfold capsOf at q
    split at q
    · rename_i d cs h1 h2
      cases q
      obtain ⟨v, e1, e2⟩ := h.2 _ _ h1
      cases e2 with | p e2 => exact .p e1 e2 (capsOf_ok h h2)
    · rename_i k cs h1 h2
      cases q
      obtain ⟨v, e1, e2⟩ := h.2 _ _ h1
      cases e2 with | r e2 => exact .r e1 e2 (capsOf_ok h h2)
    · cases q
end
/-- x(): the lambda at slot i runs; it is the one of f, c', made over σ; n: the maker's slots, fb: its body -/
def fWork (i n : Nat) (f c' : Addr) (q : Str) (σ : L2.St) (fb : FE) : FE := fun ρ M => match ρ[i]? with
  | some (some (.fn f1 c1 q1 σ1 ix cs)) => if f1 = f ∧ c1 = c' ∧ q1 = q ∧ σ1 = σ then fb (capEnv n ix cs) M else none
  | _ => none
section
variable {X : Cx} {z : Bz} {pins : List (Addr × Obj)} {σ : L2.St} {H : Hp} {s : Shared}
/-- the context of a def called from X at s -/
abbrev calleeCx (X : Cx) (Ng : List Str) (qg : Str) (sg : Scope) (g : Addr) (cdg : Value) (s : Shared) (H : Hp) (E : XK) : Cx := cxOf (L2.CX X.prog X.w) X.prog X.w X.K X.mg X.base Ng qg sg g cdg X.A X.stack s H E
theorem pd_work {Ng : List Str} {qg : Str} {sg : Scope} {g f c' : Addr} {cdg pm ctv : Value} {params : Arguments} {body : Expr} {scope : Scope} {k i n : Nat} {a : Str} {pn : List (Addr × Obj)} {xe : Value → Shared → Prop} {Wg : WX} {Eg : XK} {fb : FE} {p1 p2 : Pos}
    (I : Inv X pins σ H s) (hσ : σ.length = n) (L : LamS X.env.scope scope) (obj : s.heap.get? f = some (PySem.W.kla_obj "<lambda>" (X.env.qual ++ "<lambda>") params body scope (cloFrom X.env.cells scope.names []) pm c' ctv)) (fresh : H f = none) (nfr : f ∉ frs X.stack)
    (binds : bindArgs (PySem.W.kla_fn "<lambda>" (X.env.qual ++ "<lambda>") params body scope (cloFrom X.env.cells scope.names []) pm (.ref c') ctv) ⟨[], []⟩ = pure [])
    (tk : Takes ((calleeCx X Ng qg sg g cdg s H Eg).tr pn xe) Wg) (room : Room (k + 1) (X.A.deeper (PyProof.Rows.envOfC qg sg s.heap.objs.size g cdg)))
    (hbody : ∀ (A : Around) (outer : List PySem.Env) (s : Shared) (H : Hp) (E : XK), Room k (A.deeper (lamEnv X scope s.heap.objs.size f c')) → PE (lamCx X A outer s H E scope f c') body (tE z (fun cls d _ H => E cls d H) fb))
    (hN : Ng[i]? = some a) (hv : Vis sg a) (hd : (a == ("__debug__" : Str)) = false := by decide) (hcd : (a == ("__classdict__" : Str)) = false := by decide) :
    PE ((calleeCx X Ng qg sg g cdg s H Eg).tr pn xe) (.Call (.Name a p1) [] [] p2) (tE z Wg (fWork i n f c' (X.env.qual ++ "<lambda>") σ fb)) := by
  refine ⟨fun pinsG sG σG HG Q IG wish => ?_⟩
  obtain ⟨WG, M, ρ, ok, env, r, hr, po⟩ := wish
  unfold fWork at hr
  split at hr
  rotate_left
  · cases hr
  rename_i f1 c1 q1 σ1 ix cs hρ
  split at hr
  rotate_left
  · cases hr
  rename_i same
  obtain ⟨rfl, rfl, rfl, rfl⟩ := same
  obtain ⟨vf, atf, isf⟩ := env.2 _ _ hρ
  cases isf with | fn known caps =>
  have told : tE z (fun cls d _ H' => Wg cls d σG H') fb σ1 HG Q := ⟨WG, M, capEnv n ix cs, ok, capEnv_ok hσ caps, r, hr, po⟩
  refine wpAny_Call_Name_kw (thn ((pe_var (pos := p1) (i := i) hN hv hd hcd).run pinsG sG σG HG (fun v H1 => v = .ref f1 ∧ H1 = HG) IG ⟨_, atf, rfl, rfl⟩) fun u s1 ⟨v, H1, I1, r1, ev, eH⟩ => ?_)
  subst ev
  subst eH
  obtain rfl : u = Value.ref f1 := r1
  have there := I1.base.keep f1 _ obj fresh nfr (fun m => nomatch (show f1 ∈ ([] : List Addr) from m))
  refine PySem.W.callWith_F0 ⟨_, _, _, _, there⟩ ?_
  have grown : Un (frs X.stack) [] H H1 s.heap s1.heap := I1.base
  obtain ⟨⟨oc, vs, t, hoc, hdc, hvc⟩, _, _⟩ := I1.hok c1 _ (ok.same _ _ known)
  have ran : codeAny (model X.prog X.w) (X.A.deeper (PyProof.Rows.envOfC qg sg s.heap.objs.size g cdg)) (.call (.ref f1) ⟨[], []⟩) (CR (L2.CX X.prog X.w) (PyProof.Rows.envOfC qg sg s.heap.objs.size g cdg :: X.stack) X.prog X.w H1 s1 Q (fun cls d H' => Wg cls d σG H')) s1 := by
    refine PySem.W.kla_callFunE room.depth there rfl L.co L.gen rfl ⟨c1, oc, vs, t, rfl, hoc, hdc, hvc⟩ ?_
    rw [binds]
    refine wpAny_pure (wpAny_newFunctionEnv (fun y hy => (L.own y hy).2) (fun y hy => absurd hy (by simp)) (fun h1 ns sb => ⟨I1.nolimit.fresh _ sb, ?_⟩) L.kind)
    show codeAny _ _ (.expr body (lamEnv X scope s1.heap.objs.size f1 c1)) _ _
    have J := lam_start2 (E := fun cls d H' => Wg cls d σG H') (f := f1) (c' := c1) (tk := s1.toks + ([] : List (Str × Value)).length) I L I1.env0 room.hd grown ns fun b o e => sb.extBut b o (Nat.ne_of_lt (Heap.lt_size e)) (Heap.get?_push_of_some _ e)
    refine PySem.W.kla_codeExpr (wpAny_mono ((hbody _ _ s1 H1 _ (room.deeper _)).run [] _ _ H1 Q J told) (fun v s' done => ?_) fun _ _ x => x)
    obtain ⟨w', H', J', rv, q⟩ := done
    exact ⟨w', H', J'.os, J'.bare, J'.base, J'.hok, rv, q⟩
  refine wpAny_call (codeAny_mono ran fun res s' done => ?_)
  cases res with
  | error e => exact tk e s' (XE.of_call I1 (fun cls d H' h => h) done)
  | ok fl =>
    cases fl with
    | ret u => exact I1.after done
    | next => exact done.elim
    | brk => exact done.elim
    | cont => exact done.elim
/-- x(lambda: body): post tells what x answers, by what the lambda does -/
def fLam (n : Nat) (ix : List Nat) (fb : FE) (post : Rs E → Rs E) : FE := fun ρ M => match capsOf ρ ix with
  | some cs => post (fb (capEnv n ix cs) M)
  | none => none
theorem pd_lamcall {Wx : WX} {x a : Str} {g c P : Addr} {k n : Nat} {pg : Arguments} {bg : List Stmt} {sg : Scope} {dV kV doc pm cdv ct oc : Value} {an od : Option Addr} {osl : Array (Option Value)} {Ng : List Str}
    {params : Arguments} {body : Expr} {scope : Scope} {fb : FE} {post : Rs E → Rs E} {ix : List Nat} {gB : Addr → Addr → L2.St → FS} {p lpos pos : Pos} (F : Fits X z) (hn : X.N.length = n) (hg : Gl X x) (hm : X.mg x = some (.ref g)) (hk : PySem.W.keepIn X.K (.ref g) = true)
    (lk : X.K.lookup g = some ⟨oc, od, .func (PySem.W.fnOf x x pg bg sg dV kV doc pm an cdv ct), osl⟩) (hcg : PySem.W.codeIn X.K cdv x = true) (hb : L2.Binds X.K (PySem.W.fnOf x x pg bg sg dV kV doc pm an cdv ct) [a] []) (Sg : FnScope Ng [a] sg) (hNg : Ng[0]? = some a) (hva : Vis sg a)
    (hcallee : ∀ (f c' : Addr) (s : Shared) (H : Hp) (σ : L2.St) (E : XK), (∀ pn xe Wg p1 p2, Takes ((calleeCx X Ng x sg g cdv s H E).tr pn xe) Wg → PE ((calleeCx X Ng x sg g cdv s H E).tr pn xe) (.Call (.Name a p1) [] [] p2) (tE z Wg (fWork 0 n f c' (X.env.qual ++ "<lambda>") σ fb))) →
      Room (k + 1) (calleeCx X Ng x sg g cdv s H E).A → ∀ Wg, Takes (calleeCx X Ng x sg g cdv s H E) Wg → PSs (calleeCx X Ng x sg g cdv s H E) bg (tS z Wg (gB f c' σ)))
    (hpost : ∀ cs M r, post (fb (capEnv n ix cs) M) = some r → ∀ f c' σ, fnOf Ng.length (gB f c' σ) [.fn f c' (X.env.qual ++ "<lambda>") σ ix cs] M = some r)
    (TB : TabB X.base X.mg c P) (hcode : X.env.code = .ref c) (hmT : (P, X.env.qual ++ "<lambda>") ∈ z.T) (hu : ∀ p ∈ z.T, p.1 = P → p.2 = X.env.qual ++ "<lambda>") (hr : Room (k + 2) X.A) (L : LamS X.env.scope scope) (hdef : defaultsOf params X.env = ([], []))
    (hbind : ∀ (q : Str) (cl : List (Str × Addr)) (pm cv ctv : Value), bindArgs (PySem.W.kla_fn "<lambda>" q params body scope cl pm cv ctv) ⟨[], []⟩ = pure [])
    (hbody : ∀ (A : Around) (outer : List PySem.Env) (s : Shared) (H : Hp) (E : XK) (f c' : Addr), Room k (A.deeper (lamEnv X scope s.heap.objs.size f c')) → PE (lamCx X A outer s H E scope f c') body (tE z (fun cls d _ H => E cls d H) fb)) (tk : Takes X Wx)
    (hdb : (x == ("__debug__" : Str)) = false := by decide) (hd : (a == ("__debug__" : Str)) = false := by decide) (hcd : (a == ("__classdict__" : Str)) = false := by decide) :
    PE X (.Call (.Name x p) [.Lambda params body scope lpos] [] pos) (tE z Wx (fLam n ix fb post)) := by
  refine ⟨fun pins s σ H Q I wish => ?_⟩
  obtain ⟨W, M, ρ, ok, env, r, hr', po⟩ := wish
  unfold fLam at hr'
  split at hr'
  rotate_left
  · cases hr'
  rename_i cs hcs
  have len : σ.length = n := I.len.trans hn
  refine wpAny_Call_Name_kw (ld_glob I hg hm ?_ hdb)
  refine PySem.W.callWith_K (h₀ := X.base) I.ok.mod.kin hk ?_ (by rfl) (by rfl)
  show wpAny _ _ (spliced ((false, eval (.Lambda params body scope lpos) X.env) :: backTo pos (starEach [] X.env))) _ _ s
  refine Calls.spliced_cons (lam_make2 I TB hcode hmT hu ok.tabs hdef (L.has I.ok) fun f c' pm' ctv H1 s' I1 eN T1 hf hfn hfr hco => ?_)
  refine Calls.spliced_nil ⟨I1.kIn, ?_⟩
  have s1 := stepN ok eN T1
  obtain ⟨W2, s2, known, _⟩ := addCode s1.ok hco
  have s12 := s1.trans s2
  have caps : Caps z W2 σ ix cs := s12.w.caps (capsOf_ok env hcs)
  have ran : codeAny (model X.prog X.w) X.A (.call (.ref g) ⟨[.ref f], []⟩) (CR (L2.CX X.prog X.w) X.stack X.prog X.w H1 s' Q (fun cls d H' => Wx cls d σ H')) s' := by
    refine run_ofS (N := Ng) (ps := [a]) (us := [.ref f]) (vs := [.ref f]) lk hcg Sg hr I1.env0 (hb s' [.ref f] I1.kIn rfl) (.cons rfl .nil) rfl fun room => ?_
    refine ⟨_, hcallee f c' s' H1 σ (fun cls d H' => Wx cls d σ H') (fun pn xe Wg p1 p2 tkg => pd_work I1 len L hf hfn hfr (hbind _ _ _ _ _) tkg room (fun A outer s H E rm => hbody A outer s H E f c' rm) hNg hva hd hcd) room _ (takes_of rfl rfl rfl rfl), ?_⟩
    have hfn' := hpost cs M r hr' f c' σ
    refine ⟨W2, M, _, s12.ok, env_start (es := [.fn f c' (X.env.qual ++ "<lambda>") σ ix cs]) (.cons (.fn known caps) .nil), ?_⟩
    unfold fnOf at hfn'
    split at hfn'
    · rename_i ρ' M' e
      cases hfn'
      exact ⟨_, e, fun W' H' σ' st _ => po W' H' .non (s12.trans st) (.p .non)⟩
    · rename_i v M' e
      cases hfn'
      exact ⟨_, e, fun W' H' v st q => po W' H' v (s12.trans st) q⟩
    · rename_i v ρ' M' e
      cases hfn'
      exact ⟨_, e, fun W' H' σ' c d st _ q => po W' H' c d (s12.trans st) q⟩
    · cases hfn'
  refine wpAny_call (codeAny_mono ran fun res s2 done => ?_)
  cases res with
  | error e => exact tk e s2 (XE.of_call I1 (fun cls d H' h => h) done)
  | ok fl =>
    cases fl with
    | ret u => exact I1.after done
    | next => exact done.elim
    | brk => exact done.elim
    | cont => exact done.elim
end
end Pl

-- PL18
namespace Pl
open PySem PySem.Spec L2

mutual
theorem RV.nk {X : Cx} {pins : List (Addr × Obj)} {σ : L2.St} {z : Bz} {F H : Hp} {s : Shared} (I : Inv X pins σ H s) (hK : z.K = X.K) (sm : Same F H) : ∀ {v : V} {d : PD} {k : NestedKey} {u : Value}, RV z F v d → nkOf d = some k → RelV v u → NestedIs s.heap k u
  | _, _, k, u, .non, h, r => by cases h; cases (show u = Value.none from r); exact .none
  | _, _, k, u, .bl b, h, r => by cases h; cases (show u = Value.bool b from r); exact .bool rfl
  | _, _, k, u, .int i, h, r => by cases h; obtain ⟨t, rfl⟩ := (show ∃ t, u = Value.int i t from r); exact .int i t
  | _, _, k, u, .str y, h, r => by cases h; obtain ⟨t, rfl⟩ := (show ∃ t, u = Value.str y t from r); exact .text y t
  | _, _, k, u, .tup (ds := ds) e l rs, h, r => by
    unfold nkOf at h
    split at h
    · rename_i ks hk
      cases h
      cases (show u = Value.ref _ from r)
      obtain ⟨its, rv, ⟨o, ho, hc, n, hd⟩, _⟩ := I.tuple (hK ▸ (Ext.of sm).sqT e)
      exact .tup ho hc hd (RVs.nk I hK sm rs hk rv)
    · cases h
  | _, _, k, u, .lst _ _ _, h, r => by cases h
  | _, _, k, u, .scr _ _ _, h, r => by cases h
  | _, _, k, u, .dic _ _ _, h, r => by cases h
  | _, _, k, u, .set _ _ _, h, r => by cases h
  | _, _, k, u, .iset _ _ _, h, r => by cases h
  | _, _, k, u, .ins _ _, h, r => by cases h
  | _, _, k, u, .exn0 _, h, r => by cases h
  | _, _, k, u, .exn _ _ _ _, h, r => by cases h
  | _, _, k, u, .ty _, h, r => by cases h
  | _, _, k, u, .cls _, h, r => by cases h
theorem RVs.nk {X : Cx} {pins : List (Addr × Obj)} {σ : L2.St} {z : Bz} {F H : Hp} {s : Shared} (I : Inv X pins σ H s) (hK : z.K = X.K) (sm : Same F H) : ∀ {vs : List V} {ds : List PD} {ks : List NestedKey} {us : List Value}, RVs z F vs ds → nksOf ds = some ks → Vals vs us → NestedAll s.heap ks us
  | _, _, ks, us, .nil, h, r => by cases h; cases r; exact .nil
  | _, _, ks, us, .cons r rs, h, ru => by
    unfold nksOf at h
    split at h
    · rename_i k ks h1 h2
      cases h
      cases ru with
      | cons q qs => exact .cons (RV.nk I hK sm r h1 q) (RVs.nk I hK sm rs h2 qs)
    · cases h
end
def getN : List (NestedKey × E) → NestedKey → Option E
  | [], _ => none
  | (k, v) :: r, j => if k = j then some v else getN r j
def setN : List (NestedKey × E) → NestedKey → E → List (NestedKey × E)
  | [], j, x => [(j, x)]
  | (k, v) :: r, j, x => if k = j then (k, x) :: r else (k, v) :: setN r j x
theorem setN_len (j : NestedKey) (x : E) : ∀ r : List (NestedKey × E), (setN r j x).length ≤ r.length + 1
  | [] => by simp [setN]
  | (k, v) :: r => by
    unfold setN
    split
    · simp
    · have := setN_len j x r
      simp; omega
section
variable {X : Cx} {z : Bz} {Wx : WX} {pins : List (Addr × Obj)} {σ : L2.St} {H : Hp} {s : Shared} {W : Wd} {M : Store}
/-- three lists that go together: what the heap says, without tokens, as data -/
def Tri3 (z : Bz) (W : Wd) (x : NestedKey × Addr × Value) (l : NestedKey × Addr × V) (e : NestedKey × E) : Prop := l.1 = x.1 ∧ l.2.1 = x.2.1 ∧ RelV l.2.2 x.2.2 ∧ NestR z W l e
inductive All3 (z : Bz) (W : Wd) : List (NestedKey × Addr × Value) → List (NestedKey × Addr × V) → List (NestedKey × E) → Prop
  | nil : All3 z W [] [] []
  | cons {x l e xs ls es} : Tri3 z W x l e → All3 z W xs ls es → All3 z W (x :: xs) (l :: ls) (e :: es)
theorem all3_of : ∀ {xs : List (NestedKey × Addr × Value)} {ls : List (NestedKey × Addr × V)} {es : List (NestedKey × E)}, Paired (fun l x => l.1 = x.1 ∧ l.2.1 = x.2.1 ∧ RelV l.2.2 x.2.2) ls xs → Paired (NestR z W) ls es → All3 z W xs ls es
  | _, _, _, .nil, q => by cases q; exact .nil
  | _, _, _, .cons h t, q => by
    cases q with
    | cons h2 t2 => exact .cons ⟨h.1, h.2.1, h.2.2, h2⟩ (all3_of t t2)
theorem all3_left : ∀ {xs : List (NestedKey × Addr × Value)} {ls : List (NestedKey × Addr × V)} {es : List (NestedKey × E)}, All3 z W xs ls es → Paired (fun l x => l.1 = x.1 ∧ l.2.1 = x.2.1 ∧ RelV l.2.2 x.2.2) ls xs ∧ Paired (NestR z W) ls es
  | _, _, _, .nil => ⟨.nil, .nil⟩
  | _, _, _, .cons h t => ⟨.cons ⟨h.1, h.2.1, h.2.2.1⟩ (all3_left t).1, .cons h.2.2.2 (all3_left t).2⟩
theorem all3_get {k : NestedKey} : ∀ {xs : List (NestedKey × Addr × Value)} {ls : List (NestedKey × Addr × V)} {es : List (NestedKey × E)}, All3 z W xs ls es → (getN es k = none → atKey xs k = none) ∧ ∀ e, getN es k = some e → ∃ b u v, atKey xs k = some (b, u) ∧ RelV v u ∧ RE z W v e
  | _, _, _, .nil => ⟨fun _ => rfl, fun e h => by cases h⟩
  | x :: xs, l :: ls, (k2, e) :: es, .cons h t => by
    obtain ⟨h1, h2, h3, h4, h5, h6⟩ := h
    have ek : x.1 = k2 := h1.symm.trans h4
    obtain ⟨i1, i2⟩ := all3_get (k := k) t
    by_cases c : k2 = k
    · have hx : atKey (x :: xs) k = some x.2 := by unfold atKey; rw [List.find?_cons, decide_eq_true (ek.trans c)]; rfl
      refine ⟨fun q => ?_, fun e' q => ?_⟩
      · unfold getN at q; rw [if_pos c] at q; cases q
      · unfold getN at q; rw [if_pos c] at q; cases q
        exact ⟨x.2.1, x.2.2, l.2.2, hx, h3, h6⟩
    · have hx : atKey (x :: xs) k = atKey xs k := by unfold atKey; rw [List.find?_cons, decide_eq_false (fun q => c (ek.symm.trans q))]
      refine ⟨fun q => ?_, fun e' q => ?_⟩
      · unfold getN at q; rw [if_neg c] at q; rw [hx]; exact i1 q
      · unfold getN at q; rw [if_neg c] at q; rw [hx]; exact i2 e' q
theorem all3_miss {k : NestedKey} {b : Addr} {v : V} {u : Value} {e : E} (r : RelV v u) (kf : KeyF z W.F k b) (re : RE z W v e) : ∀ {xs : List (NestedKey × Addr × Value)} {ls : List (NestedKey × Addr × V)} {es : List (NestedKey × E)}, All3 z W xs ls es → getN es k = none → All3 z W (xs ++ [(k, b, u)]) (ls ++ [(k, b, v)]) (setN es k e)
  | _, _, _, .nil, _ => .cons ⟨rfl, rfl, r, rfl, kf, re⟩ .nil
  | x :: xs, l :: ls, (k2, e0) :: es, .cons h t, hm => by
    unfold getN at hm
    split at hm
    · cases hm
    · rename_i c
      unfold setN
      rw [if_neg c]
      exact .cons h (all3_miss r kf re t hm)
theorem all3_put {k : NestedKey} {v : V} {u : Value} {e : E} (r : RelV v u) (re : RE z W v e) : ∀ {xs : List (NestedKey × Addr × Value)} {ls : List (NestedKey × Addr × V)} {es : List (NestedKey × E)}, All3 z W xs ls es → (xs.map (·.1)).Nodup → (getN es k).isSome = true → ∃ ls', All3 z W (xs.map (putAt k u)) ls' (setN es k e) ∧ ls'.length = ls.length
  | _, _, _, .nil, _, hm => by cases hm
  | x :: xs, l :: ls, (k2, e0) :: es, .cons h t, nd, hm => by
    obtain ⟨h1, h2, h3, h4, h5, h6⟩ := h
    have ek : x.1 = k2 := h1.symm.trans h4
    rw [List.map_cons] at nd
    obtain ⟨n1, n2⟩ := List.nodup_cons.mp nd
    by_cases c : k2 = k
    · subst c
      have e1 : (x :: xs).map (putAt k2 u) = (x.1, x.2.1, u) :: xs := by
        rw [List.map_cons]
        have e2 : xs.map (putAt k2 u) = xs := by
          conv => rhs; rw [← List.map_id xs]
          refine List.map_congr_left fun y hy => ?_
          unfold putAt
          rw [if_neg]
          · rfl
          · intro q
            exact n1 (ek.symm ▸ q ▸ List.mem_map.mpr ⟨y, hy, rfl⟩)
        rw [e2]
        unfold putAt
        rw [if_pos ek]
      rw [e1]
      unfold setN
      rw [if_pos rfl]
      exact ⟨(l.1, l.2.1, v) :: ls, .cons ⟨h1, h2, r, h4, h5, re⟩ t, rfl⟩
    · unfold getN at hm
      rw [if_neg c] at hm
      obtain ⟨ls', q1, q2⟩ := all3_put r re t n2 hm
      have e1 : (x :: xs).map (putAt k u) = x :: xs.map (putAt k u) := by
        rw [List.map_cons]
        congr 1
        unfold putAt
        rw [if_neg (fun q => c (ek.symm.trans q))]
      rw [e1]
      unfold setN
      rw [if_neg c]
      exact ⟨l :: ls', .cons ⟨h1, h2, h3, h4, h5, h6⟩ q1, by simp [q2]⟩
theorem all3_is (F : Fits X z) (I : Inv X pins σ H s) (ok : StoreOk z W M H) : ∀ {xs : List (NestedKey × Addr × Value)} {ls : List (NestedKey × Addr × V)} {es : List (NestedKey × E)}, All3 z W xs ls es → ∀ x ∈ xs, (nestedKind X.prog X.w).is s.heap x.1 x.2.1
  | _, _, _, .nil, x, hx => by cases hx
  | _, _, _, .cons h t, x, hx => by
    rcases List.mem_cons.mp hx with q | q
    · subst q
      obtain ⟨q1, q2, q3, q4, ⟨d, d1, d2, d3⟩, q6⟩ := h
      refine ⟨?_, by rw [← q1]; exact d3⟩
      rw [← q1]
      exact d1.nk I F.K ok.same d2 (by rw [q2]; rfl)
    · exact all3_is F I ok t x q
/-- what stands at the cell n -/
theorem nest_at (F : Fits X z) (I : Inv X pins σ H s) (ok : StoreOk z W M H) {n : Nat} {a : Addr} {es : List (NestedKey × E)} (hM : M[n]? = some (some (.dcN es))) (ha : W.α[n]? = some a) :
    ∃ L xs, H a = some (NestD z.prog z.w a L) ∧ L.length ≤ sizeLine ∧ All3 z W xs L es ∧ (a == sysModules) = false ∧ s.heap.DictOfH (nestedKind X.prog X.w) a xs := by
  obtain ⟨b, e1, e2, L, e3, e4, e5⟩ := ok.cell n _ hM
  rw [ha] at e1; cases e1
  obtain ⟨⟨xs, p1, p2, p3, o, es', ep, h1, h2, h3, h4⟩, _, _⟩ := I.hok a _ e3
  have A := all3_of p1 e5
  refine ⟨L, xs, e3, e4, A, p2, o, es', ep, h1, h2, h3, by rw [← F.prog, ← F.w]; exact h4, fun x hx => ?_, p3⟩
  exact all3_is F I ok A x hx

def asNk : E → Option NestedKey
  | .p (.tup ds) => match nkOf (.tup ds) with
    | some k => if k.depth ≤ 8 then some k else none
    | none => none
  | _ => none
theorem asNk_ok (F : Fits X z) (I : Inv X pins σ H s) (ok : StoreOk z W M H) {v : V} {e : E} {k : NestedKey} {u : Value} (r : RE z W v e) (h : asNk e = some k) (ru : RelV v u) : ∃ b, v = .ref b ∧ u = .ref b ∧ KeyF z W.F k b ∧ (nestedKind X.prog X.w).is s.heap k b := by
  unfold asNk at h
  split at h
  · rename_i ds
    split at h
    · rename_i k' hk
      split at h
      · rename_i hd
        cases h
        cases r with | p r =>
        have r0 := r
        cases r with | tup e1 l1 rr =>
        cases (show u = Value.ref _ from ru)
        exact ⟨_, rfl, rfl, ⟨_, r0, hk, hd⟩, r0.nk I F.K ok.same hk rfl, hd⟩
      · cases h
    · cases h
  · cases h
def atN (M : Store) : E → Option (List (NestedKey × E))
  | .r n => match M[n]? with
    | some (some (.dcN es)) => some es
    | _ => none
  | _ => none
theorem atN_ok {e : E} {es : List (NestedKey × E)} (h : atN M e = some es) : ∃ n, e = .r n ∧ M[n]? = some (some (.dcN es)) := by
  unfold atN at h
  split at h
  · rename_i n
    split at h
    · rename_i es' hM; cases h; exact ⟨n, rfl, hM⟩
    · cases h
  · cases h
def gNIn (b : Bool) : G2 := fun y d M => match atN M d, asNk y with
  | some es, some k => some (.p (.bl ((getN es k).isSome == b)), M)
  | _, _ => none
theorem isSome_key {k : NestedKey} {xs : List (NestedKey × Addr × Value)} {ls : List (NestedKey × Addr × V)} {es : List (NestedKey × E)} (A : All3 z W xs ls es) : (atKey xs k).isSome = (getN es k).isSome := by
  cases h : getN es k with
  | none => rw [(all3_get A).1 h]; rfl
  | some e => obtain ⟨b, u, v, q, _⟩ := (all3_get A).2 e h; rw [q]; rfl
theorem valueAt_key {k : NestedKey} {xs : List (NestedKey × Addr × Value)} : (valueAt (pairsH xs) k).isSome = (atKey xs k).isSome := by
  rw [valueAt_pairsH]
  cases atKey xs k <;> rfl
theorem op_nIn (F : Fits X z) (hu : X.A.units + 64 < cLine) : OpR X (compareOp .In) (r2D z (gNIn true)) := by
  intro pins s σ H x y v u Q I rx ry ⟨W, M, a, b, ok, ra, rb, e, M', hg, hq⟩
  unfold gNIn at hg
  split at hg
  · rename_i es k h1 h2
    cases hg
    obtain ⟨n, rfl, hM⟩ := atN_ok h1
    obtain ⟨kb, rfl, rfl, _, isk⟩ := asNk_ok F I ok ra h2 rx
    cases rb with | r ha =>
    cases (show u = Value.ref _ from ry)
    obtain ⟨L, xs, e3, _, A, hd, D⟩ := nest_at F I ok hM ha
    refine in_keyed (knd := nestedKind X.prog X.w) (kvs := pairsH xs) (by show X.A.in1.units + 8 < cLine; simp only [Around.in1_units]; omega) isk hd ⟨xs, D, rfl⟩ ?_
    refine ⟨.bl ((getN es k).isSome == true), H, I.tok _, ?_, hq W H _ (.refl ok) (.p (.bl _))⟩
    show _ = Value.bool _
    rw [valueAt_key, isSome_key A]
    simp
  · cases hg
theorem op_nNotIn (F : Fits X z) (hu : X.A.units + 64 < cLine) : OpR X (compareOp .NotIn) (r2D z (gNIn false)) := by
  intro pins s σ H x y v u Q I rx ry ⟨W, M, a, b, ok, ra, rb, e, M', hg, hq⟩
  unfold gNIn at hg
  split at hg
  · rename_i es k h1 h2
    cases hg
    obtain ⟨n, rfl, hM⟩ := atN_ok h1
    obtain ⟨kb, rfl, rfl, _, isk⟩ := asNk_ok F I ok ra h2 rx
    cases rb with | r ha =>
    cases (show u = Value.ref _ from ry)
    obtain ⟨L, xs, e3, _, A, hd, D⟩ := nest_at F I ok hM ha
    refine notIn_keyed (knd := nestedKind X.prog X.w) (kvs := pairsH xs) (by show X.A.in1.units + 8 < cLine; simp only [Around.in1_units]; omega) isk hd ⟨xs, D, rfl⟩ ?_
    refine ⟨.bl ((getN es k).isSome == false), H, I.tok _, ?_, hq W H _ (.refl ok) (.p (.bl _))⟩
    show _ = Value.bool _
    rw [valueAt_key, isSome_key A]
    cases (getN es k).isSome <;> rfl
  · cases hg
theorem samebut_keep {a : Addr} {h h' : Heap} (sb : Heap.SameBut a h h') : ∀ b u, b ≠ a → h.get? b = some u → h'.get? b = some u := fun b u nb q => (sb.2 b nb).trans q
/-- the cell is written -/
theorem nest_set (F : Fits X z) (I : Inv X pins σ H s) (ok : StoreOk z W M H) {n : Nat} {a b : Addr} {es : List (NestedKey × E)} {k : NestedKey} {v : V} {u : Value} {e : E} {h' : Heap} {t' : Nat} {L : List (NestedKey × Addr × V)} {xs : List (NestedKey × Addr × Value)}
    (hM : M[n]? = some (some (.dcN es))) (ha : W.α[n]? = some a) (hH : H a = some (NestD z.prog z.w a L)) (hl : L.length < sizeLine) (A : All3 z W xs L es) (hd : (a == sysModules) = false) (nd : (xs.map (·.1)).Nodup) (kf : KeyF z W.F k b) (re : RE z W v e) (ru : RelV v u)
    (D : h'.DictOfH (nestedKind X.prog X.w) a (storedH xs k b u)) (sb : Heap.SameBut a s.heap h') :
    ∃ H', Inv X pins σ H' { s with heap := h', toks := t' } ∧ Step z W H W (M.set n (some (.dcN (setN es k e)))) H' := by
  obtain ⟨ls', A', ll⟩ : ∃ ls', All3 z W (storedH xs k b u) ls' (setN es k e) ∧ ls'.length ≤ L.length + 1 := by
    cases hg : getN es k with
    | none =>
      rw [storedH_new ((all3_get A).1 hg)]
      exact ⟨_, all3_miss ru kf re A hg, by simp⟩
    | some e0 =>
      obtain ⟨b0, u0, v0, q, _, _⟩ := (all3_get A).2 e0 hg
      rw [storedH_old q]
      obtain ⟨ls', q1, q2⟩ := all3_put ru re A nd (by rw [hg]; rfl)
      exact ⟨ls', q1, by omega⟩
  obtain ⟨o, es', ep, h1, h2, h3, h4, h5, h6⟩ := D
  obtain ⟨p1, p2⟩ := all3_left A'
  have new : ObjOk X.prog X.w (upd H a (NestD z.prog z.w a ls')) h' a (NestD z.prog z.w a ls') := by
    refine ⟨⟨_, p1, hd, h6, o, es', ep, h1, h2, h3, by rw [F.prog, F.w]; exact h4⟩, ⟨o, h1⟩, fun g1 g2 ⟨ys, q1, q2, q3, o', es2, ep2, q4, q5⟩ k => ⟨ys, q1, q2, q3, o', es2, ep2, k _ q4, q5⟩⟩
  refine ⟨_, I.write (x := a) (e := a) (by rw [hH]; exact trivial) (.inl rfl) (samebut_keep sb) ⟨o, h1⟩ new, ?_⟩
  refine setC ok hM ha (fun dx q => ?_) (fun dx q => by (rw [hH] at q; cases q)) ⟨ls', upd_same, by omega, p2⟩ ?_
  · unfold NestD at q; cases q
  · rintro (⟨_, q⟩ | ⟨_, _, q⟩)
    · unfold NestD at q; cases q
    · exact nest_ne q
def putNk (ρ : Env) (v d y : E) (M3 : Store) : Option (Fl × Store) := match d, asNk y with
  | .r n, some k => match M3[n]? with
    | some (some (.dcN es)) => if es.length < 16777216 then some (.nx ρ, M3.set n (some (.dcN (setN es k v)))) else none
    | _ => none
  | _, _ => none
def gNPut (fd fy fv : FE) : FS := fun ρ M => stx (fv ρ M) ρ fun v M1 => stx (fd ρ M1) ρ fun d M2 => stx (fy ρ M2) ρ fun y M3 => putNk ρ v d y M3
theorem pd_nput {fd fy fv : FE} {o i value : Expr} {pos pos' : Pos} (F : Fits X z) (hu : X.A.units + 64 < cLine) (ho : PE X o (tE z Wx fd)) (hi : PE X i (tE z Wx fy)) (hv : PE X value (tE z Wx fv)) (hs : swapsWith value (some (.Subscript o i pos')) pos.line X.env = pure false := by rfl) :
    PS X (.Assign [.Subscript o i pos'] value pos) (tS z Wx (gNPut fd fy fv)) := by
  refine ⟨fun pins s σ H D I ⟨W, M, ρ, ok, env, r, hr, po⟩ => ?_⟩
  refine wpAny_Assign_Subscript (thn (hv.run pins s σ H (fun v H1 => ∃ M1 W1 e, Step z W H W1 M1 H1 ∧ RE z W1 v e ∧ (stx (fd ρ M1) ρ fun d M2 => stx (fy ρ M2) ρ fun y M3 => putNk ρ e d y M3) = some r) I (stE ok env hr po fun e M1 W1 H1 v s1 q1 hr1 => ⟨M1, W1, e, s1, q1, hr1⟩)) fun uv s1 ⟨v, H1, I1, rv, M1, W1, e, st1, q1, hr1⟩ => ?_) hs
  refine thn (ho.run pins s1 σ H1 (fun x H2 => ∃ M2 W2 d, Step z W1 H1 W2 M2 H2 ∧ RE z W2 x d ∧ (stx (fy ρ M2) ρ fun y M3 => putNk ρ e d y M3) = some r) I1 (stE st1.ok (env.w st1.w) hr1 (po.step st1) fun d M2 W2 H2 x s2 q2 hr2 => ⟨M2, W2, d, s2, q2, hr2⟩)) fun ux s2 ⟨x, H2, I2, rx, M2, W2, d, st2, q2, hr2⟩ => ?_
  refine thn (hi.run pins s2 σ H2 (fun y H3 => ∃ M3 W3 ey, Step z W2 H2 W3 M3 H3 ∧ RE z W3 y ey ∧ putNk ρ e d ey M3 = some r) I2 (stE st2.ok ((env.w st1.w).w st2.w) hr2 ((po.step st1).step st2) fun ey M3 W3 H3 y s3 q3 hr3 => ⟨M3, W3, ey, s3, q3, hr3⟩)) fun uy s3 ⟨y, H3, I3, ry, M3, W3, ey, st3, q3, hr3⟩ => ?_
  unfold putNk at hr3
  split at hr3
  rotate_left
  · cases hr3
  rename_i n k hk _
  split at hr3
  rotate_left
  · cases hr3
  rename_i es hM
  split at hr3
  rotate_left
  · cases hr3
  rename_i hc
  cases hr3
  have q2' := st3.w.re q2
  cases q2' with | r ha =>
  cases (show ux = Value.ref _ from rx)
  obtain ⟨L, xs, e3, hl, A, hd, DD⟩ := nest_at F I3 st3.ok hM ha
  obtain ⟨kb, rfl, rfl, kf, isk⟩ := asNk_ok F I3 st3.ok q3 hk ry
  have ll : L.length = es.length := PySem.Paired.length (all3_left A).2
  have lx : L.length = xs.length := PySem.Paired.length (all3_left A).1
  obtain ⟨_, _, _, _, _, _, _, _, nd⟩ := id DD
  have hl2 : L.length < sizeLine := by rw [sizeLine_eq]; omega
  refine wpAny_setItem_heap (knd := nestedKind X.prog X.w) (hsz := by rw [sizeLine_eq]; omega) (by show X.A.in1.units + 8 < cLine; simp only [Around.in1_units]; omega) isk DD fun h' D' sb => ?_
  obtain ⟨H', I', st⟩ := nest_set (t' := s3.toks + (nestedKind X.prog X.w).draws k) F I3 st3.ok hM ha e3 hl2 A hd nd kf (st3.w.re (st2.w.re q1)) rv D' sb
  exact ⟨σ, H', I', po _ _ σ (((st1.trans st2).trans st3).trans st) (((env.w st1.w).w st2.w).w st3.w |>.w st.w)⟩
/-- {}, to be a dict with such keys -/
def fDictN0 : FE := fun _ M => some (.inr (.r M.length), M ++ [some (.dcN [])])
theorem nest_new (F : Fits X z) (I : Inv X pins σ H s) (ok : StoreOk z W M H) : ∃ (H' : Hp) (W' : Wd), Inv X pins σ H' { s with heap := s.heap.push { cls := .type "dict", data := .dict #[] } } ∧ Step z W H W' (M ++ [some (.dcN [])]) H' ∧ W'.α[M.length]? = some s.heap.objs.size := by
  have hn : H s.heap.objs.size = none := I.hok.fresh (Nat.le_refl _)
  have new : ObjOk X.prog X.w (upd H s.heap.objs.size (NestD z.prog z.w s.heap.objs.size [])) (s.heap.push { cls := .type "dict", data := .dict #[] }) s.heap.objs.size (NestD z.prog z.w s.heap.objs.size []) := by
    refine ⟨⟨[], .nil, ?_, List.nodup_nil, _, #[], 0, Heap.get?_push_size _ rfl, ⟨rfl, rfl, rfl⟩, rfl, rfl⟩, ⟨_, Heap.get?_push_size _ rfl⟩, fun g1 g2 ⟨ys, q1, q2, q3, o', es2, ep2, q4, q5⟩ k => ⟨ys, q1, q2, q3, o', es2, ep2, k _ q4, q5⟩⟩
    exact beq_eq_false_iff_ne.mpr (Ne.symm (Nat.ne_of_lt I.big))
  refine ⟨_, ⟨W.F, W.α ++ [s.heap.objs.size]⟩, I.laid (t' := s.toks) (fun _ _ q => Heap.get?_push_of_some _ q) (Nat.le_refl _) new, newC (c := .dcN []) ok hn ⟨[], upd_same, Nat.zero_le _, .nil⟩ ?_, ?_⟩
  · rintro (⟨_, q⟩ | ⟨_, _, q⟩)
    · unfold NestD at q; cases q
    · exact nest_ne q
  · show (W.α ++ [_])[M.length]? = _
    rw [ok.len, List.getElem?_append_right (Nat.le_refl _)]
    simp
theorem pd_dictN0 {pos : Pos} (F : Fits X z) : PE X (.Dict [] [] pos) (tE z Wx fDictN0) := by
  refine ⟨fun pins s σ H Q I ⟨W, M, ρ, ok, env, r, hr, po⟩ => ?_⟩
  cases hr
  obtain ⟨H', W', I', st, at_⟩ := nest_new F I ok
  exact wpAny_Dict_empty ⟨.ref s.heap.objs.size, H', I', rfl, po W' H' _ st (.r at_)⟩
/-- {k: v}: the cell is there, empty, while key and value are made -/
def putN1 (n : Nat) (k v : E) (M : Store) : Option (E × Store) := match asNk k, M[n]? with
  | some k, some (some (.dcN [])) => some (.r n, M.set n (some (.dcN [(k, v)])))
  | _, _ => none
def fDictN1 (fk fv : FE) : FE := fun ρ M => bnd (fk ρ (M ++ [some (.dcN [])])) fun k M1 => bnd (fv ρ M1) fun v M2 => lft (putN1 M.length k v M2)
theorem pd_dictN1 {pos : Pos} {fk fv : FE} {ke ve : Expr} (F : Fits X z) (hu : X.A.units + 64 < cLine) (hk : PE X ke (tE z Wx fk)) (hv : PE X ve (tE z Wx fv)) : PE X (.Dict [some ke] [ve] pos) (tE z Wx (fDictN1 fk fv)) := by
  refine ⟨fun pins s σ H Q I ⟨W, M, ρ, ok, env, r, hr, po⟩ => ?_⟩
  obtain ⟨H0, W0', I0, st0, at0⟩ := nest_new F I ok
  rw [arm_eval_Dict, zip_pairTrees [some ke] [ve] X.env pos rfl rfl, dictDisplay_pairs (pairTrees [some ke] [ve] X.env pos) (by intro q; cases q) (by show 1 < _; decide)]
  refine wpAny_bind (wpAny_standAt (wpAny_bind (wpAny_subDictH (knd := nestedKind X.prog X.w) (by show X.A.units + 8 < cLine; omega) (by show 1 ≤ 15; decide) ?_)))
  have wish : tPairs [(tE z Wx fk, tE z Wx fv)] σ H0 fun ps H2 => ∃ W2 M2 k v kx vx, ps = [(kx, vx)] ∧ Step z W H W2 M2 H2 ∧ W2.α[M.length]? = some s.heap.objs.size ∧ RE z W2 kx k ∧ RE z W2 vx v ∧ lft (putN1 M.length k v M2) = some r := by
    refine seqE st0.ok (env.w st0.w) hr (po.exc.step st0) fun k M1 W1 H1 kx s1 q1 hr1 => ?_
    refine seqE s1.ok ((env.w st0.w).w s1.w) hr1 ((po.exc.step st0).step s1) fun v M2 W2 H2 vx s2 q2 hr2 => ?_
    exact ⟨W2, M2, k, v, kx, vx, rfl, (st0.trans s1).trans s2, s2.w.at (s1.w.at at0), s2.w.re q1, q2, hr2⟩
  refine wpAny_mono ((pps_cons hk hv pps_nil).run pins _ σ H0 _ I0 wish) (fun vs s1 done => ?_) fun _ _ x => x
  obtain ⟨ps, H2, I2, rel, W2, M2, k, v, kx, vx, rfl, st, atn, rk, rv, hf⟩ := done
  obtain ⟨e, M', hp, rfl⟩ := lft_some hf
  unfold putN1 at hp
  split at hp
  rotate_left
  · cases hp
  rename_i nk hnk hM
  cases hp
  cases rel with | cons r1 r2 =>
  cases r2
  rename_i uw
  obtain ⟨uk, uv⟩ := uw
  obtain ⟨L, xs, e3, hl, A, hd, DD⟩ := nest_at F I2 st.ok hM atn
  cases A
  obtain ⟨kb, rfl, e4, kf, isk⟩ := asNk_ok F I2 st.ok rk hnk r1.1
  have e4 : uk = .ref kb := e4
  subst e4
  refine ⟨[(nk, kb, uv)], ⟨rfl, rfl, isk, trivial⟩, DD, fun h' tk D' sb => wpAny_pure ?_⟩
  obtain ⟨H', I', st'⟩ := nest_set (t' := tk) F I2 st.ok hM atn e3 (by show 0 < sizeLine; rw [sizeLine_eq]; decide) .nil hd List.nodup_nil kf rv r1.2 D' sb
  exact ⟨.ref s.heap.objs.size, H', I', rfl, po W2 H' _ (st.trans st') (.r atn)⟩
end
end Pl

-- PL19
namespace Pl
open PySem PySem.Spec L2

section
variable {X : Cx} {z : Bz} {Wx : WX}
theorem te_cF {v : V} {d : PD} {σ : L2.St} {H : Hp} {Q : VK} (rv : ∀ F, RV z F v d) (h : tE z Wx (fC d) σ H Q) : tC v σ H Q := te_c rv h
/-- a built-in type by its name -/
theorem pd_ty {x : Str} {n : String} {pos : Pos} (hg : Gl X x) (hm : X.mg x = none) (hv : bootBuiltins x = some (.type n) := by rfl) (hn : x ≠ "__name__" := by decide) (hd : (x == ("__debug__" : Str)) = false := by decide) : PE X (.Name x pos) (tE z Wx (fC (.ty n))) :=
  pe_of (pe_bltn (v := .ty n) hg hm hv rfl hn hd) fun _ _ _ => te_c fun _ => .ty n
/-- a class by its name -/
theorem pd_cls {x : Str} {c : Nat} {pos : Pos} (hg : Gl X x) (hm : X.mg x = some (.ref (z.ca c))) (hd : (x == ("__debug__" : Str)) = false := by decide) : PE X (.Name x pos) (tE z Wx (fC (.cls c))) :=
  pe_of (pe_glob (v := .ref (z.ca c)) hg hm rfl hd) fun _ _ _ => te_c fun _ => .cls c
/-- a number of the module -/
theorem pd_gint {x : Str} {i : Int} {pos : Pos} (hg : Gl X x) (hm : ∃ t, X.mg x = some (.int i t)) (hd : (x == ("__debug__" : Str)) = false := by decide) : PE X (.Name x pos) (tE z Wx (fC (.int i))) := by
  obtain ⟨t, hm⟩ := hm
  exact pe_of (pe_glob (v := .int i) hg hm ⟨t, rfl⟩ hd) fun _ _ _ => te_c fun _ => .int i
theorem pd_gstr {x y : Str} {pos : Pos} (hg : Gl X x) (hm : ∃ t, X.mg x = some (.str y t)) (hd : (x == ("__debug__" : Str)) = false := by decide) : PE X (.Name x pos) (tE z Wx (fC (.str y))) := by
  obtain ⟨t, hm⟩ := hm
  exact pe_of (pe_glob (v := .str y) hg hm ⟨t, rfl⟩ hd) fun _ _ _ => te_c fun _ => .str y

def tPK (X : Cx) (kws : List Keyword) (z : Bz) (Wx : WX) (f : FA) : Prop := PK X kws (tA z Wx f)
theorem pk_of {kws : List Keyword} {t t' : TA} (h : PK X kws t) (w : ∀ σ H Q, t' σ H Q → t σ H Q) : PK X kws t' := ⟨fun pos pins s σ H Q I q => h.run pos pins s σ H Q I (w σ H Q q)⟩
theorem pdk_nil : PK X [] (tA z Wx fNil) := pk_of pk_nil fun _ _ _ => ta_nil
theorem pdk_cons {fa : FE} {fr : FA} {e : Expr} {nm : Option Str} {kpos : Pos} {kws : List Keyword} (ha : PE X e (tE z Wx fa)) (hr : PK X kws (tA z Wx fr)) : PK X (⟨nm, e, kpos⟩ :: kws) (tA z Wx (fCons fa fr)) := pk_of (pk_cons ha hr) fun _ _ _ => ta_cons
/-- f(k = v, ..): it raises nothing -/
def fCallK (n : Nat) (ff : FF) (fa : FA) : FE := fun ρ M => bnd (fa ρ M) fun xs M1 => if xs.length = n then match ff xs M1 with
    | some (.inr e, M2) => some (.inr e, M2)
    | _ => none
  else none
theorem pd_callK0 {k : Nat} {f : Addr} {fd : FuncData} {ps ks : List Str} {n : Nat} {ff : FF} {x : Str} {p pos : Pos} {kws : List Keyword} {fa : FA} (F : FnOk X.prog X.w X.K X.mg X.base (L2.CX X.prog X.w) k f fd ps (spD z n ff)) (hr : Room k X.A) (hg : Gl X x) (hm : X.mg x = some (.ref f)) (hk : PySem.W.keepIn X.K (.ref f) = true)
    (hb : KBinds X.K fd ps ks (fun us ws => us ++ ws) (fun vs zs => vs ++ zs)) (tk : Takes X Wx) (hkw : PK X kws (tA z Wx fa)) (hall : (backToKw pos (keywordEach kws X.env)).all (·.1.isSome) = true := by rfl) (hks : (backToKw pos (keywordEach kws X.env)).filterMap (·.1) = ks := by rfl)
    (hdb : (x == ("__debug__" : Str)) = false := by decide) (hpl : (backToKw pos (keywordEach kws X.env)).any (·.1.isNone) = false := by rfl) : PE X (.Call (.Name x p) [] kws pos) (tE z Wx (fCallK n ff fa)) := by
  refine ⟨fun pins s σ H Q I ⟨W, M, ρ, ok, env, r, hr2, po⟩ => ?_⟩
  refine wpAny_Call_Name_kw (ld_glob I hg hm ?_ hdb)
  refine PySem.W.callWith_KW0 (h₀ := X.base) I.ok.mod.kin hk hall ?_ hpl
  have wish : tA z Wx fa σ H fun vs H1 => ∃ W1 M1 es e M2, Step z W H W1 M1 H1 ∧ REs z W1 vs es ∧ es.length = n ∧ ff es M1 = some (.inr e, M2) ∧ r = (.inr e, M2) := by
    refine seqA ok env hr2 po.exc fun es M1 W1 H1 vs s1 q1 hr1 => ?_
    split at hr1
    · rename_i hl
      split at hr1
      · rename_i e M2 he
        cases hr1
        exact ⟨W1, M1, es, e, M2, s1, q1, hl, he, rfl⟩
      · cases hr1
    · cases hr1
  refine thn (hkw.run pos pins s σ H _ I wish) fun ws s2 ⟨zs, H2, I2, rz, W1, M1, es, e, M2, s1, q1, hl, he, hre⟩ => ⟨I2.kIn, ?_⟩
  rw [hks]
  subst hre
  refine run_fnk (E := fun _ _ _ => False) (us := []) (vs := []) F hr hb (passes_call tk fun _ _ _ _ z => z.elim) I2 .nil rz ?_
  exact ⟨W1, M1, es, s1.ok, q1, hl, _, he, fun W' H' v t q => po W' H' v (s1.trans t) q⟩

abbrev fcx (P : Program) (w : World) (K : PySem.W.Frag) (mg : Str → Option Value) (base : Heap) (N : List Str) (qual : Str) (sc : Scope) (f : Addr) (cdv : Value) (A : Around) (outer : List PySem.Env) (s : Shared) (H : Hp) (E : XK) : Cx := cxOf (L2.CX P w) P w K mg base N qual sc f cdv A outer s H E
theorem fn_okC {z : Bz} {mg : Str → Option Value} {base : Heap} {x qual : Str} {st : Stmt} {f : Addr} {fd : FuncData} {N ps : List Str} {k : Nat} {g : FS} (F : Fun z.K x qual st f fd) (S : FnScope N ps (defScope st))
    (hb : ∀ (cdv : Value) (A : Around) (outer : List PySem.Env) (s : Shared) (H : Hp) (E : XK) (Wx : WX), Room k (fcx z.prog z.w z.K mg base N qual (defScope st) f cdv A outer s H E).A → Takes (fcx z.prog z.w z.K mg base N qual (defScope st) f cdv A outer s H E) Wx →
      PSs (fcx z.prog z.w z.K mg base N qual (defScope st) f cdv A outer s H E) (defBody st) (tS z Wx g)) : FnOk z.prog z.w z.K mg base (L2.CX z.prog z.w) (k + 1) f fd ps (spD z ps.length (fnOf N.length g)) := by
  refine F.okX S (fun vs H Q E ⟨W, M, es, ok, rs, hl, _⟩ => (res_len rs).trans hl) fun cdv A outer s H vs Q Xq hr h => ?_
  refine ⟨_, hb cdv A outer s H Xq (fun cls d _ H => Xq cls d H) hr (takes_of rfl rfl rfl rfl), ?_⟩
  obtain ⟨W, M, es, ok, rs, hl, r, hf, po⟩ := h
  refine ⟨W, M, _, ok, env_start rs, ?_⟩
  unfold fnOf at hf
  split at hf
  · rename_i ρ M' e
    cases hf
    exact ⟨_, e, fun W' H' σ' s _ => po W' H' .non s (.p .non)⟩
  · rename_i v M' e
    cases hf
    exact ⟨_, e, fun W' H' v s q => po W' H' v s q⟩
  · rename_i v ρ M' e
    cases hf
    exact ⟨_, e, fun W' H' σ' c d s _ q => po W' H' c d s q⟩
  · cases hf
theorem v_ (i : Nat) {x : Str} {pos : Pos} (hN : X.N[i]? = some x := by rfl) (hv : Vis X.env.scope x := by first | exact Or.inl rfl | exact Or.inr (Or.inl rfl) | exact Or.inr (Or.inr rfl)) (hd : (x == ("__debug__" : Str)) = false := by decide) (hcd : (x == ("__classdict__" : Str)) = false := by decide) : PE X (.Name x pos) (tE z Wx (fVar i)) := pd_var hN hv hd hcd
end
end Pl
namespace Pl
open PySem PySem.Spec L2
/-- a def that stands in the written part -/
def DefAt (K : PySem.W.Frag) (x : Str) (st : Stmt) (f : Addr) (ps : List Str) : Prop := ∃ fd, Fun K x x st f fd ∧ Binds K fd ps []
/-- a def judged, ready to be called -/
def FnR (z : Bz) (mg : Str → Option Value) (base : Heap) (k : Nat) (f : Addr) (ps : List Str) (n : Nat) (ff : FF) : Prop :=
  ∃ fd, FnOk z.prog z.w z.K mg base (L2.CX z.prog z.w) k f fd ps (spD z n ff) ∧ PySem.W.keepIn z.K (.ref f) = true ∧ Binds z.K fd ps []
theorem fn_r {z : Bz} {mg : Str → Option Value} {base : Heap} {x : Str} {st : Stmt} {f : Addr} {N ps : List Str} {k : Nat} {g : FS} (D : DefAt z.K x st f ps) (S : FnScope N ps (defScope st))
    (hb : ∀ (cdv : Value) (A : Around) (outer : List PySem.Env) (s : Shared) (H : Hp) (E : XK) (Wx : WX), Room k (fcx z.prog z.w z.K mg base N x (defScope st) f cdv A outer s H E).A → Takes (fcx z.prog z.w z.K mg base N x (defScope st) f cdv A outer s H E) Wx →
      PSs (fcx z.prog z.w z.K mg base N x (defScope st) f cdv A outer s H E) (defBody st) (tS z Wx g)) : FnR z mg base (k + 1) f ps ps.length (fnOf N.length g) := by
  obtain ⟨fd, F, B⟩ := D
  exact ⟨fd, fn_okC F S hb, F.kp, B⟩
section
variable {X : Cx} {z : Bz} {Wx : WX}
theorem c_ {j k : Nat} {f : Addr} {ps : List Str} {n : Nat} {ff : FF} {x : Str} {p pos : Pos} {e : Expr} {es : List Expr} {fa : FA} (G : FnR z X.mg X.base j f ps n ff) (F : Fits X z) (hr : Room k X.A) (hm : X.mg x = some (.ref f)) (tk : Takes X Wx) (ha : PA X (e :: es) (tA z Wx fa))
    (hg : Gl X x := by rfl) (hjk : j ≤ k := by decide) (hdb : (x == ("__debug__" : Str)) = false := by decide) (he : starEach (e :: es) X.env = (false, eval e X.env) :: starEach es X.env := by rfl) (hpl : (backTo pos (starEach es X.env)).any (·.1) = false := by rfl) :
    PE X (.Call (.Name x p) (e :: es) [] pos) (tE z Wx (fCall n ff [] fa)) := by
  obtain ⟨fd, G1, G2, G3⟩ := G
  rw [F.prog, F.w, F.K] at G1
  rw [F.K] at G2 G3
  exact pd_call (dvs := []) (dv := []) G1 (hr.mono hjk) hg hm G2 G3 .nil (fun _ => .nil) tk ha hdb he hpl
theorem ck_ {j k : Nat} {f : Addr} {ps ks : List Str} {n : Nat} {ff : FF} {x : Str} {p pos : Pos} {kws : List Keyword} {fa : FA} (G : ∃ fd, FnOk z.prog z.w z.K X.mg X.base (L2.CX z.prog z.w) j f fd ps (spD z n ff) ∧ PySem.W.keepIn z.K (.ref f) = true ∧ KBinds z.K fd ps ks (fun us ws => us ++ ws) (fun vs zs => vs ++ zs)) (F : Fits X z) (hr : Room k X.A) (hm : X.mg x = some (.ref f)) (tk : Takes X Wx) (hkw : PK X kws (tA z Wx fa))
    (hg : Gl X x := by rfl) (hjk : j ≤ k := by decide) (hall : (backToKw pos (keywordEach kws X.env)).all (·.1.isSome) = true := by rfl) (hks : (backToKw pos (keywordEach kws X.env)).filterMap (·.1) = ks := by rfl)
    (hdb : (x == ("__debug__" : Str)) = false := by decide) (hpl : (backToKw pos (keywordEach kws X.env)).any (·.1.isNone) = false := by rfl) : PE X (.Call (.Name x p) [] kws pos) (tE z Wx (fCallK n ff fa)) := by
  obtain ⟨fd, G1, G2, G3⟩ := G
  rw [F.prog, F.w, F.K] at G1
  rw [F.K] at G2 G3
  exact pd_callK0 G1 (hr.mono hjk) hg hm G2 G3 tk hkw hall hks hdb hpl
end
end Pl
namespace Pl
open PySem PySem.Spec L2
theorem fn_okE {z : Bz} {mg : Str → Option Value} {base : Heap} {x qual : Str} {st : Stmt} {f : Addr} {oc cdv kV doc pm ct : Value} {od an : Option Addr} {osl : Array (Option Value)} {N ps : List Str} {k : Nat} {g : FS}
    (lk : z.K.lookup f = some ⟨oc, od, .func (PySem.W.fnOf x qual (defArgs st) (defBody st) (defScope st) .none kV doc pm an cdv ct), osl⟩) (hcd : PySem.W.codeIn z.K cdv qual = true) (S : FnScope N ps (defScope st))
    (hb : ∀ (A : Around) (outer : List PySem.Env) (s : Shared) (H : Hp) (E : XK) (Wx : WX), Room k (fcx z.prog z.w z.K mg base N qual (defScope st) f cdv A outer s H E).A → Takes (fcx z.prog z.w z.K mg base N qual (defScope st) f cdv A outer s H E) Wx →
      PSs (fcx z.prog z.w z.K mg base N qual (defScope st) f cdv A outer s H E) (defBody st) (tS z Wx g)) : FnOk z.prog z.w z.K mg base (L2.CX z.prog z.w) (k + 1) f (PySem.W.fnOf x qual (defArgs st) (defBody st) (defScope st) .none kV doc pm an cdv ct) ps (spD z ps.length (fnOf N.length g)) := by
  refine fn_of lk hcd S (fun vs H Q E ⟨W, M, es, ok, rs, hl, _⟩ => (res_len rs).trans hl) fun A outer s H vs Q Xq hr h => ?_
  refine ⟨_, hb A outer s H Xq (fun cls d _ H => Xq cls d H) hr (takes_of rfl rfl rfl rfl), ?_⟩
  obtain ⟨W, M, es, ok, rs, hl, r, hf, po⟩ := h
  refine ⟨W, M, _, ok, env_start rs, ?_⟩
  unfold fnOf at hf
  split at hf
  · rename_i ρ M' e
    cases hf
    exact ⟨_, e, fun W' H' σ' s _ => po W' H' .non s (.p .non)⟩
  · rename_i v M' e
    cases hf
    exact ⟨_, e, fun W' H' v s q => po W' H' v s q⟩
  · rename_i v ρ M' e
    cases hf
    exact ⟨_, e, fun W' H' σ' c d s _ q => po W' H' c d s q⟩
  · cases hf
/-- how the law begins: the script and the tables -/
theorem start_ok {z : Bz} {H : Hp} (hT : ∀ p ∈ z.T, H p.1 = some (.tbl #[])) : StoreOk z ⟨fun b => match H b with
    | some (.tbl _) => none
    | o => o, []⟩ [] H := by
  refine ⟨fun b u q => ?_, rfl, List.nodup_nil, fun a ha => absurd ha (by simp), fun k c q => by simp at q, fun p hp => LamX.TabS.nil (hT p hp), fun a ps q => ?_, fun a ha => absurd ha (by simp)⟩
  · have q : (match H b with | some (.tbl _) => none | o => o) = some u := q
    split at q
    · cases q
    · exact q
  · have q : (match H a with | some (.tbl _) => none | o => o) = some (.tbl ps) := q
    split at q
    · cases q
    · rename_i h; exact h ps q
theorem rvs_ints {z : Bz} {F : Hp} : ∀ ns : List Int, RVs z F (ns.map V.int) (ns.map PD.int)
  | [] => .nil
  | n :: ns => .cons (.int n) (rvs_ints ns)
theorem sql_start {K : PySem.W.Frag} {H : Hp} {a : Addr} {xs : List V} (h : SqL K H a xs) : SqL K (fun b => match H b with
    | some (.tbl _) => none
    | o => o) a xs := by
  rcases h with (h | ⟨o, h⟩) | h
  · exact .inl (.inl (by simp only [h]))
  · exact .inl (.inr ⟨o, by simp only [h]⟩)
  · exact .inr h
/-- the law's promise -/
theorem law_sp {z : Bz} {ff : FF} {n : Nat} (law : ∀ ns : List Int, ns.length ≤ n → (∀ i ∈ ns, Builtin.Int.intBits i ≤ 1048576) → ∃ M', ff [.p (.scr (ns.map .int))] [] = some (.inr (.p (.bl true)), M')) (hn : n ≤ sizeLine) {H : Hp} {a : Addr} {ns : List Int} (hl : ns.length ≤ n) (hb : ∀ i ∈ ns, Builtin.Int.intBits i ≤ 1048576)
    (hT : ∀ p ∈ z.T, H p.1 = some (.tbl #[])) (hS : SqL z.K H a (ns.map V.int)) : spD z 1 ff [.ref a] H (fun v _ => v = .bl true) fun _ _ _ => False := by
  obtain ⟨M', e⟩ := law ns hl hb
  refine ⟨_, [], [.p (.scr (ns.map .int))], start_ok hT, .cons (.p (.scr (sql_start hS) (by rw [List.length_map]; omega) (rvs_ints ns))) .nil, rfl, _, e, fun W' H' v s r => re_bl r⟩
end Pl

-- Fk16
namespace K16
open PySem L2 Pl
def raisable : List Nat := [10]
def ownSub (i j : Nat) : Option Bool := if i = 10 ∧ j < 17 then some (j == 10 || j == 0) else none
def errSub (i : Nat) (t : String) : Option Bool := if i = 10 ∧ t = "ValueError" then some true else none
def bltSub : List (String × String × Bool) := [("int", "int", true), ("bool", "int", true), ("NoneType", "int", false), ("str", "int", false), ("list", "int", false), ("tuple", "int", false), ("dict", "int", false), ("int", "bool", false), ("bool", "bool", true), ("NoneType", "bool", false)]
def ct : CT := ⟨fun _ => false, fun c => c == 10, fun t u => match t, u with
  | .b s, .b t => (bltSub.find? fun p => p.1 == s && p.2.1 == t).map (·.2.2)
  | .c i, .c j => ownSub i j
  | .c i, .b t => errSub i t
  | _, _ => none⟩
def catchNN (c : Nat) : Option Bool := if c = 10 then some true else none
def postNN : Rs E → Rs E := fun r => match r with
  | some (.inl ⟨10, []⟩, M') => some (.inr (.p (.bl true)), M')
  | _ => none
def N_is_whole : List Str := ["thing", "least", "most"]
def B_is_whole : FS := gRet (fAndV (fCallB (gIsi ct) (fCons (fVar 0) (fCons (fC (.ty "int")) (fNil)))) (fAndV (fNotV (fCallB (gIsi ct) (fCons (fVar 0) (fCons (fC (.ty "bool")) (fNil))))) (fChain gLe gLe (fVar 1) (fVar 0) (fVar 2))))
def F_is_whole : FF := fnOf 3 B_is_whole
def N_told_rounds : List Str := ["many", "half", "found", "step", "pairs", "j", "one", "other"]
def B_told_rounds : FS := gSeq (gIf (fOrT (fNotT (fTst (fCall 3 F_is_whole [] (fCons (fVar 0) (fCons (fC (.int 2)) (fCons (fC (.int 64)) (fNil))))))) (fTst (fBin gEq (fBin (gI2 iMod) (fVar 0) (fC (.int 2))) (fC (.int 1))))) (gRaise 10) (gNext)) (gSeq (gSet 1 (fBin (gI2 iFdiv) (fVar 0) (fC (.int 2)))) (gSeq (gSet 2 (fLst true (fNil))) (gSeq (gSet 3 (fC (.int 1))) (gSeq (gWhile (fun _ _ => 100) (fTst (fBin gLt (fVar 3) (fVar 0))) (gSeq (gSet 4 (fComp false ([5] : List Nat) (fItA rngIt1 (fCons (fVar 1) (fNil))) (gtName 5) (fYes) (fTup (fCons (fBin (gMul false) (fC (.int 2)) (fVar 5)) (fCons (fBin (gAdd false) (fBin (gMul false) (fC (.int 2)) (fBin (gI2 iMod) (fBin (gI2 iSub) (fBin (gAdd false) (fVar 5) (fVar 3)) (fC (.int 1))) (fVar 1))) (fC (.int 1))) (fNil)))))) (gSeq (gDrop (fBM isL gApp (fVar 2) (fCons (fCallB (gSorted false) (fCons (fComp false ([6, 7] : List Nat) (fSeqIt (fVar 4)) (gtTup 2 (gtCons (gtName 6) (gtCons (gtName 7) (gtNil)))) (fYes) (fTup (fCons (fCallB gMin2 (fCons (fVar 6) (fCons (fVar 7) (fNil)))) (fCons (fCallB gMax2 (fCons (fVar 6) (fCons (fVar 7) (fNil)))) (fNil))))) (fNil))) (fNil)))) (gSet 3 (fBin (gMul false) (fC (.int 2)) (fVar 3)))))) (gRet (fVar 2))))))
def F_told_rounds : FF := fnOf 8 B_told_rounds
def N_fewest_calls : List Str := ["many"]
def B_fewest_calls : FS := gSeq (gIf (fNotT (fTst (fCall 3 F_is_whole [] (fCons (fVar 0) (fCons (fC (.int 1)) (fCons (fC (.int 64)) (fNil))))))) (gRaise 10) (gNext)) (gSeq (gIf (fTst (fBin gEq (fVar 0) (fC (.int 1)))) (gRet (fC (.int 0))) (gNext)) (gSeq (gIf (fTst (fBin gEq (fBin (gI2 iMod) (fVar 0) (fC (.int 2))) (fC (.int 1)))) (gRet (fC .non)) (gNext)) (gRet (fBin (gMul false) (fBin (gI2 iFdiv) (fVar 0) (fC (.int 2))) (fCallB gLen (fCons (fCall 1 F_told_rounds [] (fCons (fVar 0) (fNil))) (fNil)))))))
def F_fewest_calls : FF := fnOf 1 B_fewest_calls
def N__law_begun : List Str := ["script", "cells", "cell"]
def B__law_begun : FS := gSeq (gSet 1 (fComp false ([2] : List Nat) (fSeqIt (fVar 0)) (gtName 2) (fYes) (fCallB gAbs (fCons (fVar 2) (fNil))))) (gRet (fDict (fpCons (fC (.str (PySem.Str.ofString "great"))) (fComp true ([2] : List Nat) (fSeqIt (fVar 1)) (gtName 2) (fTst (fBin gGe (fVar 2) (fBin (gI2 iPow) (fC (.int 10)) (fC (.int 18))))) (fVar 2)) (fpCons (fC (.str (PySem.Str.ofString "cells"))) (fVar 1) (fpCons (fC (.str (PySem.Str.ofString "rest"))) (fC (.int 0)) (fpCons (fC (.str (PySem.Str.ofString "turn"))) (fC (.int 0)) (fpCons (fC (.str (PySem.Str.ofString "more"))) (fC (.int 7)) (fpNil))))))))
def F__law_begun : FF := fnOf 3 B__law_begun
def N__law_take : List Str := ["draw", "size", "cell", "mixed", "found"]
def B__law_take : FS := gSeq (gWhile (fun _ _ => 100) (fAndT (fTst (fBin gEq (fBin gDGet (fVar 0) (fC (.str (PySem.Str.ofString "rest")))) (fC (.int 0)))) (fTst (fBin gNe (fBin gDGet (fVar 0) (fC (.str (PySem.Str.ofString "great")))) (fLst false (fNil))))) (gDPut (fVar 0) (fC (.str (PySem.Str.ofString "rest"))) (fBM isL gPop0 (fBin gDGet (fVar 0) (fC (.str (PySem.Str.ofString "great")))) (fCons (fC (.int 0)) (fNil))))) (gSeq (gIf (fTst (fBin gGt (fBin gDGet (fVar 0) (fC (.str (PySem.Str.ofString "rest")))) (fC (.int 0)))) (gSeq (gSet 4 (fBin (gI2 iMod) (fBin gDGet (fVar 0) (fC (.str (PySem.Str.ofString "rest")))) (fVar 1))) (gSeq (gDPut (fVar 0) (fC (.str (PySem.Str.ofString "rest"))) (fBin (gI2 iFdiv) (fBin gDGet (fVar 0) (fC (.str (PySem.Str.ofString "rest")))) (fVar 1))) (gRet (fVar 4)))) (gNext)) (gSeq (gSet 2 (fC (.int 0))) (gSeq (gIf (fTst (fBin gNe (fBin gDGet (fVar 0) (fC (.str (PySem.Str.ofString "cells")))) (fLst false (fNil)))) (gSet 2 (fBin gIx (fBin gDGet (fVar 0) (fC (.str (PySem.Str.ofString "cells")))) (fBin (gI2 iMod) (fBin gDGet (fVar 0) (fC (.str (PySem.Str.ofString "turn")))) (fCallB gLen (fCons (fBin gDGet (fVar 0) (fC (.str (PySem.Str.ofString "cells")))) (fNil)))))) (gNext)) (gSeq (gDPut (fVar 0) (fC (.str (PySem.Str.ofString "turn"))) (fBin (gAdd false) (fBin gDGet (fVar 0) (fC (.str (PySem.Str.ofString "turn")))) (fC (.int 1)))) (gSeq (gDPut (fVar 0) (fC (.str (PySem.Str.ofString "more"))) (fBin (gI2 iMod) (fBin (gAdd false) (fBin (gAdd false) (fBin (gMul false) (fBin gDGet (fVar 0) (fC (.str (PySem.Str.ofString "more")))) (fC (.int 48271))) (fVar 2)) (fBin (gMul false) (fC (.int 7919)) (fBin gDGet (fVar 0) (fC (.str (PySem.Str.ofString "turn")))))) (fC (.int 2147483647)))) (gSeq (gSet 3 (fBin (gI2 iMod) (fBin (gAdd false) (fBin (gAdd false) (fBin (gMul false) (fBin gDGet (fVar 0) (fC (.str (PySem.Str.ofString "more")))) (fBin gDGet (fVar 0) (fC (.str (PySem.Str.ofString "more"))))) (fBin (gMul false) (fC (.int 16807)) (fBin gDGet (fVar 0) (fC (.str (PySem.Str.ofString "more")))))) (fC (.int 11))) (fC (.int 2147483629)))) (gRet (fBin (gI2 iMod) (fBin (gI2 iFdiv) (fBin (gI2 iMod) (fBin (gMul false) (fVar 3) (fVar 3)) (fC (.int 2147483587))) (fC (.int 7))) (fVar 1)))))))))
def F__law_take : FF := fnOf 5 B__law_take
def N__law_pick : List Str := ["draw", "some"]
def B__law_pick : FS := gRet (fBin gIx (fVar 1) (fCall 2 F__law_take [] (fCons (fVar 0) (fCons (fCallB gLen (fCons (fVar 1) (fNil))) (fNil)))))
def F__law_pick : FF := fnOf 2 B__law_pick
def N__law_due : List Str := ["amount", "doublings", "size"]
def B__law_due : FS := gSeq (gAsgT (fTup (fCons (fC (.int 0)) (fCons (fC (.int 1)) (fNil)))) (gtTup 2 (gtCons (gtName 1) (gtCons (gtName 2) (gtNil))))) (gSeq (gWhile (fun _ _ => 100) (fTst (fBin gLt (fVar 2) (fVar 0))) (gPar 1 2 (fCons (fBin (gAdd false) (fVar 1) (fC (.int 1))) (fCons (fBin (gMul false) (fC (.int 2)) (fVar 2)) (fNil))))) (gSeq (gIf (fAndT (fTst (fBin gGt (fVar 0) (fC (.int 1)))) (fTst (fBin gEq (fBin (gI2 iMod) (fVar 0) (fC (.int 2))) (fC (.int 1))))) (gRet (fC .non)) (gNext)) (gRet (fBin (gMul false) (fBin (gI2 iFdiv) (fVar 0) (fC (.int 2))) (fVar 1)))))
def F__law_due : FF := fnOf 3 B__law_due
def N__law_later : List Str := ["stand", "found", "one", "other", "both", "k"]
def B__law_later : FS := gSeq (gSet 1 (fLst true (fNil))) (gSeq (gFor (fItA rngIt1 (fCons (fCallB gLen (fCons (fVar 0) (fNil))) (fNil))) (gtName 2) (gFor (fItA rngIt2 (fCons (fBin (gAdd false) (fVar 2) (fC (.int 1))) (fCons (fCallB gLen (fCons (fVar 0) (fNil))) (fNil)))) (gtName 3) (gIf (fAndT (fTst (fBin gEq (fCallB gLen (fCons (fBin gIx (fVar 0) (fVar 2)) (fNil))) (fCallB gLen (fCons (fBin gIx (fVar 0) (fVar 3)) (fNil))))) (fTst (fBin gNe (fBin gIx (fVar 0) (fVar 2)) (fBin gIx (fVar 0) (fVar 3))))) (gSeq (gSet 4 (fCallB gTupOf (fCons (fCallB (gSortI false) (fCons (fCallB gSetT (fCons (fBin (gAdd false) (fBin gIx (fVar 0) (fVar 2)) (fBin gIx (fVar 0) (fVar 3))) (fNil))) (fNil))) (fNil)))) (gDrop (fBM isL gApp (fVar 1) (fCons (fCallB gTupOf (fCons (fComp false ([5] : List Nat) (fItA rngIt1 (fCons (fCallB gLen (fCons (fVar 0) (fNil))) (fNil))) (gtName 5) (fYes) (fIfE (fTst (fBin gIn (fVar 5) (fTup (fCons (fVar 2) (fCons (fVar 3) (fNil)))))) (fVar 4) (fBin gIx (fVar 0) (fVar 5)))) (fNil))) (fNil))))) (gNext)))) (gRet (fVar 1)))
def F__law_later : FF := fnOf 6 B__law_later
def N__law_tried : List Str := ["amount", "whole", "seen", "line", "calls", "later", "stand", "there", "k"]
def B__law_tried : FS := gSeq (gSet 1 (fCallB gTupOf (fCons (fComp false ([8] : List Nat) (fItA rngIt1 (fCons (fVar 0) (fNil))) (gtName 8) (fYes) (fTupRg (fVar 0))) (fNil)))) (gSeq (gPar 3 4 (fCons (fLst false (fCons (fCallB gTupOf (fCons (fComp false ([8] : List Nat) (fItA rngIt1 (fCons (fVar 0) (fNil))) (gtName 8) (fYes) (fTup (fCons (fVar 8) (fNil)))) (fNil))) (fNil))) (fCons (fC (.int 0)) (fNil)))) (gSeq (gIf (fTst (fBin gGt (fVar 0) (fC (.int 1)))) (gPar 3 4 (fCons (fSlice (gSl false) (fCall 1 F__law_later [] (fCons (fBin gIx (fVar 3) (fC (.int 0))) (fNil))) (fNo) (fPart (fC (.int 1)))) (fCons (fC (.int 1)) (fNil)))) (gNext)) (gSeq (gSet 2 (fDictN1 (fBin gIx (fVar 3) (fC (.int 0))) (fC (.bl true)))) (gSeq (gWhile (fun _ _ => 100) (fTst (fBin gNe (fVar 3) (fLst false (fNil)))) (gSeq (gIf (fTst (fBin gIn (fVar 1) (fVar 3))) (gRet (fVar 4)) (gNext)) (gSeq (gSet 5 (fLst true (fNil))) (gSeq (gFor (fSeqIt (fVar 3)) (gtName 6) (gFor (fSeqIt (fCall 1 F__law_later [] (fCons (fVar 6) (fNil)))) (gtName 7) (gIf (fTst (fBin (gNIn false) (fVar 7) (fVar 2))) (gSeq (gNPut (fVar 2) (fVar 7) (fC (.bl true))) (gDrop (fBM isL gApp (fVar 5) (fCons (fVar 7) (fNil))))) (gNext)))) (gPar 3 4 (fCons (fVar 5) (fCons (fBin (gAdd false) (fVar 4) (fC (.int 1))) (fNil)))))))) (gRet (fC .non))))))
def F__law_tried : FF := fnOf 9 B__law_tried
def N__law_no_number : List Str := ["work", "found", "e"]
def GB (n : Nat) (q : Str) (fb : FE) (f c' : Addr) (σ : L2.St) : FS := gSeq (gSet 1 (fC .non)) (gSeq (gKeep 2 1 catchNN (gDrop (fWork 0 n f c' q σ fb))) (gSeq (gIf (fOrT (fTst (fBin gIsN (fVar 1) (fC .non))) (fOrT (fNotT (fTst (fCallB (gIsi ct) (fCons (fVar 1) (fCons (fC (.cls 10)) (fNil)))))) (fNotT (fTst (fCallB (gIsi ct) (fCons (fVar 1) (fCons (fC (.ty "ValueError")) (fNil)))))))) (gRet (fC (.bl false))) (gNext)) (gSeq (gIf (fTst (fCallB (gIsi ct) (fCons (fVar 1) (fCons (fTup (fCons (fC (.cls 1)) (fCons (fC (.cls 2)) (fCons (fC (.cls 4)) (fCons (fC (.cls 3)) (fCons (fC (.cls 5)) (fCons (fC (.cls 6)) (fCons (fC (.cls 7)) (fCons (fC (.cls 8)) (fCons (fC (.cls 9)) (fNil))))))))))) (fNil))))) (gRet (fC (.bl false))) (gNext)) (gRet (fNotV (fCallB (gIsi ct) (fCons (fVar 1) (fCons (fTup (fCons (fC (.cls 11)) (fCons (fC (.cls 12)) (fCons (fC (.cls 14)) (fCons (fC (.cls 16)) (fCons (fC (.cls 13)) (fCons (fC (.cls 15)) (fNil)))))))) (fNil)))))))))
def N_law : List Str := ["script", "draw", "turn", "few", "amount", "odd", "none", "found", "due"]
def B_law : FS := gSeq (gSet 1 (fCall 1 F__law_begun [] (fCons (fVar 0) (fNil)))) (gSeq (gFor (fItA rngIt1 (fCons (fCallB gMax2 (fCons (fC (.int 1)) (fCons (fCallB gMin2 (fCons (fC (.int 8)) (fCons (fCallB gLen (fCons (fVar 0) (fNil))) (fNil)))) (fNil)))) (fNil))) (gtName 2) (gSeq (gSet 4 (fBin (gAdd false) (fC (.int 1)) (fCall 2 F__law_take [] (fCons (fVar 1) (fCons (fC (.int 64)) (fNil)))))) (gSeq (gPar 7 8 (fCons (fCall 1 F_fewest_calls [] (fCons (fVar 4) (fNil))) (fCons (fCall 1 F__law_due [] (fCons (fVar 4) (fNil))) (fNil)))) (gSeq (gIf (fTst (fBin gNe (fCallK 1 F_fewest_calls (fCons (fVar 4) (fNil))) (fVar 7))) (gRet (fC (.bl false))) (gNext)) (gSeq (gIf (fOrT (fTst (fBin gNe (fVar 7) (fVar 8))) (fAndT (fTst (fBin gIsNotN (fVar 7) (fC .non))) (fOrT (fNotT (fTst (fCallB (gIsi ct) (fCons (fVar 7) (fCons (fC (.ty "int")) (fNil)))))) (fTst (fCallB (gIsi ct) (fCons (fVar 7) (fCons (fC (.ty "bool")) (fNil)))))))) (gRet (fC (.bl false))) (gNext)) (gSeq (gSet 5 (fLst false (fCons (fBin (gAdd false) (fC (.int 65)) (fCall 2 F__law_take [] (fCons (fVar 1) (fCons (fBin (gI2 iPow) (fC (.int 10)) (fC (.int 9))) (fNil))))) (fCons (fBin (gI2 iSub) (fC (.int 0)) (fCall 2 F__law_take [] (fCons (fVar 1) (fCons (fC (.int 1000)) (fNil))))) (fCons (fC (.int 65)) (fCons (fC (.bl true)) (fCons (fC (.bl false)) (fCons (fC (.str (PySem.Str.ofString "2"))) (fCons (fC .non) (fNil)))))))))) (gSeq (gSet 6 (fCall 2 F__law_pick [] (fCons (fVar 1) (fCons (fBin (gAdd true) (fVar 5) (fLst true (fCons (fLst false (fCons (fC (.int 2)) (fNil))) (fCons (fTup (fCons (fC (.int 1)) (fNil))) (fCons (fDict0) (fCons (fBin (gI2 iPow) (fC (.int 10)) (fC (.int 9))) (fNil))))))) (fNil))))) (gIf (fNotT (fTst (fLam 9 [6] (fCall 1 F_fewest_calls [] (fCons (fVar 6) (fNil))) postNN))) (gRet (fC (.bl false))) (gNext))))))))) (gSeq (gSet 3 (fBin (gAdd false) (fC (.int 1)) (fCall 2 F__law_take [] (fCons (fVar 1) (fCons (fC (.int 6)) (fNil)))))) (gRet (fBin gEq (fCall 1 F_fewest_calls [] (fCons (fVar 3) (fNil))) (fCall 1 F__law_tried [] (fCons (fVar 3) (fNil)))))))
def F_law : FF := fnOf 9 B_law
end K16

-- Wk16
set_option maxHeartbeats 4000000
namespace K16
open PySem PySem.Spec L2 Pl
def top (i : Nat) : Stmt := PySem.Challenge.pw_evenhands_k16_fewest_calls.main.body.getD i (.Pass ⟨0, 0, 0, 0⟩)
structure Tx (z : Bz) (mg : Str → Option Value) (ad : Nat → Addr) : Prop where
  b_ValueError : mg "ValueError" = none
  b_abs : mg "abs" = none
  b_bool : mg "bool" = none
  b_int : mg "int" = none
  b_isinstance : mg "isinstance" = none
  b_len : mg "len" = none
  b_max : mg "max" = none
  b_min : mg "min" = none
  b_range : mg "range" = none
  b_set : mg "set" = none
  b_sorted : mg "sorted" = none
  b_tuple : mg "tuple" = none
  c_BadGroup : mg "BadGroup" = some (.ref (z.ca 1))
  c_Barred : mg "Barred" = some (.ref (z.ca 6))
  c_HandError : mg "HandError" = some (.ref (z.ca 0))
  c_Idle : mg "Idle" = some (.ref (z.ca 7))
  c_NoBack : mg "NoBack" = some (.ref (z.ca 15))
  c_NoCall : mg "NoCall" = some (.ref (z.ca 9))
  c_NoDeed : mg "NoDeed" = some (.ref (z.ca 14))
  c_NoName : mg "NoName" = some (.ref (z.ca 2))
  c_NoNumber : mg "NoNumber" = some (.ref (z.ca 10))
  c_NoPage : mg "NoPage" = some (.ref (z.ca 4))
  c_NoPerson : mg "NoPerson" = some (.ref (z.ca 3))
  c_NoText : mg "NoText" = some (.ref (z.ca 16))
  c_NoWay : mg "NoWay" = some (.ref (z.ca 11))
  c_Spoils : mg "Spoils" = some (.ref (z.ca 13))
  c_TooMany : mg "TooMany" = some (.ref (z.ca 12))
  c_Twice : mg "Twice" = some (.ref (z.ca 5))
  c_Uneven : mg "Uneven" = some (.ref (z.ca 8))
  f__law_begun : mg "_law_begun" = some (.ref (ad 25))
  f__law_due : mg "_law_due" = some (.ref (ad 29))
  f__law_later : mg "_law_later" = some (.ref (ad 30))
  f__law_no_number : mg "_law_no_number" = some (.ref (ad 28))
  f__law_pick : mg "_law_pick" = some (.ref (ad 27))
  f__law_take : mg "_law_take" = some (.ref (ad 26))
  f__law_tried : mg "_law_tried" = some (.ref (ad 31))
  f_fewest_calls : mg "fewest_calls" = some (.ref (ad 23))
  f_is_whole : mg "is_whole" = some (.ref (ad 19))
  f_told_rounds : mg "told_rounds" = some (.ref (ad 22))
  k_MOST_TOLD : ∃ t, mg "MOST_TOLD" = some (.int 64 t)
  r_NoNumber : RaiseC z.K (z.ca 10) [.type "ValueError", .type "Exception", .type "BaseException", .type "object"] "ValueError" "ValueError.__new__" "ValueError.__init__"
theorem sc_is_whole : FnScope N_is_whole ["thing", "least", "most"] (defScope (top 19)) := ⟨rfl, rfl, rfl, by decide +kernel, rfl, by decide +kernel, by decide +kernel⟩
theorem bd_is_whole {z : Bz} {mg : Str → Option Value} {base : Heap} {ad : Nat → Addr} (T : Tx z mg ad) (ctok : CTok z ct)  (cdv : Value) (A : Around) (outer : List PySem.Env) (s : Shared) (H : Hp) (E : XK) (Wx : WX) (hr : Room 0 (fcx z.prog z.w z.K mg base N_is_whole "is_whole" (defScope (top 19)) (ad 19) cdv A outer s H E).A) (tk : Takes (fcx z.prog z.w z.K mg base N_is_whole "is_whole" (defScope (top 19)) (ad 19) cdv A outer s H E) Wx) : PSs (fcx z.prog z.w z.K mg base N_is_whole "is_whole" (defScope (top 19)) (ad 19) cdv A outer s H E) (defBody (top 19)) (tS z Wx B_is_whole) := by
  have hu := hr.units
  have hp : PassesOwn (model z.prog z.w) (fcx z.prog z.w z.K mg base N_is_whole "is_whole" (defScope (top 19)) (ad 19) cdv A outer s H E).A (fcx z.prog z.w z.K mg base N_is_whole "is_whole" (defScope (top 19)) (ad 19) cdv A outer s H E).env (fcx z.prog z.w z.K mg base N_is_whole "is_whole" (defScope (top 19)) (ad 19) cdv A outer s H E).xe := PassesOwn.leaving
  exact (pds_one (pd_ret (pd_andV (pd_callB (cr_isi ⟨rfl, rfl, rfl⟩ ctok) (by rfl) T.b_isinstance (by rfl) (pd_cons (v_ 0) (pd_cons (pd_ty (by rfl) T.b_int) pd_nil))) (pd_andV (pd_notV (pd_callB (cr_isi ⟨rfl, rfl, rfl⟩ ctok) (by rfl) T.b_isinstance (by rfl) (pd_cons (v_ 0) (pd_cons (pd_ty (by rfl) T.b_bool) pd_nil)))) (pd_one (pd_chain (op_leP ⟨rfl, rfl, rfl⟩ hu) (op_leP ⟨rfl, rfl, rfl⟩ hu) (v_ 1) (v_ 0) (v_ 2)))))))
theorem ok_is_whole {z : Bz} {mg : Str → Option Value} {base : Heap} {ad : Nat → Addr} (T : Tx z mg ad) (ctok : CTok z ct) (D : DefAt z.K "is_whole" (top 19) (ad 19) ["thing", "least", "most"])  : FnR z mg base 1 (ad 19) ["thing", "least", "most"] 3 F_is_whole :=
  fn_r (k := 0) (N := N_is_whole) D sc_is_whole (bd_is_whole T ctok )
theorem sc_told_rounds : FnScope N_told_rounds ["many"] (defScope (top 22)) := ⟨rfl, rfl, rfl, by decide +kernel, rfl, by decide +kernel, by decide +kernel⟩
theorem bd_told_rounds {z : Bz} {mg : Str → Option Value} {base : Heap} {ad : Nat → Addr} (T : Tx z mg ad) (ctok : CTok z ct) (G_is_whole : FnR z mg base 1 (ad 19) ["thing", "least", "most"] 3 F_is_whole) (cdv : Value) (A : Around) (outer : List PySem.Env) (s : Shared) (H : Hp) (E : XK) (Wx : WX) (hr : Room 1 (fcx z.prog z.w z.K mg base N_told_rounds "told_rounds" (defScope (top 22)) (ad 22) cdv A outer s H E).A) (tk : Takes (fcx z.prog z.w z.K mg base N_told_rounds "told_rounds" (defScope (top 22)) (ad 22) cdv A outer s H E) Wx) : PSs (fcx z.prog z.w z.K mg base N_told_rounds "told_rounds" (defScope (top 22)) (ad 22) cdv A outer s H E) (defBody (top 22)) (tS z Wx B_told_rounds) := by
  have hu := hr.units
  have hp : PassesOwn (model z.prog z.w) (fcx z.prog z.w z.K mg base N_told_rounds "told_rounds" (defScope (top 22)) (ad 22) cdv A outer s H E).A (fcx z.prog z.w z.K mg base N_told_rounds "told_rounds" (defScope (top 22)) (ad 22) cdv A outer s H E).env (fcx z.prog z.w z.K mg base N_told_rounds "told_rounds" (defScope (top 22)) (ad 22) cdv A outer s H E).xe := PassesOwn.leaving
  exact (pds_cons (pd_if (pd_or (pd_tnot (pd_tval (c_ G_is_whole ⟨rfl, rfl, rfl⟩ hr T.f_is_whole tk (pd_cons (v_ 0) (pd_cons pd_int (pd_cons (pd_gint (by rfl) T.k_MOST_TOLD) pd_nil)))))) (pd_or1 (pd_tcmp (op_eqP ⟨rfl, rfl, rfl⟩ hu) (pd_bin op_modP (v_ 0) pd_int) pd_int (by rfl)))).pt (pds_one (pd_raise (c := 10) ⟨rfl, rfl, rfl⟩ T.r_NoNumber rfl tk T.c_NoNumber (by rfl))) pds_nil) (pds_cons (pd_set (i := 1) sc_told_rounds.nd rfl (by first | exact .inl rfl | exact .inr rfl) (pd_bin op_fdivP (v_ 0) pd_int)) (pds_cons (pd_set (i := 2) sc_told_rounds.nd rfl (by first | exact .inl rfl | exact .inr rfl) (pd_lst pd_nil)) (pds_cons (pd_set (i := 3) sc_told_rounds.nd rfl (by first | exact .inl rfl | exact .inr rfl) pd_int) (pds_cons (pd_while hp (pd_tcmp (op_ltP ⟨rfl, rfl, rfl⟩ hu) (v_ 3) (v_ 0) (by rfl)) (pds_cons (by first | exact (pd_set (i := 4) sc_told_rounds.nd rfl (by first | exact .inl rfl | exact .inr rfl) (pd_comp rfl sc_told_rounds.nd (pdi_range1 (by rfl) T.b_range (pd_cons (v_ 1) pd_nil)) (blkOk_by (own := [((PySem.Str.ofString "j"), 5)]) (by show blkC N_told_rounds (defScope (top 22)) _ _ = true; decide +kernel)) (fun _ _ _ _ _ => (pdg_name (i := 5) sc_told_rounds.nd rfl (by first | exact .inl rfl | exact .inr rfl) (by first | exact .inl rfl | exact .inr rfl))) (fun _ _ _ _ _ => pdt_nil) (fun _ _ _ _ _ => (pd_tup (pd_cons (pd_bin op_mulP pd_int (v_ 5)) (pd_cons (pd_bin (op_addP ⟨rfl, rfl, rfl⟩) (pd_bin op_mulP pd_int (pd_bin op_modP (pd_bin op_subP (pd_bin (op_addP ⟨rfl, rfl, rfl⟩) (v_ 5) (v_ 3)) pd_int) (v_ 1))) pd_int) pd_nil)))) (by decide))) | exact (pd_setComp rfl sc_told_rounds.nd (i := 4) (y := (PySem.Str.ofString "pairs")) rfl (by rfl) (by rfl) (pdi_range1 (by rfl) T.b_range (pd_cons (v_ 1) pd_nil)) (blkOk_by (own := [((PySem.Str.ofString "j"), 5)]) (by show blkC N_told_rounds (defScope (top 22)) _ _ = true; decide +kernel)) (fun _ _ _ _ _ => (pdg_name (i := 5) sc_told_rounds.nd rfl (by first | exact .inl rfl | exact .inr rfl) (by first | exact .inl rfl | exact .inr rfl))) (fun _ _ _ _ _ => pdt_nil) (fun _ _ _ _ _ => (pd_tup (pd_cons (pd_bin op_mulP pd_int (v_ 5)) (pd_cons (pd_bin (op_addP ⟨rfl, rfl, rfl⟩) (pd_bin op_mulP pd_int (pd_bin op_modP (pd_bin op_subP (pd_bin (op_addP ⟨rfl, rfl, rfl⟩) (v_ 5) (v_ 3)) pd_int) (v_ 1))) pd_int) pd_nil)))) (by decide))) (pds_cons (pd_expr (pd_append (v_ 2) (pd_cons (pd_callB (cr_sorted ⟨rfl, rfl, rfl⟩ hu) (by rfl) T.b_sorted (by rfl) (pd_cons (pd_comp rfl sc_told_rounds.nd (pdi_seq ⟨rfl, rfl, rfl⟩ (v_ 4)) (blkOk_by (own := [((PySem.Str.ofString "one"), 6), ((PySem.Str.ofString "other"), 7)]) (by show blkC N_told_rounds (defScope (top 22)) _ _ = true; decide +kernel)) (fun _ _ _ _ _ => (pdg_tup ⟨rfl, rfl, rfl⟩ rfl (pdgs_cons (pdg_name (i := 6) sc_told_rounds.nd rfl (by first | exact .inl rfl | exact .inr rfl) (by first | exact .inl rfl | exact .inr rfl)) (pdgs_cons (pdg_name (i := 7) sc_told_rounds.nd rfl (by first | exact .inl rfl | exact .inr rfl) (by first | exact .inl rfl | exact .inr rfl)) pdgs_nil)))) (fun _ _ _ _ _ => pdt_nil) (fun _ _ _ _ _ => (pd_tup (pd_cons (pd_callB (cr_min2 rfl) (by rfl) T.b_min (by rfl) (pd_cons (v_ 6) (pd_cons (v_ 7) pd_nil))) (pd_cons (pd_callB (cr_max2 rfl) (by rfl) T.b_max (by rfl) (pd_cons (v_ 6) (pd_cons (v_ 7) pd_nil))) pd_nil)))) (by decide)) pd_nil)) pd_nil))) (pds_one (pd_set (i := 3) sc_told_rounds.nd rfl (by first | exact .inl rfl | exact .inr rfl) (pd_bin op_mulP pd_int (v_ 3))))))) (pds_one (pd_ret (v_ 2))))))))
theorem ok_told_rounds {z : Bz} {mg : Str → Option Value} {base : Heap} {ad : Nat → Addr} (T : Tx z mg ad) (ctok : CTok z ct) (D : DefAt z.K "told_rounds" (top 22) (ad 22) ["many"]) (G_is_whole : FnR z mg base 1 (ad 19) ["thing", "least", "most"] 3 F_is_whole) : FnR z mg base 2 (ad 22) ["many"] 1 F_told_rounds :=
  fn_r (k := 1) (N := N_told_rounds) D sc_told_rounds (bd_told_rounds T ctok G_is_whole)
theorem sc_fewest_calls : FnScope N_fewest_calls ["many"] (defScope (top 23)) := ⟨rfl, rfl, rfl, by decide +kernel, rfl, by decide +kernel, by decide +kernel⟩
theorem bd_fewest_calls {z : Bz} {mg : Str → Option Value} {base : Heap} {ad : Nat → Addr} (T : Tx z mg ad) (ctok : CTok z ct) (G_is_whole : FnR z mg base 1 (ad 19) ["thing", "least", "most"] 3 F_is_whole) (G_told_rounds : FnR z mg base 2 (ad 22) ["many"] 1 F_told_rounds) (cdv : Value) (A : Around) (outer : List PySem.Env) (s : Shared) (H : Hp) (E : XK) (Wx : WX) (hr : Room 2 (fcx z.prog z.w z.K mg base N_fewest_calls "fewest_calls" (defScope (top 23)) (ad 23) cdv A outer s H E).A) (tk : Takes (fcx z.prog z.w z.K mg base N_fewest_calls "fewest_calls" (defScope (top 23)) (ad 23) cdv A outer s H E) Wx) : PSs (fcx z.prog z.w z.K mg base N_fewest_calls "fewest_calls" (defScope (top 23)) (ad 23) cdv A outer s H E) (defBody (top 23)) (tS z Wx B_fewest_calls) := by
  have hu := hr.units
  have hp : PassesOwn (model z.prog z.w) (fcx z.prog z.w z.K mg base N_fewest_calls "fewest_calls" (defScope (top 23)) (ad 23) cdv A outer s H E).A (fcx z.prog z.w z.K mg base N_fewest_calls "fewest_calls" (defScope (top 23)) (ad 23) cdv A outer s H E).env (fcx z.prog z.w z.K mg base N_fewest_calls "fewest_calls" (defScope (top 23)) (ad 23) cdv A outer s H E).xe := PassesOwn.leaving
  exact (pds_cons (pd_if (pd_tnot (pd_tval (c_ G_is_whole ⟨rfl, rfl, rfl⟩ hr T.f_is_whole tk (pd_cons (v_ 0) (pd_cons pd_int (pd_cons (pd_gint (by rfl) T.k_MOST_TOLD) pd_nil)))))) (pds_one (pd_raise (c := 10) ⟨rfl, rfl, rfl⟩ T.r_NoNumber rfl tk T.c_NoNumber (by rfl))) pds_nil) (pds_cons (pd_if (pd_tcmp (op_eqP ⟨rfl, rfl, rfl⟩ hu) (v_ 0) pd_int (by rfl)) (pds_one (pd_ret pd_int)) pds_nil) (pds_cons (pd_if (pd_tcmp (op_eqP ⟨rfl, rfl, rfl⟩ hu) (pd_bin op_modP (v_ 0) pd_int) pd_int (by rfl)) (pds_one (pd_ret pd_non)) pds_nil) (pds_one (pd_ret (pd_bin op_mulP (pd_bin op_fdivP (v_ 0) pd_int) (pd_callB (cr_len ⟨rfl, rfl, rfl⟩) (by rfl) T.b_len (by rfl) (pd_cons (c_ G_told_rounds ⟨rfl, rfl, rfl⟩ hr T.f_told_rounds tk (pd_cons (v_ 0) pd_nil)) pd_nil))))))))
theorem ok_fewest_calls {z : Bz} {mg : Str → Option Value} {base : Heap} {ad : Nat → Addr} (T : Tx z mg ad) (ctok : CTok z ct) (D : DefAt z.K "fewest_calls" (top 23) (ad 23) ["many"]) (G_is_whole : FnR z mg base 1 (ad 19) ["thing", "least", "most"] 3 F_is_whole) (G_told_rounds : FnR z mg base 2 (ad 22) ["many"] 1 F_told_rounds) : FnR z mg base 3 (ad 23) ["many"] 1 F_fewest_calls :=
  fn_r (k := 2) (N := N_fewest_calls) D sc_fewest_calls (bd_fewest_calls T ctok G_is_whole G_told_rounds)
theorem sc__law_begun : FnScope N__law_begun ["script"] (defScope (top 25)) := ⟨rfl, rfl, rfl, by decide +kernel, rfl, by decide +kernel, by decide +kernel⟩
theorem bd__law_begun {z : Bz} {mg : Str → Option Value} {base : Heap} {ad : Nat → Addr} (T : Tx z mg ad) (ctok : CTok z ct)  (cdv : Value) (A : Around) (outer : List PySem.Env) (s : Shared) (H : Hp) (E : XK) (Wx : WX) (hr : Room 0 (fcx z.prog z.w z.K mg base N__law_begun "_law_begun" (defScope (top 25)) (ad 25) cdv A outer s H E).A) (tk : Takes (fcx z.prog z.w z.K mg base N__law_begun "_law_begun" (defScope (top 25)) (ad 25) cdv A outer s H E) Wx) : PSs (fcx z.prog z.w z.K mg base N__law_begun "_law_begun" (defScope (top 25)) (ad 25) cdv A outer s H E) (defBody (top 25)) (tS z Wx B__law_begun) := by
  have hu := hr.units
  have hp : PassesOwn (model z.prog z.w) (fcx z.prog z.w z.K mg base N__law_begun "_law_begun" (defScope (top 25)) (ad 25) cdv A outer s H E).A (fcx z.prog z.w z.K mg base N__law_begun "_law_begun" (defScope (top 25)) (ad 25) cdv A outer s H E).env (fcx z.prog z.w z.K mg base N__law_begun "_law_begun" (defScope (top 25)) (ad 25) cdv A outer s H E).xe := PassesOwn.leaving
  exact (pds_cons (by first | exact (pd_set (i := 1) sc__law_begun.nd rfl (by first | exact .inl rfl | exact .inr rfl) (pd_comp rfl sc__law_begun.nd (pdi_seq ⟨rfl, rfl, rfl⟩ (v_ 0)) (blkOk_by (own := [((PySem.Str.ofString "cell"), 2)]) (by show blkC N__law_begun (defScope (top 25)) _ _ = true; decide +kernel)) (fun _ _ _ _ _ => (pdg_name (i := 2) sc__law_begun.nd rfl (by first | exact .inl rfl | exact .inr rfl) (by first | exact .inl rfl | exact .inr rfl))) (fun _ _ _ _ _ => pdt_nil) (fun _ _ _ _ _ => (pd_callB cr_abs (by rfl) T.b_abs (by rfl) (pd_cons (v_ 2) pd_nil))) (by decide))) | exact (pd_setComp rfl sc__law_begun.nd (i := 1) (y := (PySem.Str.ofString "cells")) rfl (by rfl) (by rfl) (pdi_seq ⟨rfl, rfl, rfl⟩ (v_ 0)) (blkOk_by (own := [((PySem.Str.ofString "cell"), 2)]) (by show blkC N__law_begun (defScope (top 25)) _ _ = true; decide +kernel)) (fun _ _ _ _ _ => (pdg_name (i := 2) sc__law_begun.nd rfl (by first | exact .inl rfl | exact .inr rfl) (by first | exact .inl rfl | exact .inr rfl))) (fun _ _ _ _ _ => pdt_nil) (fun _ _ _ _ _ => (pd_callB cr_abs (by rfl) T.b_abs (by rfl) (pd_cons (v_ 2) pd_nil))) (by decide))) (pds_one (pd_ret (pd_dict (.cons pd_str (pd_comp rfl sc__law_begun.nd (pdi_seq ⟨rfl, rfl, rfl⟩ (v_ 1)) (blkOk_by (own := [((PySem.Str.ofString "cell"), 2)]) (by show blkC N__law_begun (defScope (top 25)) _ _ = true; decide +kernel)) (fun _ _ _ _ _ => (pdg_name (i := 2) sc__law_begun.nd rfl (by first | exact .inl rfl | exact .inr rfl) (by first | exact .inl rfl | exact .inr rfl))) (fun _ _ _ _ _ => (pdt_one (pd_tcmp (op_geP ⟨rfl, rfl, rfl⟩ hu) (v_ 2) (pd_bin op_powP pd_int pd_int) (by rfl)))) (fun _ _ _ _ _ => (v_ 2)) (by decide)) (.cons pd_str (v_ 1) (.cons pd_str pd_int (.cons pd_str pd_int (.cons pd_str pd_int .nil)))))))))
theorem ok__law_begun {z : Bz} {mg : Str → Option Value} {base : Heap} {ad : Nat → Addr} (T : Tx z mg ad) (ctok : CTok z ct) (D : DefAt z.K "_law_begun" (top 25) (ad 25) ["script"])  : FnR z mg base 1 (ad 25) ["script"] 1 F__law_begun :=
  fn_r (k := 0) (N := N__law_begun) D sc__law_begun (bd__law_begun T ctok )
theorem sc__law_take : FnScope N__law_take ["draw", "size"] (defScope (top 26)) := ⟨rfl, rfl, rfl, by decide +kernel, rfl, by decide +kernel, by decide +kernel⟩
theorem bd__law_take {z : Bz} {mg : Str → Option Value} {base : Heap} {ad : Nat → Addr} (T : Tx z mg ad) (ctok : CTok z ct)  (cdv : Value) (A : Around) (outer : List PySem.Env) (s : Shared) (H : Hp) (E : XK) (Wx : WX) (hr : Room 0 (fcx z.prog z.w z.K mg base N__law_take "_law_take" (defScope (top 26)) (ad 26) cdv A outer s H E).A) (tk : Takes (fcx z.prog z.w z.K mg base N__law_take "_law_take" (defScope (top 26)) (ad 26) cdv A outer s H E) Wx) : PSs (fcx z.prog z.w z.K mg base N__law_take "_law_take" (defScope (top 26)) (ad 26) cdv A outer s H E) (defBody (top 26)) (tS z Wx B__law_take) := by
  have hu := hr.units
  have hp : PassesOwn (model z.prog z.w) (fcx z.prog z.w z.K mg base N__law_take "_law_take" (defScope (top 26)) (ad 26) cdv A outer s H E).A (fcx z.prog z.w z.K mg base N__law_take "_law_take" (defScope (top 26)) (ad 26) cdv A outer s H E).env (fcx z.prog z.w z.K mg base N__law_take "_law_take" (defScope (top 26)) (ad 26) cdv A outer s H E).xe := PassesOwn.leaving
  exact (pds_cons (pd_while hp (pd_and (pd_tcmp (op_eqP ⟨rfl, rfl, rfl⟩ hu) (pd_dget hu (v_ 0) pd_str (by intro _ _; rfl)) pd_int (by rfl)) (pd_and1 (pd_tcmp (op_neP ⟨rfl, rfl, rfl⟩ hu) (pd_dget hu (v_ 0) pd_str (by intro _ _; rfl)) (pd_lst pd_nil) (by rfl)))).pt (pds_one (pd_dput hu (v_ 0) pd_str (pd_pop0 (pd_dget hu (v_ 0) pd_str (by intro _ _; rfl)) (pd_cons pd_int pd_nil))))) (pds_cons (pd_if (pd_tcmp (op_gtP ⟨rfl, rfl, rfl⟩ hu) (pd_dget hu (v_ 0) pd_str (by intro _ _; rfl)) pd_int (by rfl)) (pds_cons (pd_set (i := 4) sc__law_take.nd rfl (by first | exact .inl rfl | exact .inr rfl) (pd_bin op_modP (pd_dget hu (v_ 0) pd_str (by intro _ _; rfl)) (v_ 1))) (pds_cons (pd_dput hu (v_ 0) pd_str (pd_bin op_fdivP (pd_dget hu (v_ 0) pd_str (by intro _ _; rfl)) (v_ 1))) (pds_one (pd_ret (v_ 4))))) pds_nil) (pds_cons (pd_set (i := 2) sc__law_take.nd rfl (by first | exact .inl rfl | exact .inr rfl) pd_int) (pds_cons (pd_if (pd_tcmp (op_neP ⟨rfl, rfl, rfl⟩ hu) (pd_dget hu (v_ 0) pd_str (by intro _ _; rfl)) (pd_lst pd_nil) (by rfl)) (pds_one (pd_set (i := 2) sc__law_take.nd rfl (by first | exact .inl rfl | exact .inr rfl) (pd_ix (ix_P ⟨rfl, rfl, rfl⟩) (pd_dget hu (v_ 0) pd_str (by intro _ _; rfl)) (pd_bin op_modP (pd_dget hu (v_ 0) pd_str (by intro _ _; rfl)) (pd_callB (cr_len ⟨rfl, rfl, rfl⟩) (by rfl) T.b_len (by rfl) (pd_cons (pd_dget hu (v_ 0) pd_str (by intro _ _; rfl)) pd_nil))) (by intro _ _; rfl)))) pds_nil) (pds_cons (pd_dput hu (v_ 0) pd_str (pd_bin (op_addP ⟨rfl, rfl, rfl⟩) (pd_dget hu (v_ 0) pd_str (by intro _ _; rfl)) pd_int)) (pds_cons (pd_dput hu (v_ 0) pd_str (pd_bin op_modP (pd_bin (op_addP ⟨rfl, rfl, rfl⟩) (pd_bin (op_addP ⟨rfl, rfl, rfl⟩) (pd_bin op_mulP (pd_dget hu (v_ 0) pd_str (by intro _ _; rfl)) pd_int) (v_ 2)) (pd_bin op_mulP pd_int (pd_dget hu (v_ 0) pd_str (by intro _ _; rfl)))) pd_int)) (pds_cons (pd_set (i := 3) sc__law_take.nd rfl (by first | exact .inl rfl | exact .inr rfl) (pd_bin op_modP (pd_bin (op_addP ⟨rfl, rfl, rfl⟩) (pd_bin (op_addP ⟨rfl, rfl, rfl⟩) (pd_bin op_mulP (pd_dget hu (v_ 0) pd_str (by intro _ _; rfl)) (pd_dget hu (v_ 0) pd_str (by intro _ _; rfl))) (pd_bin op_mulP pd_int (pd_dget hu (v_ 0) pd_str (by intro _ _; rfl)))) pd_int) pd_int)) (pds_one (pd_ret (pd_bin op_modP (pd_bin op_fdivP (pd_bin op_modP (pd_bin op_mulP (v_ 3) (v_ 3)) pd_int) pd_int) (v_ 1)))))))))))
theorem ok__law_take {z : Bz} {mg : Str → Option Value} {base : Heap} {ad : Nat → Addr} (T : Tx z mg ad) (ctok : CTok z ct) (D : DefAt z.K "_law_take" (top 26) (ad 26) ["draw", "size"])  : FnR z mg base 1 (ad 26) ["draw", "size"] 2 F__law_take :=
  fn_r (k := 0) (N := N__law_take) D sc__law_take (bd__law_take T ctok )
theorem sc__law_pick : FnScope N__law_pick ["draw", "some"] (defScope (top 27)) := ⟨rfl, rfl, rfl, by decide +kernel, rfl, by decide +kernel, by decide +kernel⟩
theorem bd__law_pick {z : Bz} {mg : Str → Option Value} {base : Heap} {ad : Nat → Addr} (T : Tx z mg ad) (ctok : CTok z ct) (G__law_take : FnR z mg base 1 (ad 26) ["draw", "size"] 2 F__law_take) (cdv : Value) (A : Around) (outer : List PySem.Env) (s : Shared) (H : Hp) (E : XK) (Wx : WX) (hr : Room 1 (fcx z.prog z.w z.K mg base N__law_pick "_law_pick" (defScope (top 27)) (ad 27) cdv A outer s H E).A) (tk : Takes (fcx z.prog z.w z.K mg base N__law_pick "_law_pick" (defScope (top 27)) (ad 27) cdv A outer s H E) Wx) : PSs (fcx z.prog z.w z.K mg base N__law_pick "_law_pick" (defScope (top 27)) (ad 27) cdv A outer s H E) (defBody (top 27)) (tS z Wx B__law_pick) := by
  have hu := hr.units
  have hp : PassesOwn (model z.prog z.w) (fcx z.prog z.w z.K mg base N__law_pick "_law_pick" (defScope (top 27)) (ad 27) cdv A outer s H E).A (fcx z.prog z.w z.K mg base N__law_pick "_law_pick" (defScope (top 27)) (ad 27) cdv A outer s H E).env (fcx z.prog z.w z.K mg base N__law_pick "_law_pick" (defScope (top 27)) (ad 27) cdv A outer s H E).xe := PassesOwn.leaving
  exact (pds_one (pd_ret (pd_ix (ix_P ⟨rfl, rfl, rfl⟩) (v_ 1) (c_ G__law_take ⟨rfl, rfl, rfl⟩ hr T.f__law_take tk (pd_cons (v_ 0) (pd_cons (pd_callB (cr_len ⟨rfl, rfl, rfl⟩) (by rfl) T.b_len (by rfl) (pd_cons (v_ 1) pd_nil)) pd_nil))) (by intro _ _; rfl))))
theorem ok__law_pick {z : Bz} {mg : Str → Option Value} {base : Heap} {ad : Nat → Addr} (T : Tx z mg ad) (ctok : CTok z ct) (D : DefAt z.K "_law_pick" (top 27) (ad 27) ["draw", "some"]) (G__law_take : FnR z mg base 1 (ad 26) ["draw", "size"] 2 F__law_take) : FnR z mg base 2 (ad 27) ["draw", "some"] 2 F__law_pick :=
  fn_r (k := 1) (N := N__law_pick) D sc__law_pick (bd__law_pick T ctok G__law_take)
theorem sc__law_due : FnScope N__law_due ["amount"] (defScope (top 29)) := ⟨rfl, rfl, rfl, by decide +kernel, rfl, by decide +kernel, by decide +kernel⟩
theorem bd__law_due {z : Bz} {mg : Str → Option Value} {base : Heap} {ad : Nat → Addr} (T : Tx z mg ad) (ctok : CTok z ct)  (cdv : Value) (A : Around) (outer : List PySem.Env) (s : Shared) (H : Hp) (E : XK) (Wx : WX) (hr : Room 0 (fcx z.prog z.w z.K mg base N__law_due "_law_due" (defScope (top 29)) (ad 29) cdv A outer s H E).A) (tk : Takes (fcx z.prog z.w z.K mg base N__law_due "_law_due" (defScope (top 29)) (ad 29) cdv A outer s H E) Wx) : PSs (fcx z.prog z.w z.K mg base N__law_due "_law_due" (defScope (top 29)) (ad 29) cdv A outer s H E) (defBody (top 29)) (tS z Wx B__law_due) := by
  have hu := hr.units
  have hp : PassesOwn (model z.prog z.w) (fcx z.prog z.w z.K mg base N__law_due "_law_due" (defScope (top 29)) (ad 29) cdv A outer s H E).A (fcx z.prog z.w z.K mg base N__law_due "_law_due" (defScope (top 29)) (ad 29) cdv A outer s H E).env (fcx z.prog z.w z.K mg base N__law_due "_law_due" (defScope (top 29)) (ad 29) cdv A outer s H E).xe := PassesOwn.leaving
  exact (pds_cons (pd_asg (pd_tup (pd_cons pd_int (pd_cons pd_int pd_nil))) (pdg_tup ⟨rfl, rfl, rfl⟩ rfl (pdgs_cons (pdg_name (i := 1) sc__law_due.nd rfl (by first | exact .inl rfl | exact .inr rfl) (by first | exact .inl rfl | exact .inr rfl)) (pdgs_cons (pdg_name (i := 2) sc__law_due.nd rfl (by first | exact .inl rfl | exact .inr rfl) (by first | exact .inl rfl | exact .inr rfl)) pdgs_nil)))) (pds_cons (pd_while hp (pd_tcmp (op_ltP ⟨rfl, rfl, rfl⟩ hu) (v_ 2) (v_ 0) (by rfl)) (pds_one (pd_par (i := 1) (j := 2) rfl sc__law_due.nd rfl rfl (by decide) (by rfl) (by rfl) (pd_cons (pd_bin (op_addP ⟨rfl, rfl, rfl⟩) (v_ 1) pd_int) (pd_cons (pd_bin op_mulP pd_int (v_ 2)) pd_nil)) (by rfl)))) (pds_cons (pd_if (pd_and (pd_tcmp (op_gtP ⟨rfl, rfl, rfl⟩ hu) (v_ 0) pd_int (by rfl)) (pd_and1 (pd_tcmp (op_eqP ⟨rfl, rfl, rfl⟩ hu) (pd_bin op_modP (v_ 0) pd_int) pd_int (by rfl)))).pt (pds_one (pd_ret pd_non)) pds_nil) (pds_one (pd_ret (pd_bin op_mulP (pd_bin op_fdivP (v_ 0) pd_int) (v_ 1)))))))
theorem ok__law_due {z : Bz} {mg : Str → Option Value} {base : Heap} {ad : Nat → Addr} (T : Tx z mg ad) (ctok : CTok z ct) (D : DefAt z.K "_law_due" (top 29) (ad 29) ["amount"])  : FnR z mg base 1 (ad 29) ["amount"] 1 F__law_due :=
  fn_r (k := 0) (N := N__law_due) D sc__law_due (bd__law_due T ctok )
theorem sc__law_later : FnScope N__law_later ["stand"] (defScope (top 30)) := ⟨rfl, rfl, rfl, by decide +kernel, rfl, by decide +kernel, by decide +kernel⟩
theorem bd__law_later {z : Bz} {mg : Str → Option Value} {base : Heap} {ad : Nat → Addr} (T : Tx z mg ad) (ctok : CTok z ct)  (cdv : Value) (A : Around) (outer : List PySem.Env) (s : Shared) (H : Hp) (E : XK) (Wx : WX) (hr : Room 0 (fcx z.prog z.w z.K mg base N__law_later "_law_later" (defScope (top 30)) (ad 30) cdv A outer s H E).A) (tk : Takes (fcx z.prog z.w z.K mg base N__law_later "_law_later" (defScope (top 30)) (ad 30) cdv A outer s H E) Wx) : PSs (fcx z.prog z.w z.K mg base N__law_later "_law_later" (defScope (top 30)) (ad 30) cdv A outer s H E) (defBody (top 30)) (tS z Wx B__law_later) := by
  have hu := hr.units
  have hp : PassesOwn (model z.prog z.w) (fcx z.prog z.w z.K mg base N__law_later "_law_later" (defScope (top 30)) (ad 30) cdv A outer s H E).A (fcx z.prog z.w z.K mg base N__law_later "_law_later" (defScope (top 30)) (ad 30) cdv A outer s H E).env (fcx z.prog z.w z.K mg base N__law_later "_law_later" (defScope (top 30)) (ad 30) cdv A outer s H E).xe := PassesOwn.leaving
  exact (pds_cons (pd_set (i := 1) sc__law_later.nd rfl (by first | exact .inl rfl | exact .inr rfl) (pd_lst pd_nil)) (pds_cons (pd_for hp rfl (pdi_range1 (by rfl) T.b_range (pd_cons (pd_callB (cr_len ⟨rfl, rfl, rfl⟩) (by rfl) T.b_len (by rfl) (pd_cons (v_ 0) pd_nil)) pd_nil)) (pdg_name (i := 2) sc__law_later.nd rfl (by first | exact .inl rfl | exact .inr rfl) (by first | exact .inl rfl | exact .inr rfl)) (pds_one (pd_for hp rfl (pdi_range2 (by rfl) T.b_range (pd_cons (pd_bin (op_addP ⟨rfl, rfl, rfl⟩) (v_ 2) pd_int) (pd_cons (pd_callB (cr_len ⟨rfl, rfl, rfl⟩) (by rfl) T.b_len (by rfl) (pd_cons (v_ 0) pd_nil)) pd_nil))) (pdg_name (i := 3) sc__law_later.nd rfl (by first | exact .inl rfl | exact .inr rfl) (by first | exact .inl rfl | exact .inr rfl)) (pds_one (pd_if (pd_and (pd_tcmp (op_eqP ⟨rfl, rfl, rfl⟩ hu) (pd_callB (cr_len ⟨rfl, rfl, rfl⟩) (by rfl) T.b_len (by rfl) (pd_cons (pd_ix (ix_P ⟨rfl, rfl, rfl⟩) (v_ 0) (v_ 2) (by intro _ _; rfl)) pd_nil)) (pd_callB (cr_len ⟨rfl, rfl, rfl⟩) (by rfl) T.b_len (by rfl) (pd_cons (pd_ix (ix_P ⟨rfl, rfl, rfl⟩) (v_ 0) (v_ 3) (by intro _ _; rfl)) pd_nil)) (by rfl)) (pd_and1 (pd_tcmp (op_neP ⟨rfl, rfl, rfl⟩ hu) (pd_ix (ix_P ⟨rfl, rfl, rfl⟩) (v_ 0) (v_ 2) (by intro _ _; rfl)) (pd_ix (ix_P ⟨rfl, rfl, rfl⟩) (v_ 0) (v_ 3) (by intro _ _; rfl)) (by rfl)))).pt (pds_cons (pd_set (i := 4) sc__law_later.nd rfl (by first | exact .inl rfl | exact .inr rfl) (pd_callTy (cr_tupOf ⟨rfl, rfl, rfl⟩) (by rfl) T.b_tuple (by rfl) (pd_cons (pd_callB (cr_sortI ⟨rfl, rfl, rfl⟩ rfl) (by rfl) T.b_sorted (by rfl) (pd_cons (pd_callTy (cr_setT ⟨rfl, rfl, rfl⟩ rfl) (by rfl) T.b_set (by rfl) (pd_cons (pd_bin (op_addP ⟨rfl, rfl, rfl⟩) (pd_ix (ix_P ⟨rfl, rfl, rfl⟩) (v_ 0) (v_ 2) (by intro _ _; rfl)) (pd_ix (ix_P ⟨rfl, rfl, rfl⟩) (v_ 0) (v_ 3) (by intro _ _; rfl))) pd_nil)) pd_nil)) pd_nil))) (pds_one (pd_expr (pd_append (v_ 1) (pd_cons (pd_callTy (cr_tupOf ⟨rfl, rfl, rfl⟩) (by rfl) T.b_tuple (by rfl) (pd_cons (pd_comp rfl sc__law_later.nd (pdi_range1 (by rfl) T.b_range (pd_cons (pd_callB (cr_len ⟨rfl, rfl, rfl⟩) (by rfl) T.b_len (by rfl) (pd_cons (v_ 0) pd_nil)) pd_nil)) (blkOk_by (own := [((PySem.Str.ofString "k"), 5)]) (by show blkC N__law_later (defScope (top 30)) _ _ = true; decide +kernel)) (fun _ _ _ _ _ => (pdg_name (i := 5) sc__law_later.nd rfl (by first | exact .inl rfl | exact .inr rfl) (by first | exact .inl rfl | exact .inr rfl))) (fun _ _ _ _ _ => pdt_nil) (fun _ _ _ _ _ => (pd_ifE (pd_tcmp (op_inP ⟨rfl, rfl, rfl⟩ hu) (v_ 5) (pd_tup (pd_cons (v_ 2) (pd_cons (v_ 3) pd_nil))) (by rfl)) (v_ 4) (pd_ix (ix_P ⟨rfl, rfl, rfl⟩) (v_ 0) (v_ 5) (by intro _ _; rfl)))) (by decide)) pd_nil)) pd_nil))))) pds_nil))))) (pds_one (pd_ret (v_ 1)))))
theorem ok__law_later {z : Bz} {mg : Str → Option Value} {base : Heap} {ad : Nat → Addr} (T : Tx z mg ad) (ctok : CTok z ct) (D : DefAt z.K "_law_later" (top 30) (ad 30) ["stand"])  : FnR z mg base 1 (ad 30) ["stand"] 1 F__law_later :=
  fn_r (k := 0) (N := N__law_later) D sc__law_later (bd__law_later T ctok )
theorem sc__law_tried : FnScope N__law_tried ["amount"] (defScope (top 31)) := ⟨rfl, rfl, rfl, by decide +kernel, rfl, by decide +kernel, by decide +kernel⟩
theorem bd__law_tried {z : Bz} {mg : Str → Option Value} {base : Heap} {ad : Nat → Addr} (T : Tx z mg ad) (ctok : CTok z ct) (G__law_later : FnR z mg base 1 (ad 30) ["stand"] 1 F__law_later) (cdv : Value) (A : Around) (outer : List PySem.Env) (s : Shared) (H : Hp) (E : XK) (Wx : WX) (hr : Room 1 (fcx z.prog z.w z.K mg base N__law_tried "_law_tried" (defScope (top 31)) (ad 31) cdv A outer s H E).A) (tk : Takes (fcx z.prog z.w z.K mg base N__law_tried "_law_tried" (defScope (top 31)) (ad 31) cdv A outer s H E) Wx) : PSs (fcx z.prog z.w z.K mg base N__law_tried "_law_tried" (defScope (top 31)) (ad 31) cdv A outer s H E) (defBody (top 31)) (tS z Wx B__law_tried) := by
  have hu := hr.units
  have hp : PassesOwn (model z.prog z.w) (fcx z.prog z.w z.K mg base N__law_tried "_law_tried" (defScope (top 31)) (ad 31) cdv A outer s H E).A (fcx z.prog z.w z.K mg base N__law_tried "_law_tried" (defScope (top 31)) (ad 31) cdv A outer s H E).env (fcx z.prog z.w z.K mg base N__law_tried "_law_tried" (defScope (top 31)) (ad 31) cdv A outer s H E).xe := PassesOwn.leaving
  exact (pds_cons (pd_set (i := 1) sc__law_tried.nd rfl (by first | exact .inl rfl | exact .inr rfl) (pd_callTy (cr_tupOf ⟨rfl, rfl, rfl⟩) (by rfl) T.b_tuple (by rfl) (pd_cons (pd_comp rfl sc__law_tried.nd (pdi_range1 (by rfl) T.b_range (pd_cons (v_ 0) pd_nil)) (blkOk_by (own := [((PySem.Str.ofString "k"), 8)]) (by show blkC N__law_tried (defScope (top 31)) _ _ = true; decide +kernel)) (fun _ _ _ _ _ => (pdg_name (i := 8) sc__law_tried.nd rfl (by first | exact .inl rfl | exact .inr rfl) (by first | exact .inl rfl | exact .inr rfl))) (fun _ _ _ _ _ => pdt_nil) (fun _ _ _ _ _ => (pd_tupRg rfl (by rfl) T.b_tuple (by rfl) T.b_range (v_ 0))) (by decide)) pd_nil))) (pds_cons (pd_par (i := 3) (j := 4) rfl sc__law_tried.nd rfl rfl (by decide) (by rfl) (by rfl) (pd_cons (pd_lst (pd_cons (pd_callTy (cr_tupOf ⟨rfl, rfl, rfl⟩) (by rfl) T.b_tuple (by rfl) (pd_cons (pd_comp rfl sc__law_tried.nd (pdi_range1 (by rfl) T.b_range (pd_cons (v_ 0) pd_nil)) (blkOk_by (own := [((PySem.Str.ofString "k"), 8)]) (by show blkC N__law_tried (defScope (top 31)) _ _ = true; decide +kernel)) (fun _ _ _ _ _ => (pdg_name (i := 8) sc__law_tried.nd rfl (by first | exact .inl rfl | exact .inr rfl) (by first | exact .inl rfl | exact .inr rfl))) (fun _ _ _ _ _ => pdt_nil) (fun _ _ _ _ _ => (pd_tup (pd_cons (v_ 8) pd_nil))) (by decide)) pd_nil)) pd_nil)) (pd_cons pd_int pd_nil)) (by rfl)) (pds_cons (pd_if (pd_tcmp (op_gtP ⟨rfl, rfl, rfl⟩ hu) (v_ 0) pd_int (by rfl)) (pds_one (pd_par (i := 3) (j := 4) rfl sc__law_tried.nd rfl rfl (by decide) (by rfl) (by rfl) (pd_cons (pd_slice (sl_P ⟨rfl, rfl, rfl⟩) (c_ G__law_later ⟨rfl, rfl, rfl⟩ hr T.f__law_later tk (pd_cons (pd_ix (ix_P ⟨rfl, rfl, rfl⟩) (v_ 3) pd_int (by intro _ _; rfl)) pd_nil)) pd_no (pd_part pd_int)) (pd_cons pd_int pd_nil)) (by rfl))) pds_nil) (pds_cons (pd_set (i := 2) sc__law_tried.nd rfl (by first | exact .inl rfl | exact .inr rfl) (pd_dictN1 ⟨rfl, rfl, rfl⟩ hu (pd_ix (ix_P ⟨rfl, rfl, rfl⟩) (v_ 3) pd_int (by intro _ _; rfl)) pd_bl)) (pds_cons (pd_while hp (pd_tcmp (op_neP ⟨rfl, rfl, rfl⟩ hu) (v_ 3) (pd_lst pd_nil) (by rfl)) (pds_cons (pd_if (pd_tcmp (op_inP ⟨rfl, rfl, rfl⟩ hu) (v_ 1) (v_ 3) (by rfl)) (pds_one (pd_ret (v_ 4))) pds_nil) (pds_cons (pd_set (i := 5) sc__law_tried.nd rfl (by first | exact .inl rfl | exact .inr rfl) (pd_lst pd_nil)) (pds_cons (pd_for hp rfl (pdi_seq ⟨rfl, rfl, rfl⟩ (v_ 3)) (pdg_name (i := 6) sc__law_tried.nd rfl (by first | exact .inl rfl | exact .inr rfl) (by first | exact .inl rfl | exact .inr rfl)) (pds_one (pd_for hp rfl (pdi_seq ⟨rfl, rfl, rfl⟩ (c_ G__law_later ⟨rfl, rfl, rfl⟩ hr T.f__law_later tk (pd_cons (v_ 6) pd_nil))) (pdg_name (i := 7) sc__law_tried.nd rfl (by first | exact .inl rfl | exact .inr rfl) (by first | exact .inl rfl | exact .inr rfl)) (pds_one (pd_if (pd_tcmp (op_nNotIn ⟨rfl, rfl, rfl⟩ hu) (v_ 7) (v_ 2) (by rfl)) (pds_cons (pd_nput ⟨rfl, rfl, rfl⟩ hu (v_ 2) (v_ 7) pd_bl) (pds_one (pd_expr (pd_append (v_ 5) (pd_cons (v_ 7) pd_nil))))) pds_nil))))) (pds_one (pd_par (i := 3) (j := 4) rfl sc__law_tried.nd rfl rfl (by decide) (by rfl) (by rfl) (pd_cons (v_ 5) (pd_cons (pd_bin (op_addP ⟨rfl, rfl, rfl⟩) (v_ 4) pd_int) pd_nil)) (by rfl))))))) (pds_one (pd_ret pd_non)))))))
theorem ok__law_tried {z : Bz} {mg : Str → Option Value} {base : Heap} {ad : Nat → Addr} (T : Tx z mg ad) (ctok : CTok z ct) (D : DefAt z.K "_law_tried" (top 31) (ad 31) ["amount"]) (G__law_later : FnR z mg base 1 (ad 30) ["stand"] 1 F__law_later) : FnR z mg base 2 (ad 31) ["amount"] 1 F__law_tried :=
  fn_r (k := 1) (N := N__law_tried) D sc__law_tried (bd__law_tried T ctok G__law_later)
end K16

-- Xk16
set_option maxHeartbeats 4000000
namespace K16
open PySem PySem.Spec L2 Pl
theorem sc__law_no_number : FnScope N__law_no_number ["work"] (defScope (top 28)) := ⟨rfl, rfl, rfl, by decide +kernel, rfl, by decide +kernel, by decide +kernel⟩
theorem bd_nn {z : Bz} {mg : Str → Option Value} {base : Heap} {ad : Nat → Addr} (T : Tx z mg ad) (ctok : CTok z ct) (hcatch : ∀ k b, catchNN k = some b → PySem.W.exmOne z.K (.ref (z.ca k)) (.ref (z.ca 0)) = some b) (n : Nat) (q : Str) (fb : FE) (f c' : Addr) (σ : L2.St) (cdv : Value) (A : Around) (outer : List PySem.Env) (s : Shared) (H : Hp) (E : XK)
    (hw : ∀ pn xe Wg p1 p2, Takes ((fcx z.prog z.w z.K mg base N__law_no_number "_law_no_number" (defScope (top 28)) (ad 28) cdv A outer s H E).tr pn xe) Wg → PE ((fcx z.prog z.w z.K mg base N__law_no_number "_law_no_number" (defScope (top 28)) (ad 28) cdv A outer s H E).tr pn xe) (.Call (.Name "work" p1) [] [] p2) (tE z Wg (fWork 0 n f c' q σ fb))) (Wx : WX) (hr : Room 4 (fcx z.prog z.w z.K mg base N__law_no_number "_law_no_number" (defScope (top 28)) (ad 28) cdv A outer s H E).A) (tk : Takes (fcx z.prog z.w z.K mg base N__law_no_number "_law_no_number" (defScope (top 28)) (ad 28) cdv A outer s H E) Wx) : PSs (fcx z.prog z.w z.K mg base N__law_no_number "_law_no_number" (defScope (top 28)) (ad 28) cdv A outer s H E) (defBody (top 28)) (tS z Wx (GB n q fb f c' σ)) := by
  have hu := hr.units
  have hp : PassesOwn (model z.prog z.w) (fcx z.prog z.w z.K mg base N__law_no_number "_law_no_number" (defScope (top 28)) (ad 28) cdv A outer s H E).A (fcx z.prog z.w z.K mg base N__law_no_number "_law_no_number" (defScope (top 28)) (ad 28) cdv A outer s H E).env (fcx z.prog z.w z.K mg base N__law_no_number "_law_no_number" (defScope (top 28)) (ad 28) cdv A outer s H E).xe := PassesOwn.leaving
  exact pds_cons (pd_set (i := 1) sc__law_no_number.nd rfl (.inl rfl) pd_non) (pds_cons (pd_keep (catch_ := catchNN) (i := 2) (j := 1) ⟨rfl, rfl, rfl⟩ hcatch (by decide) rfl rfl rfl sc__law_no_number.nd rfl rfl rfl rfl ⟨by rfl, by decide, .inl T.c_HandError⟩ tk (fun W pn xe tk2 _ => pds_one (pd_expr (hw pn xe W _ _ tk2)))) (pds_cons (pd_if (pd_or (pd_tcmp (op_isN ⟨rfl, rfl, rfl⟩) (v_ 1) pd_non (by rfl)) (pd_or (pd_tnot (pd_tval (pd_callB (cr_isi ⟨rfl, rfl, rfl⟩ ctok) (by rfl) T.b_isinstance (by rfl) (pd_cons (v_ 1) (pd_cons (pd_cls (c := 10) (by rfl) T.c_NoNumber) pd_nil))))) (pd_or1 (pd_tnot (pd_tval (pd_callB (cr_isi ⟨rfl, rfl, rfl⟩ ctok) (by rfl) T.b_isinstance (by rfl) (pd_cons (v_ 1) (pd_cons (pd_ty (by rfl) T.b_ValueError) pd_nil)))))))).pt (pds_one (pd_ret pd_bl)) pds_nil) (pds_cons (pd_if (pd_tval (pd_callB (cr_isi ⟨rfl, rfl, rfl⟩ ctok) (by rfl) T.b_isinstance (by rfl) (pd_cons (v_ 1) (pd_cons (pd_tup (pd_cons (pd_cls (c := 1) (by rfl) T.c_BadGroup) (pd_cons (pd_cls (c := 2) (by rfl) T.c_NoName) (pd_cons (pd_cls (c := 4) (by rfl) T.c_NoPage) (pd_cons (pd_cls (c := 3) (by rfl) T.c_NoPerson) (pd_cons (pd_cls (c := 5) (by rfl) T.c_Twice) (pd_cons (pd_cls (c := 6) (by rfl) T.c_Barred) (pd_cons (pd_cls (c := 7) (by rfl) T.c_Idle) (pd_cons (pd_cls (c := 8) (by rfl) T.c_Uneven) (pd_cons (pd_cls (c := 9) (by rfl) T.c_NoCall) pd_nil)))))))))) pd_nil)))) (pds_one (pd_ret pd_bl)) pds_nil) (pds_one (pd_ret (pd_notV (pd_callB (cr_isi ⟨rfl, rfl, rfl⟩ ctok) (by rfl) T.b_isinstance (by rfl) (pd_cons (v_ 1) (pd_cons (pd_tup (pd_cons (pd_cls (c := 11) (by rfl) T.c_NoWay) (pd_cons (pd_cls (c := 12) (by rfl) T.c_TooMany) (pd_cons (pd_cls (c := 14) (by rfl) T.c_NoDeed) (pd_cons (pd_cls (c := 16) (by rfl) T.c_NoText) (pd_cons (pd_cls (c := 13) (by rfl) T.c_Spoils) (pd_cons (pd_cls (c := 15) (by rfl) T.c_NoBack) pd_nil))))))) pd_nil)))))))))
theorem sc_law : FnScope N_law ["script"] (defScope (top 32)) := ⟨rfl, rfl, rfl, by decide +kernel, rfl, by decide +kernel, by decide +kernel⟩
theorem post_ok {n : Nat} {q : Str} {fb : FE} {ix : List Nat} {cs : List (Sum PD Nat)} {M : Store} {r : Sum Xn E × Store} {f c' : Addr} {σ : L2.St} (h : postNN (fb (capEnv n ix cs) M) = some r) : fnOf N__law_no_number.length (GB n q fb f c' σ) [.fn f c' q σ ix cs] M = some r := by
  unfold postNN at h
  split at h
  · rename_i M' e
    have hw : fWork 0 n f c' q σ fb ([some (.fn f c' q σ ix cs), some (.p .non), none] : Pl.Env) M = some (.inl ⟨10, []⟩, M') := by
      show (if f = f ∧ c' = c' ∧ q = q ∧ σ = σ then fb (capEnv n ix cs) M else none) = _
      rw [if_pos ⟨rfl, rfl, rfl, rfl⟩, e]
    have hk : gKeep 2 1 catchNN (gDrop (fWork 0 n f c' q σ fb)) ([some (.fn f c' q σ ix cs), some (.p .non), none] : Pl.Env) M = some (.nx [some (.fn f c' q σ ix cs), some (.p (.exn 10 [])), none], M') := by
      unfold gKeep gDrop
      rw [hw]
      rfl
    cases h
    unfold fnOf
    show (match (match gKeep 2 1 catchNN (gDrop (fWork 0 n f c' q σ fb)) ([some (.fn f c' q σ ix cs), some (.p .non), none] : Pl.Env) M with | some (.nx ρ1, M1) => _ | r => r) with | some (.nx _, M') => _ | some (.rt e, M') => _ | some (.xn x _, M') => _ | _ => none) = _
    rw [hk]
    rfl
  · cases h
theorem bd_law {z : Bz} {mg : Str → Option Value} {base : Heap} {ad : Nat → Addr} (T : Tx z mg ad) (ctok : CTok z ct) (hcatch : ∀ k b, catchNN k = some b → PySem.W.exmOne z.K (.ref (z.ca k)) (.ref (z.ca 0)) = some b) (DN : DefAt z.K "_law_no_number" (top 28) (ad 28) ["work"]) (G_fewest_calls : FnR z mg base 3 (ad 23) ["many"] 1 F_fewest_calls) (G__law_begun : FnR z mg base 1 (ad 25) ["script"] 1 F__law_begun) (G__law_take : FnR z mg base 1 (ad 26) ["draw", "size"] 2 F__law_take) (G__law_pick : FnR z mg base 2 (ad 27) ["draw", "some"] 2 F__law_pick) (G__law_due : FnR z mg base 1 (ad 29) ["amount"] 1 F__law_due) (G__law_tried : FnR z mg base 2 (ad 31) ["amount"] 1 F__law_tried)
    (GK_fewest_calls : ∃ fd, FnOk z.prog z.w z.K mg base (L2.CX z.prog z.w) 3 (ad 23) fd ["many"] (spD z 1 F_fewest_calls) ∧ PySem.W.keepIn z.K (.ref (ad 23)) = true ∧ KBinds z.K fd ["many"] ["many"] (fun us ws => us ++ ws) (fun vs zs => vs ++ zs))
    {cc P : Addr} (TB : LamX.TabB base mg cc P) (hmT : (P, PySem.Str.ofString "law.<locals>.<lambda>") ∈ z.T) (hu2 : ∀ p ∈ z.T, p.1 = P → p.2 = PySem.Str.ofString "law.<locals>.<lambda>") (A : Around) (outer : List PySem.Env) (s : Shared) (H : Hp) (E : XK) (Wx : WX) (hr : Room 6 (fcx z.prog z.w z.K mg base N_law "law" (defScope (top 32)) (ad 32) (.ref cc) A outer s H E).A) (tk : Takes (fcx z.prog z.w z.K mg base N_law "law" (defScope (top 32)) (ad 32) (.ref cc) A outer s H E) Wx) : PSs (fcx z.prog z.w z.K mg base N_law "law" (defScope (top 32)) (ad 32) (.ref cc) A outer s H E) (defBody (top 32)) (tS z Wx B_law) := by
  have hu := hr.units
  have hp : PassesOwn (model z.prog z.w) (fcx z.prog z.w z.K mg base N_law "law" (defScope (top 32)) (ad 32) (.ref cc) A outer s H E).A (fcx z.prog z.w z.K mg base N_law "law" (defScope (top 32)) (ad 32) (.ref cc) A outer s H E).env (fcx z.prog z.w z.K mg base N_law "law" (defScope (top 32)) (ad 32) (.ref cc) A outer s H E).xe := PassesOwn.leaving
  exact (pds_cons (pd_set (i := 1) sc_law.nd rfl (by first | exact .inl rfl | exact .inr rfl) (c_ G__law_begun ⟨rfl, rfl, rfl⟩ hr T.f__law_begun tk (pd_cons (v_ 0) pd_nil))) (pds_cons (pd_for hp rfl (pdi_range1 (by rfl) T.b_range (pd_cons (pd_callB (cr_max2 rfl) (by rfl) T.b_max (by rfl) (pd_cons pd_int (pd_cons (pd_callB (cr_min2 rfl) (by rfl) T.b_min (by rfl) (pd_cons pd_int (pd_cons (pd_callB (cr_len ⟨rfl, rfl, rfl⟩) (by rfl) T.b_len (by rfl) (pd_cons (v_ 0) pd_nil)) pd_nil))) pd_nil))) pd_nil)) (pdg_name (i := 2) sc_law.nd rfl (by first | exact .inl rfl | exact .inr rfl) (by first | exact .inl rfl | exact .inr rfl)) (pds_cons (pd_set (i := 4) sc_law.nd rfl (by first | exact .inl rfl | exact .inr rfl) (pd_bin (op_addP ⟨rfl, rfl, rfl⟩) pd_int (c_ G__law_take ⟨rfl, rfl, rfl⟩ hr T.f__law_take tk (pd_cons (v_ 1) (pd_cons pd_int pd_nil))))) (pds_cons (pd_par (i := 7) (j := 8) rfl sc_law.nd rfl rfl (by decide) (by rfl) (by rfl) (pd_cons (c_ G_fewest_calls ⟨rfl, rfl, rfl⟩ hr T.f_fewest_calls tk (pd_cons (v_ 4) pd_nil)) (pd_cons (c_ G__law_due ⟨rfl, rfl, rfl⟩ hr T.f__law_due tk (pd_cons (v_ 4) pd_nil)) pd_nil)) (by rfl)) (pds_cons (pd_if (pd_tcmp (op_neP ⟨rfl, rfl, rfl⟩ hu) (ck_ GK_fewest_calls ⟨rfl, rfl, rfl⟩ hr T.f_fewest_calls tk (pdk_cons (v_ 4) pdk_nil)) (v_ 7) (by rfl)) (pds_one (pd_ret pd_bl)) pds_nil) (pds_cons (pd_if (pd_or (pd_tcmp (op_neP ⟨rfl, rfl, rfl⟩ hu) (v_ 7) (v_ 8) (by rfl)) (pd_or1 (pd_and (pd_tcmp (op_isNotN ⟨rfl, rfl, rfl⟩) (v_ 7) pd_non (by rfl)) (pd_and1 (pd_or (pd_tnot (pd_tval (pd_callB (cr_isi ⟨rfl, rfl, rfl⟩ ctok) (by rfl) T.b_isinstance (by rfl) (pd_cons (v_ 7) (pd_cons (pd_ty (by rfl) T.b_int) pd_nil))))) (pd_or1 (pd_tval (pd_callB (cr_isi ⟨rfl, rfl, rfl⟩ ctok) (by rfl) T.b_isinstance (by rfl) (pd_cons (v_ 7) (pd_cons (pd_ty (by rfl) T.b_bool) pd_nil)))))).pt)).pt)).pt (pds_one (pd_ret pd_bl)) pds_nil) (pds_cons (pd_set (i := 5) sc_law.nd rfl (by first | exact .inl rfl | exact .inr rfl) (pd_lst (pd_cons (pd_bin (op_addP ⟨rfl, rfl, rfl⟩) pd_int (c_ G__law_take ⟨rfl, rfl, rfl⟩ hr T.f__law_take tk (pd_cons (v_ 1) (pd_cons (pd_bin op_powP pd_int pd_int) pd_nil)))) (pd_cons (pd_bin op_subP pd_int (c_ G__law_take ⟨rfl, rfl, rfl⟩ hr T.f__law_take tk (pd_cons (v_ 1) (pd_cons pd_int pd_nil)))) (pd_cons pd_int (pd_cons pd_bl (pd_cons pd_bl (pd_cons pd_str (pd_cons pd_non pd_nil))))))))) (pds_cons (pd_set (i := 6) sc_law.nd rfl (by first | exact .inl rfl | exact .inr rfl) (c_ G__law_pick ⟨rfl, rfl, rfl⟩ hr T.f__law_pick tk (pd_cons (v_ 1) (pd_cons (pd_bin (op_addP ⟨rfl, rfl, rfl⟩) (v_ 5) (pd_lst (pd_cons (pd_lst (pd_cons pd_int pd_nil)) (pd_cons (pd_tup (pd_cons pd_int pd_nil)) (pd_cons pd_dict0 (pd_cons (pd_bin op_powP pd_int pd_int) pd_nil)))))) pd_nil)))) (pds_one (pd_if (pd_tnot (pd_tval (by obtain ⟨fdN, FN, BN⟩ := DN; obtain ⟨oc, od, kV, doc, pm, an, cdv, ct', osl, rfl, lk, hcd⟩ := FN.ex; exact pd_lamcall (n := 9) (Ng := N__law_no_number) (k := 3) (gB := fun f c' σ => GB 9 "law.<locals>.<lambda>" (fCall 1 F_fewest_calls [] (fCons (fVar 6) fNil)) f c' σ) ⟨rfl, rfl, rfl⟩ rfl (by rfl) T.f__law_no_number FN.kp lk hcd BN sc__law_no_number rfl (.inl rfl) (fun f c' s H σ E hw hr2 Wg tkg => bd_nn T ctok hcatch 9 _ _ f c' σ _ _ _ s H E hw Wg hr2 tkg) (fun cs M r h f c' σ => post_ok h) TB rfl hmT hu2 (hr.mono (by decide)) (LamX.lamS_by (by show LamX.lamSB (defScope (top 32)) _ = true; decide +kernel)) rfl (fun _ _ _ _ _ => rfl) (fun A outer s H E f c' hr3 => c_ G_fewest_calls ⟨rfl, rfl, rfl⟩ hr3 T.f_fewest_calls (takes_of rfl rfl rfl rfl) (pd_cons (v_ 6) pd_nil)) tk))) (pds_one (pd_ret pd_bl)) pds_nil))))))))) (pds_cons (pd_set (i := 3) sc_law.nd rfl (by first | exact .inl rfl | exact .inr rfl) (pd_bin (op_addP ⟨rfl, rfl, rfl⟩) pd_int (c_ G__law_take ⟨rfl, rfl, rfl⟩ hr T.f__law_take tk (pd_cons (v_ 1) (pd_cons pd_int pd_nil))))) (pds_one (pd_ret (pd_cmp (op_eqP ⟨rfl, rfl, rfl⟩ hu) (c_ G_fewest_calls ⟨rfl, rfl, rfl⟩ hr T.f_fewest_calls tk (pd_cons (v_ 3) pd_nil)) (c_ G__law_tried ⟨rfl, rfl, rfl⟩ hr T.f__law_tried tk (pd_cons (v_ 3) pd_nil)) (by rfl)))))))
end K16

-- Q1
namespace K16
open PySem L2 Pl
abbrev kS (x : String) : Key := .inr (PySem.Str.ofString x)
def iE (i : Int) : E := .p (.int i)
def dr (g : Nat) (cs : List Int) (r t m : Int) : List (Key × E) := [(kS "great", .r g), (kS "cells", .p (.lst (cs.map .int))), (kS "rest", iE r), (kS "turn", iE t), (kS "more", iE m)]
theorem g1 (g : Nat) (cs : List Int) (r t m : Int) : getD (dr g cs r t m) (kS "great") = some (.r g) := by rfl
theorem g2 (g : Nat) (cs : List Int) (r t m : Int) : getD (dr g cs r t m) (kS "cells") = some (.p (.lst (cs.map .int))) := by rfl
theorem g3 (g : Nat) (cs : List Int) (r t m : Int) : getD (dr g cs r t m) (kS "rest") = some (iE r) := by rfl
theorem g4 (g : Nat) (cs : List Int) (r t m : Int) : getD (dr g cs r t m) (kS "turn") = some (iE t) := by rfl
theorem g5 (g : Nat) (cs : List Int) (r t m : Int) : getD (dr g cs r t m) (kS "more") = some (iE m) := by rfl
theorem s3 (g : Nat) (cs : List Int) (r t m x : Int) : setD (dr g cs r t m) (kS "rest") (iE x) = dr g cs x t m := by rfl
theorem s4 (g : Nat) (cs : List Int) (r t m x : Int) : setD (dr g cs r t m) (kS "turn") (iE x) = dr g cs r x m := by rfl
theorem s5 (g : Nat) (cs : List Int) (r t m x : Int) : setD (dr g cs r t m) (kS "more") (iE x) = dr g cs r t x := by rfl
theorem ko (g : Nat) (cs : List Int) (r t m : Int) : keysOk (dr g cs r t m) = true := by rfl
theorem eqI (M : Store) (i j : Int) : pyEq M (iE i) (iE j) = some (decide (i = j)) := by
  show (if min 0 0 ≤ 60 then some (i == j) else none) = _
  rfl
theorem ltI (M : Store) (i j : Int) : pyLt M (iE i) (iE j) = some (decide (i < j)) := rfl
theorem leI (M : Store) (i j : Int) : pyLe M (iE i) (iE j) = some (decide (i ≤ j)) := rfl
end K16

-- Q2
namespace K16
open PySem L2 Pl
/-- the draw: its cell, the cell of its great ones -/
structure Dr (M : Store) (k g : Nat) (gs cs : List Int) (r t m : Int) : Prop where
  a : M[k]? = some (some (.dic (dr g cs r t m)))
  b : M[g]? = some (some (.lst (gs.map iE)))
  ne : g ≠ k
section
variable {M : Store} {k g : Nat} {gs cs : List Int} {r t m : Int} {ρ : Pl.Env}
theorem dget_ev {x : String} {D : List (Key × E)} {e : E} (hρ : ρ[0]? = some (some (.r k))) (hM : M[k]? = some (some (.dic D))) (hx : getD D (kS x) = some e) : fBin gDGet (fVar 0) (fC (.str (PySem.Str.ofString x))) ρ M = some (.inr e, M) := by
  have h1 : fVar 0 ρ M = some (.inr (.r k), M) := by unfold fVar; rw [hρ]
  unfold fBin
  rw [h1]
  show lft (gDGet (.r k) (.p (.str (PySem.Str.ofString x))) M) = _
  have h2 : gDGet (.r k) (.p (.str (PySem.Str.ofString x))) M = some (e, M) := by
    unfold gDGet asDic asKey
    simp only [hM, hx]
  rw [h2]
  rfl
theorem dput_ev {x : String} {D : List (Key × E)} {v : E} {fv : FE} {M1 : Store} (hρ : ρ[0]? = some (some (.r k))) (hv : fv ρ M = some (.inr v, M1)) (hM : M1[k]? = some (some (.dic D))) (hl : D.length < 16777216) (hk : keysOk D = true) :
    gDPut (fVar 0) (fC (.str (PySem.Str.ofString x))) fv ρ M = some (.nx ρ, M1.set k (some (.dic (setD D (kS x) v)))) := by
  unfold gDPut stx
  rw [hv]
  have h1 : fVar 0 ρ M1 = some (.inr (.r k), M1) := by unfold fVar; rw [hρ]
  simp only [h1]
  show (match M1[k]? with | some (some (.dic es)) => if es.length < 16777216 ∧ keysOk es = true then some (Fl.nx ρ, M1.set k (some (.dic (setD es (kS x) v)))) else none | _ => none) = _
  rw [hM]
  simp only [hl, hk, and_self, if_true]
theorem Dr.put (d : Dr M k g gs cs r t m) {r' t' m' : Int} : Dr (M.set k (some (.dic (dr g cs r' t' m')))) k g gs cs r' t' m' := by
  have hk : k < M.length := (List.getElem?_eq_some_iff.mp d.a).1
  exact ⟨by rw [List.getElem?_set_self hk], by rw [List.getElem?_set_ne (Ne.symm d.ne)]; exact d.b, d.ne⟩
abbrev tW : FT := fAndT (fTst (fBin gEq (fBin gDGet (fVar 0) (fC (.str (PySem.Str.ofString "rest")))) (fC (.int 0)))) (fTst (fBin gNe (fBin gDGet (fVar 0) (fC (.str (PySem.Str.ofString "great")))) (fLst false (fNil))))
abbrev gW : FS := gDPut (fVar 0) (fC (.str (PySem.Str.ofString "rest"))) (fBM isL gPop0 (fBin gDGet (fVar 0) (fC (.str (PySem.Str.ofString "great")))) (fCons (fC (.int 0)) (fNil)))
theorem bin_ev {g2 : G2} {fa fb : FE} {x y e : E} {M1 M2 M3 : Store} (ha : fa ρ M = some (.inr x, M1)) (hb : fb ρ M1 = some (.inr y, M2)) (hg : g2 x y M2 = some (e, M3)) : fBin g2 fa fb ρ M = some (.inr e, M3) := by
  unfold fBin
  rw [ha]
  show bnd (fb ρ M1) _ = _
  rw [hb]
  show lft (g2 x y M2) = _
  rw [hg]
  rfl
theorem tst_ev {f : FE} {b : Bool} {M1 : Store} (h : f ρ M = some (.inr (.p (.bl b)), M1)) : fTst f ρ M = some (.inr b, M1) := by
  unfold fTst
  rw [h]
  rfl
theorem neL {es : List Int} (hg : M[g]? = some (some (.lst (es.map iE)))) : pyEq M (.r g) (.p (.lst [])) = some (decide (es = [])) := by
  have h1 : ∀ l : List Int, asPs (l.map iE) = some (l.map .int) := fun l => by
    induction l with
    | nil => rfl
    | cons a l ih => show asPs (.p (.int a) :: l.map iE) = _; unfold asPs; rw [ih]; rfl
  have h2 : ∀ l : List Int, toPys (l.map .int) = some (l.map .int) := fun l => by
    induction l with
    | nil => rfl
    | cons a l ih => show toPys (.int a :: l.map .int) = _; unfold toPys; rw [ih]; rfl
  have h3 : toPyE M (.r g) = some (.list (es.map .int)) := by
    show cellPy M[g]? = _
    rw [hg]
    unfold cellPy
    simp only [h1, h2, Option.map_some]
  unfold pyEq
  rw [h3]
  cases es with
  | nil => rfl
  | cons a l =>
    show (if min _ (PyData.depth (.list [])) ≤ 60 then _ else none) = _
    rw [if_pos (Nat.le_trans (Nat.min_le_right _ _) (by decide))]
    rfl
theorem tW_ev (hρ : ρ[0]? = some (some (.r k))) (d : Dr M k g gs cs r t m) : tW ρ M = some (.inr (decide (r = 0) && !decide (gs = [])), M) := by
  have h1 : fTst (fBin gEq (fBin gDGet (fVar 0) (fC (.str (PySem.Str.ofString "rest")))) (fC (.int 0))) ρ M = some (.inr (decide (r = 0)), M) :=
    tst_ev (bin_ev (dget_ev hρ d.a (g3 g cs r t m)) rfl (by unfold gEq; rw [show E.p (PD.int 0) = iE 0 from rfl, eqI]; rfl))
  have h2 : fTst (fBin gNe (fBin gDGet (fVar 0) (fC (.str (PySem.Str.ofString "great")))) (fLst false (fNil))) ρ M = some (.inr (!decide (gs = [])), M) :=
    tst_ev (bin_ev (dget_ev hρ d.a (g1 g cs r t m)) (y := .p (.lst [])) rfl (by unfold gNe; rw [neL d.b]; rfl))
  unfold tW fAndT
  rw [h1]
  show (if decide (r = 0) = true then fTst (fBin gNe (fBin gDGet (fVar 0) (fC (.str (PySem.Str.ofString "great")))) (fLst false (fNil))) ρ M else some (.inr false, M)) = _
  by_cases hr : r = 0
  · simp only [hr, decide_true, if_true, Bool.true_and]; exact h2
  · simp only [hr, decide_false, Bool.false_and]; rfl
theorem gW_ev {x : Int} (hρ : ρ[0]? = some (some (.r k))) (d : Dr M k g (x :: gs) cs r t m) : ∃ M', gW ρ M = some (.nx ρ, M') ∧ Dr M' k g gs cs x t m ∧ M'.length = M.length ∧ ∀ j, j ≠ k → j ≠ g → M'[j]? = M[j]? := by
  have hg : g < M.length := (List.getElem?_eq_some_iff.mp d.b).1
  have hb : M[g]? = some (some (.lst (iE x :: gs.map iE))) := d.b
  have h1 : fBM isL gPop0 (fBin gDGet (fVar 0) (fC (.str (PySem.Str.ofString "great")))) (fCons (fC (.int 0)) (fNil)) ρ M = some (.inr (iE x), M.set g (some (.lst (gs.map iE)))) := by
    unfold fBM
    rw [dget_ev hρ d.a (g1 g cs r t m)]
    have h2 : isL M (.r g) = true := by
      show (match M[g]? with | some (some (.lst es)) => some es | _ => none).isSome = true
      rw [hb]; rfl
    show (if isL M (.r g) = true then bnd (fCons (fC (.int 0)) fNil ρ M) _ else none) = _
    rw [if_pos h2]
    show lft (gPop0 (.r g) [.p (.int 0)] M) = _
    have h3 : gPop0 (.r g) [.p (.int 0)] M = some (iE x, M.set g (some (.lst (gs.map iE)))) := by
      show (match M[g]? with | some (some (.lst (e :: es))) => some (e, M.set g (some (.lst es))) | _ => none) = _
      rw [hb]
    rw [h3]
    rfl
  have ha : (M.set g (some (.lst (gs.map iE))))[k]? = some (some (.dic (dr g cs r t m))) := by rw [List.getElem?_set_ne d.ne]; exact d.a
  refine ⟨_, dput_ev hρ h1 ha (by show 5 < _; decide) (ko g cs r t m), ?_, by simp, fun j hk hg' => ?_⟩
  · rw [s3]
    have d1 : Dr (M.set g (some (.lst (gs.map iE)))) k g gs cs r t m := ⟨ha, by rw [List.getElem?_set_self hg], d.ne⟩
    exact d1.put
  · rw [List.getElem?_set_ne (Ne.symm hk), List.getElem?_set_ne (Ne.symm hg')]
/-- the while: great ones are taken till there is a rest -/
theorem while_ev (hρ : ρ[0]? = some (some (.r k))) : ∀ (n : Nat) (M : Store) (gs : List Int) (r : Int), gs.length < n → 0 ≤ r → (∀ x ∈ gs, 0 ≤ x) → Dr M k g gs cs r t m → ∃ M' gs' r', whileN tW gW n ρ M = some (.nx ρ, M') ∧ Dr M' k g gs' cs r' t m ∧ 0 ≤ r' ∧ gs'.length ≤ gs.length ∧ (∀ x ∈ gs', 0 ≤ x) ∧ M'.length = M.length ∧ ∀ j, j ≠ k → j ≠ g → M'[j]? = M[j]?
  | 0, M, gs, r, h, _, _, _ => absurd h (by omega)
  | n + 1, M, gs, r, h, hr, hp, d => by
    unfold whileN
    rw [tW_ev hρ d]
    cases gs with
    | nil =>
      refine ⟨M, [], r, ?_, d, hr, Nat.le_refl _, hp, rfl, fun _ _ _ => rfl⟩
      simp [stx]
    | cons x gs =>
      by_cases e : r = 0
      · obtain ⟨M1, e1, d1, l1, f1⟩ := gW_ev hρ d
        obtain ⟨M', gs', r', e2, d2, h2, h3, h4, h5, h6⟩ := while_ev hρ n M1 gs x (by simp at h; omega) (hp x List.mem_cons_self) (fun y hy => hp y (List.mem_cons_of_mem _ hy)) d1
        refine ⟨M', gs', r', ?_, d2, h2, by simp; omega, h4, h5.trans l1, fun j a b => (h6 j a b).trans (f1 j a b)⟩
        simp only [stx, e, decide_true, Bool.true_and]
        rw [e1]
        exact e2
      · refine ⟨M, x :: gs, r, ?_, d, hr, Nat.le_refl _, hp, rfl, fun _ _ _ => rfl⟩
        simp [stx, e]
end
end K16

-- Q3
namespace K16
open PySem L2 Pl
section
variable {M : Store} {k g : Nat} {gs cs : List Int} {r t m : Int} {ρ : Pl.Env}
theorem add_ev {fa fb : FE} {x y : Int} {M1 M2 : Store} (ha : fa ρ M = some (.inr (iE x), M1)) (hb : fb ρ M1 = some (.inr (iE y), M2)) : fBin (gAdd false) fa fb ρ M = some (.inr (iE (x + y)), M2) := bin_ev ha hb rfl
theorem mul_ev {fa fb : FE} {x y : Int} {M1 M2 : Store} (ha : fa ρ M = some (.inr (iE x), M1)) (hb : fb ρ M1 = some (.inr (iE y), M2)) (h : (-(2 ^ 64) < x ∧ x < 2 ^ 64) ∨ (-(2 ^ 64) < y ∧ y < 2 ^ 64)) : fBin (gMul false) fa fb ρ M = some (.inr (iE (x * y)), M2) := bin_ev ha hb (by
  show (match (match iMul x y with | some k => some (E.p (PD.int k), M2) | none => none) with | some r => some r | none => gMulL false (iE x) (iE y) M2) = _
  unfold iMul; rw [if_pos h]; rfl)
theorem sub_ev {fa fb : FE} {x y : Int} {M1 M2 : Store} (ha : fa ρ M = some (.inr (iE x), M1)) (hb : fb ρ M1 = some (.inr (iE y), M2)) : fBin (gI2 iSub) fa fb ρ M = some (.inr (iE (x - y)), M2) := bin_ev ha hb rfl
theorem mod_ev {fa fb : FE} {x y : Int} {M1 M2 : Store} (ha : fa ρ M = some (.inr (iE x), M1)) (hb : fb ρ M1 = some (.inr (iE y), M2)) (h : 0 < y) : fBin (gI2 iMod) fa fb ρ M = some (.inr (iE (x % y)), M2) := bin_ev ha hb (by
  show (match iMod x y with | some k => some (E.p (PD.int k), M2) | none => none) = _
  unfold iMod; rw [if_pos h]; rfl)
theorem div_ev {fa fb : FE} {x y : Int} {M1 M2 : Store} (ha : fa ρ M = some (.inr (iE x), M1)) (hb : fb ρ M1 = some (.inr (iE y), M2)) (h : 0 < y) (h2 : y < 1073741824) : fBin (gI2 iFdiv) fa fb ρ M = some (.inr (iE (x / y)), M2) := bin_ev ha hb (by
  show (match iFdiv x y with | some k => some (E.p (PD.int k), M2) | none => none) = _
  unfold iFdiv; rw [if_pos ⟨h, h2⟩]; rfl)
theorem var_ev {i : Nat} {e : E} (h : ρ[i]? = some (some e)) : fVar i ρ M = some (.inr e, M) := by unfold fVar; rw [h]
theorem c_ev {d : PD} : fC d ρ M = some (.inr (.p d), M) := rfl
theorem gt_ev {fa fb : FE} {x y : Int} {M1 M2 : Store} (ha : fa ρ M = some (.inr (iE x), M1)) (hb : fb ρ M1 = some (.inr (iE y), M2)) : fTst (fBin gGt fa fb) ρ M = some (.inr (decide (y < x)), M2) := tst_ev (bin_ev ha hb rfl)
theorem lt_ev {fa fb : FE} {x y : Int} {M1 M2 : Store} (ha : fa ρ M = some (.inr (iE x), M1)) (hb : fb ρ M1 = some (.inr (iE y), M2)) : fTst (fBin gLt fa fb) ρ M = some (.inr (decide (x < y)), M2) := tst_ev (bin_ev ha hb rfl)
theorem eq_ev {fa fb : FE} {x y : Int} {M1 M2 : Store} (ha : fa ρ M = some (.inr (iE x), M1)) (hb : fb ρ M1 = some (.inr (iE y), M2)) : fTst (fBin gEq fa fb) ρ M = some (.inr (decide (x = y)), M2) := tst_ev (bin_ev ha hb (by unfold gEq; rw [eqI]; rfl))
theorem set_ev {i : Nat} {f : FE} {e : E} {M1 : Store} (h : f ρ M = some (.inr e, M1)) : gSet i f ρ M = some (.nx (ρ.set i (some e)), M1) := by unfold gSet; rw [h]; rfl
theorem ret_ev {f : FE} {e : E} {M1 : Store} (h : f ρ M = some (.inr e, M1)) : gRet f ρ M = some (.rt e, M1) := by unfold gRet; rw [h]; rfl
theorem seq_ev {g1 g2 : FS} {ρ1 : Pl.Env} {M1 : Store} (h : g1 ρ M = some (.nx ρ1, M1)) : gSeq g1 g2 ρ M = g2 ρ1 M1 := by unfold gSeq; rw [h]
theorem seq_rt {g1 g2 : FS} {e : E} {M1 : Store} (h : g1 ρ M = some (.rt e, M1)) : gSeq g1 g2 ρ M = some (.rt e, M1) := by unfold gSeq; rw [h]
theorem if_t {f : FT} {g1 g2 : FS} {M1 : Store} (h : f ρ M = some (.inr true, M1)) : gIf f g1 g2 ρ M = g1 ρ M1 := by unfold gIf; rw [h]; rfl
theorem if_f {f : FT} {g1 g2 : FS} {M1 : Store} (h : f ρ M = some (.inr false, M1)) : gIf f g1 g2 ρ M = g2 ρ M1 := by unfold gIf; rw [h]; rfl
/-- the cells, a frozen list of ints -/
theorem toPys_ints : ∀ l : List Int, toPys (l.map .int) = some (l.map .int)
  | [] => rfl
  | a :: l => by show toPys (.int a :: l.map .int) = _; unfold toPys; rw [toPys_ints l]; rfl
theorem neF {es : List Int} : pyEq M (.p (.lst (es.map .int))) (.p (.lst [])) = some (decide (es = [])) := by
  have h3 : toPyE M (.p (.lst (es.map .int))) = some (.list (es.map .int)) := by
    show toPy _ = _
    unfold toPy
    rw [toPys_ints]; rfl
  unfold pyEq
  rw [h3]
  cases es with
  | nil => rfl
  | cons a l =>
    show (if min _ (PyData.depth (.list [])) ≤ 60 then _ else none) = _
    rw [if_pos (Nat.le_trans (Nat.min_le_right _ _) (by decide))]
    rfl
end
end K16

-- Q4
namespace K16
open PySem L2 Pl
theorem atI_lt {α : Type} {xs : List α} {i : Int} (h0 : 0 ≤ i) (h1 : i < xs.length) : atI xs i = some (xs[i.toNat]'(by omega)) := by
  unfold atI ixN
  rw [if_pos h0, if_pos h1]
  show xs[i.toNat]? = _
  rw [List.getElem?_eq_getElem]
theorem fn_rt {N : Nat} {g : FS} {es : List E} {M M' : Store} {e : E} (h : g (es.map some ++ List.replicate (N - es.length) none) M = some (.rt e, M')) : fnOf N g es M = some (.inr e, M') := by unfold fnOf; rw [h]
/-- the draw stands well -/
def DrOk (M : Store) (k : Nat) : Prop := ∃ g gs cs r t m, Dr M k g gs cs r t m ∧ 0 ≤ r ∧ gs.length ≤ 63 ∧ (∀ x ∈ gs, 0 ≤ x) ∧ 0 ≤ m ∧ m < 2147483647
/-- all but the draw is kept -/
def Kept (k : Nat) (M M' : Store) : Prop := M'.length = M.length ∧ ∀ j (c : Cell), M[j]? = some (some c) → j ≠ k → (∀ es : List Int, c ≠ .lst (es.map iE)) → M'[j]? = some (some c)
theorem draw_mod (n : Int) (h : 0 < n) (a b : Int) : 0 ≤ a % n ∧ a % n < n := ⟨Int.emod_nonneg _ (by omega), Int.emod_lt_of_pos _ h⟩
theorem take_ok {M : Store} {k : Nat} {n : Int} (hn : 0 < n) (hn2 : n < 1073741824) (d : DrOk M k) : ∃ x M', F__law_take [.r k, iE n] M = some (.inr (iE x), M') ∧ 0 ≤ x ∧ x < n ∧ DrOk M' k ∧ Kept k M M' := by
  obtain ⟨g, gs, cs, r, t, m, D, hr, hg, hp, hm0, hm1⟩ := d
  obtain ⟨M1, gs1, r1, e1, D1, hr1, hg1, hp1, l1, f1⟩ := while_ev (ρ := [some (.r k), some (iE n), none, none, none]) rfl 100 M gs r (by omega) hr hp D
  have kept1 : ∀ (M2 : Store), M2.length = M1.length → (∀ j, j ≠ k → M2[j]? = M1[j]?) → Kept k M M2 := fun M2 hl hj => ⟨hl.trans l1, fun j c hc hk hc2 => by
    have ng : j ≠ g := fun e => by
      rw [e, D.b] at hc
      exact hc2 gs (Option.some.inj (Option.some.inj hc)).symm
    rw [hj j hk, f1 j hk ng]; exact hc⟩
  have rest1 : fBin gDGet (fVar 0) (fC (.str (PySem.Str.ofString "rest"))) [some (.r k), some (iE n), none, none, none] M1 = some (.inr (iE r1), M1) := dget_ev rfl D1.a (g3 g cs r1 t m)
  suffices hs : ∃ x M', B__law_take [some (.r k), some (iE n), none, none, none] M = some (.rt (iE x), M') ∧ 0 ≤ x ∧ x < n ∧ DrOk M' k ∧ Kept k M M' by
    obtain ⟨x, M', e, q⟩ := hs
    exact ⟨x, M', fn_rt (N := 5) (es := [.r k, iE n]) e, q⟩
  unfold B__law_take
  rw [seq_ev (show gWhile (fun _ _ => 100) tW gW [some (.r k), some (iE n), none, none, none] M = _ from e1)]
  by_cases hpos : 0 < r1
  · have t1 := gt_ev rest1 (c_ev (d := .int 0))
    rw [decide_eq_true hpos] at t1
    have hsel := if_t (g1 := gSeq (gSet 4 (fBin (gI2 iMod) (fBin gDGet (fVar 0) (fC (.str (PySem.Str.ofString "rest")))) (fVar 1))) (gSeq (gDPut (fVar 0) (fC (.str (PySem.Str.ofString "rest"))) (fBin (gI2 iFdiv) (fBin gDGet (fVar 0) (fC (.str (PySem.Str.ofString "rest")))) (fVar 1))) (gRet (fVar 4)))) (g2 := gNext) t1
    have a1 := set_ev (i := 4) (mod_ev rest1 (var_ev (i := 1) (e := iE n) rfl) hn)
    have rest2 : fBin gDGet (fVar 0) (fC (.str (PySem.Str.ofString "rest"))) [some (.r k), some (iE n), none, none, some (iE (r1 % n))] M1 = some (.inr (iE r1), M1) := dget_ev rfl D1.a (g3 g cs r1 t m)
    have a2 := dput_ev (ρ := [some (.r k), some (iE n), none, none, some (iE (r1 % n))]) (k := k) (x := "rest") rfl (div_ev rest2 (var_ev (i := 1) (e := iE n) rfl) hn hn2) D1.a (by show 5 < _; decide) (ko g cs r1 t m)
    rw [s3] at a2
    refine ⟨r1 % n, _, ?_, (draw_mod n hn r1 0).1, (draw_mod n hn r1 0).2, ⟨g, gs1, cs, r1 / n, t, m, D1.put, Int.ediv_nonneg hr1 (by omega), by omega, hp1, hm0, hm1⟩, kept1 (M1.set k (some (.dic (dr g cs (r1 / n) t m)))) (by simp) fun j hk => by rw [List.getElem?_set_ne (Ne.symm hk)]⟩
    rw [seq_rt (e := iE (r1 % n)) (M1 := M1.set k (some (.dic (dr g cs (r1 / n) t m))))]
    rw [hsel, seq_ev a1]
    exact (seq_ev (ρ := [some (.r k), some (iE n), none, none, some (iE (r1 % n))]) a2).trans (ret_ev (var_ev rfl))
  · have t1 := gt_ev rest1 (c_ev (d := .int 0))
    rw [decide_eq_false hpos] at t1
    rw [seq_ev (if_f t1)]
    rw [seq_ev (show gSet 2 (fC (.int 0)) [some (.r k), some (iE n), none, none, none] M1 = some (.nx [some (.r k), some (iE n), some (iE 0), none, none], M1) from rfl)]
    obtain ⟨c, hc⟩ : ∃ c, gIf (fTst (fBin gNe (fBin gDGet (fVar 0) (fC (.str (PySem.Str.ofString "cells")))) (fLst false (fNil)))) (gSet 2 (fBin gIx (fBin gDGet (fVar 0) (fC (.str (PySem.Str.ofString "cells")))) (fBin (gI2 iMod) (fBin gDGet (fVar 0) (fC (.str (PySem.Str.ofString "turn")))) (fCallB gLen (fCons (fBin gDGet (fVar 0) (fC (.str (PySem.Str.ofString "cells")))) (fNil)))))) (gNext) [some (.r k), some (iE n), some (iE 0), none, none] M1 = some (.nx [some (.r k), some (iE n), some (iE c), none, none], M1) := by
      have cl : fBin gDGet (fVar 0) (fC (.str (PySem.Str.ofString "cells"))) [some (.r k), some (iE n), some (iE 0), none, none] M1 = some (.inr (.p (.lst (cs.map .int))), M1) := dget_ev rfl D1.a (g2 g cs r1 t m)
      have tu : fBin gDGet (fVar 0) (fC (.str (PySem.Str.ofString "turn"))) [some (.r k), some (iE n), some (iE 0), none, none] M1 = some (.inr (iE t), M1) := dget_ev rfl D1.a (g4 g cs r1 t m)
      have h2 : fTst (fBin gNe (fBin gDGet (fVar 0) (fC (.str (PySem.Str.ofString "cells")))) (fLst false (fNil))) [some (.r k), some (iE n), some (iE 0), none, none] M1 = some (.inr (!decide (cs = [])), M1) :=
        tst_ev (bin_ev cl (y := .p (.lst [])) rfl (by unfold gNe; rw [neF]; rfl))
      by_cases he : cs = []
      · rw [decide_eq_true he] at h2
        exact ⟨0, (if_f h2).trans rfl⟩
      · rw [decide_eq_false he] at h2
        have lp : 0 < (cs.length : Int) := by
          have := List.length_pos_iff.mpr he
          omega
        have ln : fCallB gLen (fCons (fBin gDGet (fVar 0) (fC (.str (PySem.Str.ofString "cells")))) (fNil)) [some (.r k), some (iE n), some (iE 0), none, none] M1 = some (.inr (iE cs.length), M1) := by
          unfold fCallB fCons
          rw [cl]
          show some (Sum.inr (E.p (PD.int ((cs.map PD.int).length : Int))), M1) = _
          rw [List.length_map]; rfl
        obtain ⟨a1, a2⟩ := draw_mod cs.length lp t 0
        have hlt : (t % (cs.length : Int)).toNat < cs.length := by omega
        have ix : gIx (.p (.lst (cs.map .int))) (iE (t % (cs.length : Int))) M1 = some (iE (cs[(t % (cs.length : Int)).toNat]'hlt), M1) := by
          have e1 : atI ((cs.map PD.int).map E.p) (t % (cs.length : Int)) = some (iE (cs[(t % (cs.length : Int)).toNat]'hlt)) := by
            rw [atI_lt a1 (by simpa using a2)]
            simp [iE]
          show (match (match atI ((cs.map PD.int).map E.p) (t % (cs.length : Int)) with | some e => some (e, M1) | none => none) with | some r => some r | none => _) = _
          rw [e1]
        exact ⟨_, (if_t h2).trans (set_ev (bin_ev cl (mod_ev tu ln lp) ix))⟩
    rw [seq_ev hc]
    have tu : fBin gDGet (fVar 0) (fC (.str (PySem.Str.ofString "turn"))) [some (.r k), some (iE n), some (iE c), none, none] M1 = some (.inr (iE t), M1) := dget_ev rfl D1.a (g4 g cs r1 t m)
    have b1 := dput_ev (ρ := [some (.r k), some (iE n), some (iE c), none, none]) (k := k) (x := "turn") rfl (add_ev tu (c_ev (d := .int 1))) D1.a (by show 5 < _; decide) (ko g cs r1 t m)
    rw [s4] at b1
    rw [seq_ev b1]
    have D2 : Dr (M1.set k (some (.dic (dr g cs r1 (t + 1) m)))) k g gs1 cs r1 (t + 1) m := D1.put
    have hM2 : (M1.set k (some (.dic (dr g cs r1 (t + 1) m)))).length = M1.length := by simp
    have fM2 : ∀ j, j ≠ k → (M1.set k (some (.dic (dr g cs r1 (t + 1) m))))[j]? = M1[j]? := fun j hk => by rw [List.getElem?_set_ne (Ne.symm hk)]
    generalize M1.set k (some (.dic (dr g cs r1 (t + 1) m))) = M2 at D2 hM2 fM2 ⊢
    have mo : fBin gDGet (fVar 0) (fC (.str (PySem.Str.ofString "more"))) [some (.r k), some (iE n), some (iE c), none, none] M2 = some (.inr (iE m), M2) := dget_ev rfl D2.a (g5 g cs r1 (t + 1) m)
    have tu2 : fBin gDGet (fVar 0) (fC (.str (PySem.Str.ofString "turn"))) [some (.r k), some (iE n), some (iE c), none, none] M2 = some (.inr (iE (t + 1)), M2) := dget_ev rfl D2.a (g4 g cs r1 (t + 1) m)
    have w1 : fBin (gI2 iMod) (fBin (gAdd false) (fBin (gAdd false) (fBin (gMul false) (fBin gDGet (fVar 0) (fC (.str (PySem.Str.ofString "more")))) (fC (.int 48271))) (fVar 2)) (fBin (gMul false) (fC (.int 7919)) (fBin gDGet (fVar 0) (fC (.str (PySem.Str.ofString "turn")))))) (fC (.int 2147483647)) [some (.r k), some (iE n), some (iE c), none, none] M2 = some (.inr (iE ((m * 48271 + c + 7919 * (t + 1)) % 2147483647)), M2) :=
      mod_ev (add_ev (add_ev (mul_ev mo (c_ev (d := .int 48271)) (.inr (by decide))) (var_ev (i := 2) (e := iE c) rfl)) (mul_ev (c_ev (d := .int 7919)) tu2 (.inl (by decide)))) (c_ev (d := .int 2147483647)) (by decide)
    obtain ⟨p1, p2⟩ := draw_mod 2147483647 (by decide) (m * 48271 + c + 7919 * (t + 1)) 0
    generalize (m * 48271 + c + 7919 * (t + 1)) % 2147483647 = m2 at w1 p1 p2
    have b2 := dput_ev (ρ := [some (.r k), some (iE n), some (iE c), none, none]) (k := k) (x := "more") rfl w1 D2.a (by show 5 < _; decide) (ko g cs r1 (t + 1) m)
    rw [s5] at b2
    rw [seq_ev b2]
    have D3 : Dr (M2.set k (some (.dic (dr g cs r1 (t + 1) m2)))) k g gs1 cs r1 (t + 1) m2 := D2.put
    have hM3 : (M2.set k (some (.dic (dr g cs r1 (t + 1) m2)))).length = M1.length := by simp [hM2]
    have fM3 : ∀ j, j ≠ k → (M2.set k (some (.dic (dr g cs r1 (t + 1) m2))))[j]? = M1[j]? := fun j hk => by rw [List.getElem?_set_ne (Ne.symm hk)]; exact fM2 j hk
    generalize M2.set k (some (.dic (dr g cs r1 (t + 1) m2))) = M3 at D3 hM3 fM3 ⊢
    have mo3 : fBin gDGet (fVar 0) (fC (.str (PySem.Str.ofString "more"))) [some (.r k), some (iE n), some (iE c), none, none] M3 = some (.inr (iE m2), M3) := dget_ev rfl D3.a (g5 g cs r1 (t + 1) m2)
    have w2 : fBin (gI2 iMod) (fBin (gAdd false) (fBin (gAdd false) (fBin (gMul false) (fBin gDGet (fVar 0) (fC (.str (PySem.Str.ofString "more")))) (fBin gDGet (fVar 0) (fC (.str (PySem.Str.ofString "more"))))) (fBin (gMul false) (fC (.int 16807)) (fBin gDGet (fVar 0) (fC (.str (PySem.Str.ofString "more")))))) (fC (.int 11))) (fC (.int 2147483629)) [some (.r k), some (iE n), some (iE c), none, none] M3 = some (.inr (iE ((m2 * m2 + 16807 * m2 + 11) % 2147483629)), M3) :=
      mod_ev (add_ev (add_ev (mul_ev mo3 mo3 (.inl (by omega))) (mul_ev (c_ev (d := .int 16807)) mo3 (.inl (by decide)))) (c_ev (d := .int 11))) (c_ev (d := .int 2147483629)) (by decide)
    obtain ⟨p3, p4⟩ := draw_mod 2147483629 (by decide) (m2 * m2 + 16807 * m2 + 11) 0
    generalize (m2 * m2 + 16807 * m2 + 11) % 2147483629 = x at w2 p3 p4
    rw [seq_ev (set_ev (i := 3) w2)]
    have w3 : fBin (gI2 iMod) (fBin (gI2 iFdiv) (fBin (gI2 iMod) (fBin (gMul false) (fVar 3) (fVar 3)) (fC (.int 2147483587))) (fC (.int 7))) (fVar 1) [some (.r k), some (iE n), some (iE c), some (iE x), none] M3 = some (.inr (iE (x * x % 2147483587 / 7 % n)), M3) :=
      mod_ev (div_ev (mod_ev (mul_ev (var_ev (i := 3) (e := iE x) rfl) (var_ev (i := 3) (e := iE x) rfl) (.inl (by omega))) (c_ev (d := .int 2147483587)) (by decide)) (c_ev (d := .int 7)) (by decide) (by decide)) (var_ev (i := 1) (e := iE n) rfl) hn
    exact ⟨_, _, ret_ev w3, (draw_mod n hn _ 0).1, (draw_mod n hn _ 0).2, ⟨g, gs1, cs, r1, t + 1, m2, D3, hr1, by omega, hp1, p1, p2⟩, kept1 M3 hM3 fM3⟩
end K16

-- Q5
namespace K16
open PySem L2 Pl
section
variable {M : Store} {ρ : Pl.Env}
/-- a comprehension over data, nothing stored -/
theorem comp_drop {es : List E} {i : Nat} {tt : FT} {fe : FE} {p : E → Bool} {f : E → E} (ht : ∀ e ∈ es, tt (ρ.set i (some e)) M = some (.inr (p e), M)) (hf : ∀ e ∈ es, p e = true → fe (ρ.set i (some e)) M = some (.inr (f e), M)) :
    ∀ (k j : Nat), j + k = es.length → compN (fixIt es) (gtName i) tt fe k j ρ M = some (((es.drop j).filter p).map f, M)
  | 0, j, h => by
    unfold compN
    rw [List.drop_eq_nil_of_le (by omega)]
    rfl
  | k + 1, j, h => by
    have hj : j < es.length := by omega
    have hm : es[j] ∈ es := List.getElem_mem hj
    unfold compN
    have hg : (fixIt es).get j M = some es[j] := List.getElem?_eq_getElem hj
    rw [hg]
    have h1 := ht _ hm
    have e1 : gtName i es[j] ρ M = some (.inr (ρ.set i (some es[j])), M) := rfl
    simp only [e1, h1]
    rw [List.drop_eq_getElem_cons hj]
    cases hp : p es[j] with
    | true =>
      have h2 := hf _ hm hp
      simp only [h2, comp_drop ht hf k (j + 1) (by omega)]
      rw [List.filter_cons, if_pos hp]
      rfl
    | false =>
      simp only [comp_drop ht hf k (j + 1) (by omega)]
      rw [List.filter_cons, if_neg (by rw [hp]; simp)]
theorem comp_ev {m : Bool} {vs : List Nat} {fi : FI} {es : List E} {i : Nat} {tt : FT} {fe : FE} {p : E → Bool} {f : E → E} {r : E × Store} (hi : fi ρ M = some (.inr (fixIt es), M)) (hl : es.length ≤ 16777216) (ht : ∀ e ∈ es, tt ((wipeE ρ vs).set i (some e)) M = some (.inr (p e), M)) (hf : ∀ e ∈ es, p e = true → fe ((wipeE ρ vs).set i (some e)) M = some (.inr (f e), M))
    (hm : mkLst m ((es.filter p).map f) M = some r) : fComp m vs fi (gtName i) tt fe ρ M = some (.inr r.1, r.2) := by
  unfold fComp
  rw [hi]
  show (if (fixIt es).n ≤ 16777216 then _ else none) = _
  rw [if_pos (show (fixIt es).n ≤ 16777216 from hl)]
  show (match compN (fixIt es) (gtName i) tt fe es.length 0 (wipeE ρ vs) M with | some (es, M2) => lft (mkLst m es M2) | none => none) = _
  rw [comp_drop ht hf es.length 0 (by omega)]
  show lft (mkLst m ((es.drop 0).filter p |>.map f) M) = _
  rw [List.drop_zero, hm]
  rfl
theorem filter_yes {α : Type} (l : List α) : l.filter (fun _ => true) = l := List.filter_eq_self.mpr fun _ _ => rfl
theorem mk_ints (l : List Int) : mkLst false (l.map iE) M = some (.p (.lst (l.map .int)), M) := by
  have h1 : ∀ l : List Int, asPs (l.map iE) = some (l.map .int) := fun l => by
    induction l with
    | nil => rfl
    | cons a l ih => show asPs (.p (.int a) :: l.map iE) = _; unfold asPs; rw [ih]; rfl
  unfold mkLst
  rw [if_neg (by simp), h1]
end
theorem begun_ok (ns : List Int) (hl : ns.length ≤ 63) : ∃ k M', F__law_begun [.p (.scr (ns.map .int))] [] = some (.inr (.r k), M') ∧ DrOk M' k := by
  let cs := ns.map fun n => if n < 0 then -n else n
  let gs := cs.filter fun c => decide (10 ^ 18 ≤ c)
  have it : ∀ (l : List Int), (l.map PD.int).map E.p = l.map iE := fun l => by rw [List.map_map]; rfl
  have s1 : fComp false ([2] : List Nat) (fSeqIt (fVar 0)) (gtName 2) (fYes) (fCallB gAbs (fCons (fVar 2) (fNil))) [some (.p (.scr (ns.map .int))), none, none] [] = some (.inr (.p (.lst (cs.map .int))), []) := by
    refine comp_ev (es := ns.map iE) (p := fun _ => true) (f := fun e => match e with | .p (.int i) => iE (if i < 0 then -i else i) | e => e) (r := (.p (.lst (cs.map .int)), [])) ?_ (by rw [List.length_map]; omega) (fun _ _ => rfl) (fun e he _ => ?_) ?_
    · show some (Sum.inr (fixIt ((ns.map PD.int).map E.p)), ([] : Store)) = _
      rw [it]
    · obtain ⟨i, _, rfl⟩ := List.mem_map.mp he
      rfl
    · rw [filter_yes, List.map_map, show (ns.map ((fun e => match e with | E.p (.int i) => iE (if i < 0 then -i else i) | e => e) ∘ iE)) = cs.map iE from by show _ = (ns.map _).map iE; rw [List.map_map]; rfl]
      exact mk_ints cs
  have s2 : fComp true ([2] : List Nat) (fSeqIt (fVar 1)) (gtName 2) (fTst (fBin gGe (fVar 2) (fBin (gI2 iPow) (fC (.int 10)) (fC (.int 18))))) (fVar 2) [some (.p (.scr (ns.map .int))), some (.p (.lst (cs.map .int))), none] [] = some (.inr (.r 0), [some (.lst (gs.map iE))]) := by
    refine comp_ev (es := cs.map iE) (p := fun e => match e with | .p (.int i) => decide (10 ^ 18 ≤ i) | _ => false) (f := fun e => e) (r := (.r 0, [some (.lst (gs.map iE))])) ?_ (by rw [List.length_map, List.length_map]; omega) (fun e he => ?_) (fun e he _ => ?_) ?_
    · show some (Sum.inr (fixIt ((cs.map PD.int).map E.p)), ([] : Store)) = _
      rw [it]
    · obtain ⟨i, _, rfl⟩ := List.mem_map.mp he
      rfl
    · obtain ⟨i, _, rfl⟩ := List.mem_map.mp he
      rfl
    · rw [List.map_id']
      have : (cs.map iE).filter (fun e => match e with | .p (.int i) => decide (10 ^ 18 ≤ i) | _ => false) = gs.map iE := by
        rw [List.filter_map]; rfl
      rw [this]
      rfl
  have sum : B__law_begun [some (.p (.scr (ns.map .int))), none, none] [] = some (.rt (.r 1), [some (.lst (gs.map iE)), some (.dic (dr 0 cs 0 0 7))]) := by
    unfold B__law_begun
    refine (seq_ev (ρ1 := [some (.p (.scr (ns.map .int))), some (.p (.lst (cs.map .int))), none]) (M1 := []) (set_ev s1)).trans (ret_ev ?_)
    unfold fDict
    have : (fpCons (fC (.str (PySem.Str.ofString "great"))) (fComp true ([2] : List Nat) (fSeqIt (fVar 1)) (gtName 2) (fTst (fBin gGe (fVar 2) (fBin (gI2 iPow) (fC (.int 10)) (fC (.int 18))))) (fVar 2)) (fpCons (fC (.str (PySem.Str.ofString "cells"))) (fVar 1) (fpCons (fC (.str (PySem.Str.ofString "rest"))) (fC (.int 0)) (fpCons (fC (.str (PySem.Str.ofString "turn"))) (fC (.int 0)) (fpCons (fC (.str (PySem.Str.ofString "more"))) (fC (.int 7)) (fpNil)))))) [some (.p (.scr (ns.map .int))), some (.p (.lst (cs.map .int))), none] [] = some (.inr (dr 0 cs 0 0 7), [some (.lst (gs.map iE))]) := by
      unfold fpCons
      show bnd (fComp true _ _ _ _ _ _ _) _ = _
      rw [s2]
      rfl
    rw [this]
    rfl
  refine ⟨1, _, fn_rt (N := 3) (es := [.p (.scr (ns.map .int))]) sum, 0, gs, cs, 0, 0, 7, ⟨rfl, rfl, by decide⟩, by decide, ?_, fun x hx => ?_, by decide, by decide⟩
  · refine Nat.le_trans (List.length_filter_le _ _) ?_
    rw [List.length_map]; exact hl
  · have := (List.mem_filter.mp hx).2
    have : (10 : Int) ^ 18 ≤ x := by simpa using this
    have h2 : (0 : Int) ≤ 10 ^ 18 := by decide
    omega
end K16

-- Q6
namespace K16
open PySem L2 Pl
section
variable {M : Store} {ρ : Pl.Env}
theorem call_ev {n : Nat} {ff : FF} {fa : FA} {es : List E} {r : Sum Xn E × Store} {M1 : Store} (ha : fa ρ M = some (.inr es, M1)) (hl : es.length = n) (hf : ff es M1 = some r) : fCall n ff [] fa ρ M = some r := by
  unfold fCall
  rw [ha]
  show (if es.length + 0 = n then ff (es ++ []) M1 else none) = _
  rw [if_pos (show es.length + 0 = n from hl), List.append_nil, hf]
theorem cons_ev {fa : FE} {fr : FA} {e : E} {es : List E} {M1 M2 : Store} (ha : fa ρ M = some (.inr e, M1)) (hr : fr ρ M1 = some (.inr es, M2)) : fCons fa fr ρ M = some (.inr (e :: es), M2) := by
  unfold fCons
  rw [ha]
  show bnd (fr ρ M1) _ = _
  rw [hr]
  rfl
theorem nil_ev : fNil ρ M = some (.inr [], M) := rfl
theorem not_ev {f : FT} {b : Bool} {M1 : Store} (h : f ρ M = some (.inr b, M1)) : fNotT f ρ M = some (.inr (!b), M1) := by unfold fNotT; rw [h]; rfl
/-- a whole number within bounds -/
theorem whole_int (M : Store) (i a b : Int) : F_is_whole [iE i, iE a, iE b] M = some (.inr (.p (.bl (decide (a ≤ i) && decide (i ≤ b)))), M) := by
  have h : B_is_whole [some (iE i), some (iE a), some (iE b)] M = some (.rt (.p (.bl (decide (a ≤ i) && decide (i ≤ b)))), M) := by
    unfold B_is_whole
    refine ret_ev ?_
    show (match some (decide (a ≤ i)) with | some true => _ | some false => _ | none => _) = _
    cases h1 : decide (a ≤ i) with
    | true =>
      show bnd (fVar 2 _ M) _ = _
      rfl
    | false => rfl
  exact fn_rt (N := 3) (es := [iE i, iE a, iE b]) h
/-- how many doublings -/
def dbl : Nat → Int → Int → Nat
  | 0, _, _ => 0
  | n + 1, s, a => if s < a then dbl n (2 * s) a + 1 else 0
/-- a while loop that doubles -/
theorem due_while {a : Int} : ∀ (n : Nat) (s d : Int), a ≤ s * 2 ^ n → ∃ s', whileN (fTst (fBin gLt (fVar 2) (fVar 0))) (gPar 1 2 (fCons (fBin (gAdd false) (fVar 1) (fC (.int 1))) (fCons (fBin (gMul false) (fC (.int 2)) (fVar 2)) (fNil)))) (n + 1) [some (iE a), some (iE d), some (iE s)] M = some (.nx [some (iE a), some (iE (d + dbl (n + 1) s a)), some (iE s')], M) := by
  intro n
  induction n with
  | zero =>
    intro s d h
    have hlt : ¬ s < a := by simp at h; omega
    refine ⟨s, ?_⟩
    unfold whileN
    rw [lt_ev (var_ev (i := 2) (e := iE s) rfl) (var_ev (i := 0) (e := iE a) rfl)]
    simp only [stx, hlt, decide_false]
    unfold dbl
    rw [if_neg hlt]
    simp
  | succ n ih =>
    intro s d h
    unfold whileN
    rw [lt_ev (var_ev (i := 2) (e := iE s) rfl) (var_ev (i := 0) (e := iE a) rfl)]
    by_cases hlt : s < a
    · have h2 : gPar 1 2 (fCons (fBin (gAdd false) (fVar 1) (fC (.int 1))) (fCons (fBin (gMul false) (fC (.int 2)) (fVar 2)) (fNil))) [some (iE a), some (iE d), some (iE s)] M = some (.nx [some (iE a), some (iE (d + 1)), some (iE (2 * s))], M) := by
        unfold gPar
        rw [cons_ev (add_ev (var_ev (i := 1) (e := iE d) rfl) (c_ev (d := .int 1))) (cons_ev (mul_ev (c_ev (d := .int 2)) (var_ev (i := 2) (e := iE s) rfl) (.inl (by decide))) nil_ev)]
        rfl
      obtain ⟨s', e⟩ := ih (2 * s) (d + 1) (by rw [Int.pow_succ] at h; rw [show 2 * s * 2 ^ n = s * (2 ^ n * 2) by rw [Int.mul_comm 2 s, Int.mul_assoc, Int.mul_comm 2]]; exact h)
      refine ⟨s', ?_⟩
      simp only [stx, hlt, decide_true, if_true, h2]
      rw [e]
      have : d + 1 + (dbl (n + 1) (2 * s) a : Nat) = d + ((dbl (n + 1 + 1) s a : Nat) : Int) := by
        conv => rhs; unfold dbl
        rw [if_pos hlt]
        push_cast
        omega
      rw [this]
    · refine ⟨s, ?_⟩
      simp only [stx, hlt, decide_false]
      unfold dbl
      rw [if_neg hlt]
      simp
/-- what is due -/
def dueE (a : Int) : E := if a = 1 then iE 0 else if a % 2 = 1 then .p .non else iE (a / 2 * dbl 100 1 a)
theorem due_ok (M : Store) {a : Int} (h1 : 1 ≤ a) (h64 : a ≤ 64) : F__law_due [iE a] M = some (.inr (dueE a), M) := by
  obtain ⟨s', e⟩ := due_while (M := M) (a := a) 99 1 0 (Int.le_trans h64 (by decide))
  have hB : B__law_due [some (iE a), none, none] M = some (.rt (dueE a), M) := by
    unfold B__law_due
    rw [seq_ev (show gAsgT (fTup (fCons (fC (.int 0)) (fCons (fC (.int 1)) (fNil)))) (gtTup 2 (gtCons (gtName 1) (gtCons (gtName 2) (gtNil)))) [some (iE a), none, none] M = some (.nx [some (iE a), some (iE 0), some (iE 1)], M) from rfl)]
    rw [seq_ev (show gWhile (fun _ _ => 100) _ _ [some (iE a), some (iE 0), some (iE 1)] M = _ from e)]
    have g1 : fTst (fBin gGt (fVar 0) (fC (.int 1))) [some (iE a), some (iE (0 + dbl 100 1 a)), some (iE s')] M = some (.inr (decide (1 < a)), M) := gt_ev (var_ev rfl) (c_ev (d := .int 1))
    have g2 : fTst (fBin gEq (fBin (gI2 iMod) (fVar 0) (fC (.int 2))) (fC (.int 1))) [some (iE a), some (iE (0 + dbl 100 1 a)), some (iE s')] M = some (.inr (decide (a % 2 = 1)), M) := eq_ev (mod_ev (var_ev rfl) (c_ev (d := .int 2)) (by decide)) (c_ev (d := .int 1))
    have fin : gRet (fBin (gMul false) (fBin (gI2 iFdiv) (fVar 0) (fC (.int 2))) (fVar 1)) [some (iE a), some (iE (0 + dbl 100 1 a)), some (iE s')] M = some (.rt (iE (a / 2 * (0 + dbl 100 1 a))), M) :=
      ret_ev (mul_ev (div_ev (var_ev rfl) (c_ev (d := .int 2)) (by decide) (by decide)) (var_ev rfl) (.inl (by omega)))
    have gA : fAndT (fTst (fBin gGt (fVar 0) (fC (.int 1)))) (fTst (fBin gEq (fBin (gI2 iMod) (fVar 0) (fC (.int 2))) (fC (.int 1)))) [some (iE a), some (iE (0 + dbl 100 1 a)), some (iE s')] M = some (.inr (decide (1 < a) && decide (a % 2 = 1)), M) := by
      unfold fAndT
      rw [g1]
      show (if decide (1 < a) = true then _ else _) = _
      by_cases h : 1 < a
      · simp only [h, decide_true, if_true, g2, Bool.true_and]
      · simp only [h, decide_false, Bool.false_and]; rfl
    unfold dueE
    by_cases c1 : a = 1
    · subst c1
      rw [if_pos rfl]
      rw [seq_ev ((if_f (M1 := M) (by rw [gA]; rfl)).trans rfl)]
      rw [fin, show (1 : Int) / 2 = 0 from rfl, Int.zero_mul]
    · rw [if_neg c1]
      have c2 : 1 < a := by omega
      by_cases c3 : a % 2 = 1
      · rw [if_pos c3]
        rw [seq_rt (e := .p .non) (M1 := M)]
        rw [if_t (M1 := M) (by rw [gA, decide_eq_true c2, decide_eq_true c3]; rfl)]
        rfl
      · rw [if_neg c3]
        rw [seq_ev ((if_f (M1 := M) (by rw [gA, decide_eq_false c3, Bool.and_false])).trans rfl)]
        rw [fin, Int.zero_add]
  exact fn_rt (N := 3) (es := [iE a]) hB
end
end K16

-- Q7
namespace K16
open PySem L2 Pl
section
variable {M : Store} {ρ : Pl.Env}
theorem comp_drop2 {es : List E} {gt : GT} {ρf : E → Pl.Env} {tt : FT} {fe : FE} {p : E → Bool} {f : E → E} (h0 : ∀ e ∈ es, gt e ρ M = some (.inr (ρf e), M)) (ht : ∀ e ∈ es, tt (ρf e) M = some (.inr (p e), M)) (hf : ∀ e ∈ es, p e = true → fe (ρf e) M = some (.inr (f e), M)) :
    ∀ (k j : Nat), j + k = es.length → compN (fixIt es) gt tt fe k j ρ M = some (((es.drop j).filter p).map f, M)
  | 0, j, h => by
    unfold compN
    rw [List.drop_eq_nil_of_le (by omega)]
    rfl
  | k + 1, j, h => by
    have hj : j < es.length := by omega
    have hm : es[j] ∈ es := List.getElem_mem hj
    unfold compN
    have hg : (fixIt es).get j M = some es[j] := List.getElem?_eq_getElem hj
    rw [hg]
    have h1 := ht _ hm
    have e1 := h0 _ hm
    simp only [e1, h1]
    rw [List.drop_eq_getElem_cons hj]
    cases hp : p es[j] with
    | true =>
      have h2 := hf _ hm hp
      simp only [h2, comp_drop2 h0 ht hf k (j + 1) (by omega)]
      rw [List.filter_cons, if_pos hp]
      rfl
    | false =>
      simp only [comp_drop2 h0 ht hf k (j + 1) (by omega)]
      rw [List.filter_cons, if_neg (by rw [hp]; simp)]
theorem comp_ev2 {m : Bool} {vs : List Nat} {fi : FI} {es : List E} {gt : GT} {ρf : E → Pl.Env} {tt : FT} {fe : FE} {p : E → Bool} {f : E → E} {r : E × Store} (hi : fi ρ M = some (.inr (fixIt es), M)) (hl : es.length ≤ 16777216) (h0 : ∀ e ∈ es, gt e (wipeE ρ vs) M = some (.inr (ρf e), M)) (ht : ∀ e ∈ es, tt (ρf e) M = some (.inr (p e), M)) (hf : ∀ e ∈ es, p e = true → fe (ρf e) M = some (.inr (f e), M))
    (hm : mkLst m ((es.filter p).map f) M = some r) : fComp m vs fi gt tt fe ρ M = some (.inr r.1, r.2) := by
  unfold fComp
  rw [hi]
  show (if (fixIt es).n ≤ 16777216 then _ else none) = _
  rw [if_pos (show (fixIt es).n ≤ 16777216 from hl)]
  show (match compN (fixIt es) gt tt fe es.length 0 (wipeE ρ vs) M with | some (es, M2) => lft (mkLst m es M2) | none => none) = _
  rw [comp_drop2 h0 ht hf es.length 0 (by omega)]
  show lft (mkLst m ((es.drop 0).filter p |>.map f) M) = _
  rw [List.drop_zero, hm]
  rfl
def prE (p : Int × Int) : E := .p (.tup [.int p.1, .int p.2])
def prP (p : Int × Int) : PD := .tup [.int p.1, .int p.2]
def prK (p : Int × Int) : PyData := .tuple [.int p.1, .int p.2]
theorem mk_frz {α : Type} (f : α → PD) (l : List α) : mkLst false (l.map fun a => E.p (f a)) M = some (.p (.lst (l.map f)), M) := by
  have h1 : ∀ l : List α, asPs (l.map fun a => E.p (f a)) = some (l.map f) := fun l => by
    induction l with
    | nil => rfl
    | cons a l ih => show asPs (.p (f a) :: l.map fun a => E.p (f a)) = _; unfold asPs; rw [ih]; rfl
  unfold mkLst
  rw [if_neg (by simp), h1]
theorem keys_pr : ∀ ps : List (Int × Int), pyKeys M (ps.map prE) = some (ps.map fun p => (prE p, prK p))
  | [] => rfl
  | p :: ps => by show (match toPyE M (prE p), pyKeys M (ps.map prE) with | some k, some ks => some ((prE p, k) :: ks) | _, _ => none) = _; rw [keys_pr ps]; rfl
theorem alike_pr (p q : Int × Int) : PySem.W.alike (prK p) (prK q) = true := rfl
theorem alikeAll_pr : ∀ ps : List (Int × Int), alikeAll (ps.map prK) = true
  | [] => rfl
  | p :: ps => by
    show ((ps.map prK).all (fun j => PySem.W.alike (prK p) j && PySem.W.alike j (prK p)) && PySem.W.alike (prK p) (prK p) && alikeAll (ps.map prK)) = true
    rw [alikeAll_pr ps, alike_pr, Bool.and_true, Bool.and_true, List.all_eq_true]
    intro x hx
    obtain ⟨q, _, rfl⟩ := List.mem_map.mp hx
    rfl
theorem sort_pr (ps : List (Int × Int)) : ∃ qs : List (Int × Int), gSorted false [.p (.lst (ps.map prP))] M = some (.p (.lst (qs.map prP)), M) := by
  have e1 : (ps.map prP).map E.p = ps.map prE := by rw [List.map_map]; rfl
  refine ⟨isort (fun a b => dLe prK a b) ps, ?_⟩
  show gSorted0 false ((ps.map prP).map E.p) M = _
  rw [e1]
  unfold gSorted0
  rw [keys_pr]
  have e2 : (ps.map fun p => (prE p, prK p)).map (·.2) = ps.map prK := by rw [List.map_map]; rfl
  have e3 : sortOk (ps.map prK) = true := by
    unfold sortOk sortable
    rw [alikeAll_pr]
    have a1 : (ps.map prK).all isTup1 = true := List.all_eq_true.mpr fun x hx => by obtain ⟨q, _, rfl⟩ := List.mem_map.mp hx; rfl
    have a2 : ((ps.map prK).all fun k => decide (k.depth ≤ 60)) = true := List.all_eq_true.mpr fun x hx => by obtain ⟨q, _, rfl⟩ := List.mem_map.mp hx; rfl
    rw [a1, a2]; rfl
  simp only [e2, e3, if_true]
  have e4 : sortE (ps.map fun p => (prE p, prK p)) = (isort (fun a b => dLe prK a b) ps).map fun p => (prE p, prK p) :=
    (isort_mapK (la := fun a b => dLe prK a b) (lb := dLe fun b : E × PyData => b.2) (fun p : Int × Int => (prE p, prK p)) (fun _ _ => rfl) ps).symm
  rw [e4, List.map_map]
  exact mk_frz prP _
abbrev tR : FT := (fTst (fBin gLt (fVar 3) (fVar 0)))
abbrev gR : FS := (gSeq (gSet 4 (fComp false ([5] : List Nat) (fItA rngIt1 (fCons (fVar 1) (fNil))) (gtName 5) (fYes) (fTup (fCons (fBin (gMul false) (fC (.int 2)) (fVar 5)) (fCons (fBin (gAdd false) (fBin (gMul false) (fC (.int 2)) (fBin (gI2 iMod) (fBin (gI2 iSub) (fBin (gAdd false) (fVar 5) (fVar 3)) (fC (.int 1))) (fVar 1))) (fC (.int 1))) (fNil)))))) (gSeq (gDrop (fBM isL gApp (fVar 2) (fCons (fCallB (gSorted false) (fCons (fComp false ([6, 7] : List Nat) (fSeqIt (fVar 4)) (gtTup 2 (gtCons (gtName 6) (gtCons (gtName 7) (gtNil)))) (fYes) (fTup (fCons (fCallB gMin2 (fCons (fVar 6) (fCons (fVar 7) (fNil)))) (fCons (fCallB gMax2 (fCons (fVar 6) (fCons (fVar 7) (fNil)))) (fNil))))) (fNil))) (fNil)))) (gSet 3 (fBin (gMul false) (fC (.int 2)) (fVar 3)))))
theorem callB_ev {g : GL} {fa : FA} {xs : List E} {e : E} {M1 M2 : Store} (ha : fa ρ M = some (.inr xs, M1)) (hg : g xs M1 = some (e, M2)) : fCallB g fa ρ M = some (.inr e, M2) := by
  unfold fCallB
  rw [ha]
  show lft (g xs M1) = _
  rw [hg]; rfl
theorem app_ev {n : Nat} {fo : FE} {fa : FA} {xs : List E} {y : E} (ho : fo ρ M = some (.inr (.r n), M)) (ha : fa ρ M = some (.inr [y], M)) (hM : M[n]? = some (some (.lst xs))) (hl : xs.length < 16777216) : fBM isL gApp fo fa ρ M = some (.inr (.p .non), M.set n (some (.lst (xs ++ [y])))) := by
  unfold fBM
  rw [ho]
  have h2 : isL M (.r n) = true := by
    show (match M[n]? with | some (some (.lst es)) => some es | _ => none).isSome = true
    rw [hM]; rfl
  show (if isL M (.r n) = true then bnd (fa ρ M) _ else none) = _
  rw [if_pos h2, ha]
  show lft (match M[n]? with | some (some (.lst es)) => if es.length < 16777216 then some (E.p .non, M.set n (some (.lst (es ++ [y])))) else none | _ => none) = _
  rw [hM]
  simp only [hl, if_true]
  rfl
theorem gR_ev {a h s : Int} {q : Nat} {o4 : Option E} {xs : List E} (hh : 0 < h) (h32 : h ≤ 32) (hs0 : 0 < s) (hs : s ≤ 64) (hM : M[q]? = some (some (.lst xs))) (hl : xs.length < 16777216) :
    ∃ v w, gR [some (iE a), some (iE h), some (.r q), some (iE s), o4, none, none, none] M = some (.nx [some (iE a), some (iE h), some (.r q), some (iE (2 * s)), some w, none, none, none], M.set q (some (.lst (xs ++ [v])))) := by
  let ps : List (Int × Int) := (List.range h.toNat).map fun (j : Nat) => (2 * (0 + (j : Int)), 2 * ((0 + (j : Int) + s - 1) % h) + 1)
  have c1 : fComp false ([5] : List Nat) (fItA rngIt1 (fCons (fVar 1) (fNil))) (gtName 5) (fYes) (fTup (fCons (fBin (gMul false) (fC (.int 2)) (fVar 5)) (fCons (fBin (gAdd false) (fBin (gMul false) (fC (.int 2)) (fBin (gI2 iMod) (fBin (gI2 iSub) (fBin (gAdd false) (fVar 5) (fVar 3)) (fC (.int 1))) (fVar 1))) (fC (.int 1))) (fNil)))) [some (iE a), some (iE h), some (.r q), some (iE s), o4, none, none, none] M = some (.inr (.p (.lst (ps.map prP))), M) := by
    refine comp_ev2 (es := rangeE 0 h.toNat) (ρf := fun e => [some (iE a), some (iE h), some (.r q), some (iE s), o4, some e, none, none]) (p := fun _ => true) (f := fun e => match e with | .p (.int j) => prE (2 * j, 2 * ((j + s - 1) % h) + 1) | e => e) (r := (.p (.lst (ps.map prP)), M)) ?_ (by simp [rangeE]; omega) (fun _ _ => rfl) (fun _ _ => rfl) (fun e he _ => ?_) ?_
    · show (match (if okR h = true then some (fixIt (rangeE 0 h.toNat)) else none) with | some t => some (Sum.inr t, M) | none => none) = _
      have : okR h = true := by unfold okR; simp; omega
      rw [this]; rfl
    · obtain ⟨k, _, rfl⟩ := List.mem_map.mp he
      have e1 := mul_ev (M := M) (ρ := [some (iE a), some (iE h), some (.r q), some (iE s), o4, some (iE (0 + (k : Int))), none, none]) (c_ev (d := .int 2)) (var_ev (i := 5) (e := iE (0 + (k : Int))) rfl) (.inl (by decide))
      have e2 := add_ev (M := M) (ρ := [some (iE a), some (iE h), some (.r q), some (iE s), o4, some (iE (0 + (k : Int))), none, none]) (mul_ev (c_ev (d := .int 2)) (mod_ev (sub_ev (add_ev (var_ev (i := 5) (e := iE (0 + (k : Int))) rfl) (var_ev (i := 3) (e := iE s) rfl)) (c_ev (d := .int 1))) (var_ev (i := 1) (e := iE h) rfl) hh) (.inl (by decide))) (c_ev (d := .int 1))
      unfold fTup
      rw [show (E.p (PD.int (0 + (k : Int)))) = iE (0 + (k : Int)) from rfl]
      rw [cons_ev e1 (cons_ev e2 nil_ev)]
      rfl
    · rw [filter_yes]
      have : (rangeE 0 h.toNat).map (fun e => match e with | .p (.int j) => prE (2 * j, 2 * ((j + s - 1) % h) + 1) | e => e) = ps.map fun p => E.p (prP p) := by
        unfold rangeE
        rw [List.map_map, List.map_map]
        rfl
      rw [this]
      exact mk_frz prP ps
  let qs : List (Int × Int) := ps.map fun p => (if p.2 < p.1 then p.2 else p.1, if p.2 > p.1 then p.2 else p.1)
  have c2 : fComp false ([6, 7] : List Nat) (fSeqIt (fVar 4)) (gtTup 2 (gtCons (gtName 6) (gtCons (gtName 7) (gtNil)))) (fYes) (fTup (fCons (fCallB gMin2 (fCons (fVar 6) (fCons (fVar 7) (fNil)))) (fCons (fCallB gMax2 (fCons (fVar 6) (fCons (fVar 7) (fNil)))) (fNil)))) [some (iE a), some (iE h), some (.r q), some (iE s), some (.p (.lst (ps.map prP))), none, none, none] M = some (.inr (.p (.lst (qs.map prP))), M) := by
    refine comp_ev2 (es := ps.map prE) (ρf := fun e => match e with | .p (.tup [x, y]) => [some (iE a), some (iE h), some (.r q), some (iE s), some (.p (.lst (ps.map prP))), none, some (.p x), some (.p y)] | _ => []) (p := fun _ => true) (f := fun e => match e with | .p (.tup [.int x, .int y]) => prE (if y < x then y else x, if y > x then y else x) | e => e) (r := (.p (.lst (qs.map prP)), M)) ?_ (by simp [ps]; omega) (fun e he => ?_) (fun _ _ => rfl) (fun e he _ => ?_) ?_
    · show some (Sum.inr (fixIt ((ps.map prP).map E.p)), M) = _
      rw [List.map_map]; rfl
    · obtain ⟨p, _, rfl⟩ := List.mem_map.mp he
      rfl
    · obtain ⟨p, _, rfl⟩ := List.mem_map.mp he
      rfl
    · rw [filter_yes, List.map_map]
      have : ps.map ((fun e => match e with | .p (.tup [.int x, .int y]) => prE (if y < x then y else x, if y > x then y else x) | e => e) ∘ prE) = qs.map fun p => E.p (prP p) := by
        have gen : ∀ l : List (Int × Int), l.map ((fun e => match e with | .p (.tup [.int x, .int y]) => prE (if y < x then y else x, if y > x then y else x) | e => e) ∘ prE) = (l.map fun p => (if p.2 < p.1 then p.2 else p.1, if p.2 > p.1 then p.2 else p.1)).map fun p => E.p (prP p) := fun l => by rw [List.map_map]; rfl
        exact gen ps
      rw [this]
      exact mk_frz prP qs
  obtain ⟨ws, hw⟩ := sort_pr (M := M) qs
  refine ⟨.p (.lst (ws.map prP)), .p (.lst (ps.map prP)), ?_⟩
  unfold gR
  rw [seq_ev (show gSet 4 _ [some (iE a), some (iE h), some (.r q), some (iE s), o4, none, none, none] M = some (.nx [some (iE a), some (iE h), some (.r q), some (iE s), some (.p (.lst (ps.map prP))), none, none, none], M) from set_ev c1)]
  have c3 : fBM isL gApp (fVar 2) (fCons (fCallB (gSorted false) (fCons (fComp false ([6, 7] : List Nat) (fSeqIt (fVar 4)) (gtTup 2 (gtCons (gtName 6) (gtCons (gtName 7) (gtNil)))) (fYes) (fTup (fCons (fCallB gMin2 (fCons (fVar 6) (fCons (fVar 7) (fNil)))) (fCons (fCallB gMax2 (fCons (fVar 6) (fCons (fVar 7) (fNil)))) (fNil))))) (fNil))) (fNil)) [some (iE a), some (iE h), some (.r q), some (iE s), some (.p (.lst (ps.map prP))), none, none, none] M = some (.inr (.p .non), M.set q (some (.lst (xs ++ [.p (.lst (ws.map prP))])))) := by
    exact app_ev (var_ev rfl) (cons_ev (e := .p (.lst (ws.map prP))) (callB_ev (cons_ev c2 nil_ev) hw) nil_ev) hM hl
  rw [seq_ev (show gDrop _ [some (iE a), some (iE h), some (.r q), some (iE s), some (.p (.lst (ps.map prP))), none, none, none] M = some (.nx [some (iE a), some (iE h), some (.r q), some (iE s), some (.p (.lst (ps.map prP))), none, none, none], M.set q (some (.lst (xs ++ [.p (.lst (ws.map prP))])))) from by unfold gDrop; rw [c3]; rfl)]
  exact set_ev (mul_ev (c_ev (d := .int 2)) (var_ev (i := 3) (e := iE s) rfl) (.inl (by decide)))
theorem told_while {a h : Int} {q : Nat} (hh : 0 < h) (h32 : h ≤ 32) (ha : a ≤ 64) : ∀ (n : Nat) (M : Store) (s : Int) (o4 : Option E) (xs : List E), 0 < s → a ≤ s * 2 ^ n → M[q]? = some (some (.lst xs)) → xs.length + n < 1000 →
    ∃ M' ys s' o', whileN tR gR (n + 1) [some (iE a), some (iE h), some (.r q), some (iE s), o4, none, none, none] M = some (.nx [some (iE a), some (iE h), some (.r q), some (iE s'), o', none, none, none], M') ∧ M'[q]? = some (some (.lst ys)) ∧ ys.length = xs.length + dbl (n + 1) s a ∧ M'.length = M.length ∧ ∀ j, j ≠ q → M'[j]? = M[j]? := by
  intro n
  induction n with
  | zero =>
    intro M s o4 xs hs hb hM hx
    have hlt : ¬ s < a := by simp at hb; omega
    refine ⟨M, xs, s, o4, ?_, hM, ?_, rfl, fun _ _ => rfl⟩
    · unfold whileN
      rw [show tR [some (iE a), some (iE h), some (.r q), some (iE s), o4, none, none, none] M = some (.inr (decide (s < a)), M) from lt_ev (var_ev rfl) (var_ev rfl)]
      simp only [stx, hlt, decide_false]
      rfl
    · unfold dbl; rw [if_neg hlt]; rfl
  | succ n ih =>
    intro M s o4 xs hs hb hM hx
    unfold whileN
    rw [show tR [some (iE a), some (iE h), some (.r q), some (iE s), o4, none, none, none] M = some (.inr (decide (s < a)), M) from lt_ev (var_ev rfl) (var_ev rfl)]
    by_cases hlt : s < a
    · obtain ⟨v, w, e⟩ := gR_ev (a := a) (o4 := o4) hh h32 hs (by omega) hM (by omega)
      have hq : q < M.length := (List.getElem?_eq_some_iff.mp hM).1
      obtain ⟨M', ys, s', o', e1, e2, e3, e4, e5⟩ := ih (M.set q (some (.lst (xs ++ [v])))) (2 * s) (some w) (xs ++ [v]) (by omega) (by rw [Int.pow_succ] at hb; rw [show 2 * s * 2 ^ n = s * (2 ^ n * 2) by rw [Int.mul_comm 2 s, Int.mul_assoc, Int.mul_comm 2]]; exact hb) (by rw [List.getElem?_set_self hq]) (by simp; omega)
      refine ⟨M', ys, s', o', ?_, e2, ?_, by simpa using e4, fun j hj => by rw [e5 j hj, List.getElem?_set_ne (Ne.symm hj)]⟩
      · simp only [stx, hlt, decide_true, if_true, e]
        exact e1
      · rw [e3]
        conv => rhs; unfold dbl
        rw [if_pos hlt]
        simp; omega
    · refine ⟨M, xs, s, o4, ?_, hM, ?_, rfl, fun _ _ => rfl⟩
      · simp only [stx, hlt, decide_false]
        rfl
      · unfold dbl; rw [if_neg hlt]; rfl
/-- the store grew -/
def Grew (M M' : Store) : Prop := M.length ≤ M'.length ∧ ∀ j, j < M.length → M'[j]? = M[j]?
theorem Grew.refl (M : Store) : Grew M M := ⟨Nat.le_refl _, fun _ _ => rfl⟩
theorem Grew.trans {A B C : Store} (x : Grew A B) (y : Grew B C) : Grew A C := ⟨Nat.le_trans x.1 y.1, fun j h => (y.2 j (Nat.lt_of_lt_of_le h x.1)).trans (x.2 j h)⟩
theorem told_ok (M : Store) {a : Int} (h2 : 2 ≤ a) (h64 : a ≤ 64) (ev : a % 2 = 0) : ∃ M' ys, F_told_rounds [iE a] M = some (.inr (.r M.length), M') ∧ M'[M.length]? = some (some (.lst ys)) ∧ ys.length = dbl 100 1 a ∧ Grew M M' := by
  have hh : 0 < a / 2 := by omega
  obtain ⟨M', ys, s', o', e1, e2, e3, e4, e5⟩ := told_while (a := a) (h := a / 2) (q := M.length) hh (by omega) h64 99 (M ++ [some (.lst [])]) 1 none [] (by decide) (Int.le_trans h64 (by decide)) (by simp) (by decide)
  refine ⟨M', ys, ?_, e2, by simpa using e3, by simp at e4; omega, fun j hj => by rw [e5 j (by omega), List.getElem?_append_left hj]⟩
  refine fn_rt (N := 8) (es := [iE a]) ?_
  show B_told_rounds [some (iE a), none, none, none, none, none, none, none] M = _
  unfold B_told_rounds
  have w1 : fTst (fCall 3 F_is_whole [] (fCons (fVar 0) (fCons (fC (.int 2)) (fCons (fC (.int 64)) (fNil))))) [some (iE a), none, none, none, none, none, none, none] M = some (.inr true, M) := by
    refine tst_ev (call_ev (cons_ev (var_ev rfl) (cons_ev (c_ev (d := .int 2)) (cons_ev (c_ev (d := .int 64)) nil_ev))) rfl ?_)
    refine (whole_int M a 2 64).trans ?_
    rw [decide_eq_true h2, decide_eq_true h64]; rfl
  have w2 : fTst (fBin gEq (fBin (gI2 iMod) (fVar 0) (fC (.int 2))) (fC (.int 1))) [some (iE a), none, none, none, none, none, none, none] M = some (.inr false, M) := by
    have := eq_ev (M := M) (mod_ev (ρ := [some (iE a), none, none, none, none, none, none, none]) (var_ev (i := 0) (e := iE a) rfl) (c_ev (d := .int 2)) (by decide)) (c_ev (d := .int 1))
    rw [decide_eq_false (by omega)] at this
    exact this
  have w3 : fOrT (fNotT (fTst (fCall 3 F_is_whole [] (fCons (fVar 0) (fCons (fC (.int 2)) (fCons (fC (.int 64)) (fNil))))))) (fTst (fBin gEq (fBin (gI2 iMod) (fVar 0) (fC (.int 2))) (fC (.int 1)))) [some (iE a), none, none, none, none, none, none, none] M = some (.inr false, M) := by
    unfold fOrT
    rw [not_ev w1]
    exact w2
  rw [seq_ev ((if_f w3).trans rfl)]
  rw [seq_ev (show gSet 1 (fBin (gI2 iFdiv) (fVar 0) (fC (.int 2))) [some (iE a), none, none, none, none, none, none, none] M = some (.nx [some (iE a), some (iE (a / 2)), none, none, none, none, none, none], M) from set_ev (div_ev (var_ev rfl) (c_ev (d := .int 2)) (by decide) (by decide)))]
  rw [seq_ev (show gSet 2 (fLst true (fNil)) [some (iE a), some (iE (a / 2)), none, none, none, none, none, none] M = some (.nx [some (iE a), some (iE (a / 2)), some (.r M.length), none, none, none, none, none], M ++ [some (.lst [])]) from rfl)]
  rw [seq_ev (show gSet 3 (fC (.int 1)) [some (iE a), some (iE (a / 2)), some (.r M.length), none, none, none, none, none] (M ++ [some (.lst [])]) = some (.nx [some (iE a), some (iE (a / 2)), some (.r M.length), some (iE 1), none, none, none, none], M ++ [some (.lst [])]) from rfl)]
  rw [seq_ev (show gWhile (fun _ _ => 100) _ _ [some (iE a), some (iE (a / 2)), some (.r M.length), some (iE 1), none, none, none, none] (M ++ [some (.lst [])]) = _ from e1)]
  exact ret_ev (var_ev rfl)
theorem fewest_ok (M : Store) {a : Int} (h1 : 1 ≤ a) (h64 : a ≤ 64) : ∃ M', F_fewest_calls [iE a] M = some (.inr (dueE a), M') ∧ Grew M M' := by
  have w1 : fNotT (fTst (fCall 3 F_is_whole [] (fCons (fVar 0) (fCons (fC (.int 1)) (fCons (fC (.int 64)) (fNil)))))) [some (iE a)] M = some (.inr false, M) := by
    have := not_ev (M := M) (tst_ev (call_ev (n := 3) (ff := F_is_whole) (ρ := [some (iE a)]) (cons_ev (var_ev (i := 0) (e := iE a) rfl) (cons_ev (c_ev (d := .int 1)) (cons_ev (c_ev (d := .int 64)) nil_ev))) rfl (whole_int M a 1 64)))
    rw [decide_eq_true h1, decide_eq_true h64] at this
    exact this
  have w2 : fTst (fBin gEq (fVar 0) (fC (.int 1))) [some (iE a)] M = some (.inr (decide (a = 1)), M) := eq_ev (var_ev rfl) (c_ev (d := .int 1))
  have w3 : fTst (fBin gEq (fBin (gI2 iMod) (fVar 0) (fC (.int 2))) (fC (.int 1))) [some (iE a)] M = some (.inr (decide (a % 2 = 1)), M) := eq_ev (mod_ev (var_ev rfl) (c_ev (d := .int 2)) (by decide)) (c_ev (d := .int 1))
  suffices hs : ∃ M', B_fewest_calls [some (iE a)] M = some (.rt (dueE a), M') ∧ Grew M M' by
    obtain ⟨M', e, q⟩ := hs
    exact ⟨M', fn_rt (N := 1) (es := [iE a]) e, q⟩
  unfold B_fewest_calls
  rw [seq_ev ((if_f w1).trans rfl)]
  unfold dueE
  by_cases c1 : a = 1
  · rw [if_pos c1]
    rw [decide_eq_true c1] at w2
    exact ⟨M, seq_rt ((if_t w2).trans rfl), .refl M⟩
  · rw [if_neg c1]
    rw [decide_eq_false c1] at w2
    rw [seq_ev ((if_f w2).trans rfl)]
    by_cases c2 : a % 2 = 1
    · rw [if_pos c2]
      rw [decide_eq_true c2] at w3
      exact ⟨M, seq_rt ((if_t w3).trans rfl), .refl M⟩
    · rw [if_neg c2]
      rw [decide_eq_false c2] at w3
      rw [seq_ev ((if_f w3).trans rfl)]
      obtain ⟨M', ys, e1, e2, e3, e4⟩ := told_ok M (a := a) (by omega) h64 (by omega)
      refine ⟨M', ret_ev (mul_ev (y := dbl 100 1 a) (div_ev (var_ev rfl) (c_ev (d := .int 2)) (by decide) (by decide)) (callB_ev (cons_ev (call_ev (cons_ev (var_ev rfl) nil_ev) rfl e1) nil_ev) ?_) (.inl (by omega))), e4⟩
      show (match (match M'[M.length]? with | some (some (.lst es)) => some es.length | _ => none) with | some n => some (E.p (.int n), M') | none => none) = _
      rw [e2]
      show some (E.p (.int ys.length), M') = _
      rw [e3]; rfl
end
end K16

-- Q8
namespace K16
open PySem L2 Pl
section
variable {M : Store} {ρ : Pl.Env}
theorem DrOk.grew {M' : Store} {k : Nat} (d : DrOk M k) (g : Grew M M') : DrOk M' k := by
  obtain ⟨q, gs, cs, r, t, m, D, h⟩ := d
  have h1 := (List.getElem?_eq_some_iff.mp D.a).1
  have h2 := (List.getElem?_eq_some_iff.mp D.b).1
  exact ⟨q, gs, cs, r, t, m, ⟨(g.2 _ h1).trans D.a, (g.2 _ h2).trans D.b, D.ne⟩, h⟩
theorem Grew.app (l : Store) : Grew M (M ++ l) := ⟨by simp, fun j hj => List.getElem?_append_left hj⟩
/-- what is no number from 1 to 64 -/
inductive BadN (M : Store) : E → Prop
  | int {i : Int} : i < 1 ∨ 64 < i → BadN M (iE i)
  | bl (b : Bool) : BadN M (.p (.bl b))
  | str (s : Str) : BadN M (.p (.str s))
  | non : BadN M (.p .non)
  | lst (ds : List PD) : BadN M (.p (.lst ds))
  | tup (ds : List PD) : BadN M (.p (.tup ds))
  | dic {j : Nat} {es : List (Key × E)} : M[j]? = some (some (.dic es)) → BadN M (.r j)
theorem whole_bad {e : E} (h : BadN M e) : F_is_whole [e, iE 1, iE 64] M = some (.inr (.p (.bl false)), M) := by
  cases h with
  | @int i h =>
    refine (whole_int M i 1 64).trans ?_
    have : (decide (1 ≤ i) && decide (i ≤ 64)) = false := by
      rcases h with h | h
      · rw [decide_eq_false (by omega), Bool.false_and]
      · rw [decide_eq_false (p := i ≤ 64) (by omega), Bool.and_false]
    rw [this]
  | bl b => exact fn_rt (N := 3) (es := [.p (.bl b), iE 1, iE 64]) (ret_ev rfl)
  | str s => exact fn_rt (N := 3) (es := [.p (.str s), iE 1, iE 64]) (ret_ev rfl)
  | non => exact fn_rt (N := 3) (es := [.p .non, iE 1, iE 64]) (ret_ev rfl)
  | lst ds => exact fn_rt (N := 3) (es := [.p (.lst ds), iE 1, iE 64]) (ret_ev rfl)
  | tup ds => exact fn_rt (N := 3) (es := [.p (.tup ds), iE 1, iE 64]) (ret_ev rfl)
  | @dic j es h =>
    refine fn_rt (N := 3) (es := [.r j, iE 1, iE 64]) (ret_ev ?_)
    have h1 : gIsi ct [.r j, .p (.ty "int")] M = some (.p (.bl false), M) := by
      have ht : tagE ct M (.r j) = some (.b "dict") := by
        show (match M[j]? with | some (some (.lst _)) => some (Tg.b "list") | some (some (.dic _)) => some (.b "dict") | some (some (.dcN _)) => some (.b "dict") | some (some (.ins c _)) => if ct.ins c = true then some (.c c) else none | _ => none) = _
        rw [h]
      show (match tagE ct M (.r j), asTg (.ty "int") with | some t, some u => (match ct.sub t u with | some b => some (E.p (.bl b), M) | none => none) | _, _ => none) = _
      rw [ht]
      rfl
    have h2 : fCallB (gIsi ct) (fCons (fVar 0) (fCons (fC (.ty "int")) (fNil))) [some (.r j), some (iE 1), some (iE 64)] M = some (.inr (.p (.bl false)), M) := callB_ev (cons_ev (var_ev rfl) (cons_ev (c_ev (d := .ty "int")) nil_ev)) h1
    show fAndV _ _ [some (.r j), some (iE 1), some (iE 64)] M = _
    unfold fAndV
    rw [h2]
    rfl
theorem fewest_bad {e : E} (h : BadN M e) : F_fewest_calls [e] M = some (.inl ⟨10, []⟩, M) := by
  have w1 : fNotT (fTst (fCall 3 F_is_whole [] (fCons (fVar 0) (fCons (fC (.int 1)) (fCons (fC (.int 64)) (fNil)))))) [some e] M = some (.inr true, M) :=
    not_ev (tst_ev (call_ev (cons_ev (var_ev rfl) (cons_ev (c_ev (d := .int 1)) (cons_ev (c_ev (d := .int 64)) nil_ev))) rfl (whole_bad h)))
  have hB : B_fewest_calls [some e] M = some (.xn ⟨10, []⟩ [some e], M) := by
    unfold B_fewest_calls gSeq
    rw [if_t w1]
    rfl
  unfold F_fewest_calls fnOf
  show (match B_fewest_calls [some e] M with | some (.nx _, M') => some (Sum.inr (E.p .non), M') | some (.rt e, M') => some (Sum.inr e, M') | some (.xn x _, M') => some (Sum.inl x, M') | _ => none) = _
  rw [hB]
theorem lam_ev {o0 o1 o2 o3 o4 o5 o7 o8 : Option E} {e : E} (h : BadN M e) : fLam 9 [6] (fCall 1 F_fewest_calls [] (fCons (fVar 6) (fNil))) postNN [o0, o1, o2, o3, o4, o5, some e, o7, o8] M = some (.inr (.p (.bl true)), M) := by
  have hc : ∃ c, capsOf [o0, o1, o2, o3, o4, o5, some e, o7, o8] [6] = some [c] ∧ capE c = e := by
    cases h with
    | int h => exact ⟨.inl _, rfl, rfl⟩
    | bl b => exact ⟨.inl _, rfl, rfl⟩
    | str s => exact ⟨.inl _, rfl, rfl⟩
    | non => exact ⟨.inl _, rfl, rfl⟩
    | lst ds => exact ⟨.inl _, rfl, rfl⟩
    | tup ds => exact ⟨.inl _, rfl, rfl⟩
    | dic h => exact ⟨.inr _, rfl, rfl⟩
  obtain ⟨c, h1, h2⟩ := hc
  unfold fLam
  rw [h1]
  show postNN (fCall 1 F_fewest_calls [] (fCons (fVar 6) (fNil)) (capEnv 9 [6] [c]) M) = _
  have h3 : fCall 1 F_fewest_calls [] (fCons (fVar 6) (fNil)) (capEnv 9 [6] [c]) M = some (.inl ⟨10, []⟩, M) :=
    call_ev (cons_ev (var_ev (e := e) (by rw [← h2]; rfl)) nil_ev) rfl (fewest_bad h)
  rw [h3]
  rfl
theorem pick_ok {k idx : Nat} {es : List E} (d : DrOk M k) (hM : M[idx]? = some (some (.lst es))) (hk : idx ≠ k) (h0 : 0 < es.length) (hl : es.length < 1000) (hi : ∀ l : List Int, es ≠ l.map iE) : ∃ x M', x ∈ es ∧ F__law_pick [.r k, .r idx] M = some (.inr x, M') ∧ DrOk M' k ∧ Kept k M M' := by
  have ln : fCallB gLen (fCons (fVar 1) (fNil)) [some (.r k), some (.r idx)] M = some (.inr (iE es.length), M) := by
    refine callB_ev (cons_ev (var_ev rfl) nil_ev) ?_
    show (match (match M[idx]? with | some (some (.lst es)) => some es.length | _ => none) with | some n => some (E.p (.int n), M) | none => none) = _
    rw [hM]; rfl
  obtain ⟨x, M', e1, e2, e3, e4, e5⟩ := take_ok (M := M) (k := k) (n := es.length) (by omega) (by omega) d
  have hlt : x.toNat < es.length := by omega
  have hM' : M'[idx]? = some (some (.lst es)) := e5.2 idx _ hM hk fun l q => hi l (Cell.lst.inj q)
  refine ⟨es[x.toNat]'hlt, M', List.getElem_mem hlt, fn_rt (N := 2) (es := [.r k, .r idx]) (ret_ev ?_), e4, e5⟩
  refine bin_ev (var_ev rfl) (call_ev (cons_ev (var_ev rfl) (cons_ev ln nil_ev)) rfl e1) ?_
  have e6 : atI es x = some (es[x.toNat]'hlt) := atI_lt e2 (by omega)
  show (match (match (match M'[idx]? with | some (some (.lst es)) => some es | _ => none), asInt (iE x) with | some es, some i => (match atI es i with | some e => some (e, M') | none => none) | _, _ => none) with | some r => some r | none => gOr gIxT gIxS (.r idx) (iE x) M') = _
  rw [hM']
  show (match (match atI es x with | some e => some (e, M') | none => none) with | some r => some r | none => gOr gIxT gIxS (.r idx) (iE x) M') = _
  rw [e6]
end
end K16

-- Q9
namespace K16
open PySem L2 Pl
section
variable {M : Store} {ρ : Pl.Env}
theorem dueE_cases (a : Int) : (∃ i, dueE a = iE i) ∨ dueE a = .p .non := by
  unfold dueE
  split
  · exact .inl ⟨_, rfl⟩
  · split
    · exact .inr rfl
    · exact .inl ⟨_, rfl⟩
theorem due_eq (a : Int) (M : Store) : pyEq M (dueE a) (dueE a) = some true := by
  rcases dueE_cases a with ⟨i, e⟩ | e
  · rw [e, eqI, decide_eq_true rfl]
  · rw [e]; rfl
theorem ne_ev {fa fb : FE} {x y : E} {b : Bool} {M1 M2 : Store} (ha : fa ρ M = some (.inr x, M1)) (hb : fb ρ M1 = some (.inr y, M2)) (h : pyEq M2 x y = some b) : fTst (fBin gNe fa fb) ρ M = some (.inr (!b), M2) := tst_ev (bin_ev ha hb (by unfold gNe; rw [h]; rfl))
theorem or_f {f g : FT} {r : Rs Bool} {M1 : Store} (h : f ρ M = some (.inr false, M1)) (h2 : g ρ M1 = r) : fOrT f g ρ M = r := by unfold fOrT; rw [h]; exact h2
theorem and_f {f g : FT} {M1 : Store} (h : f ρ M = some (.inr false, M1)) : fAndT f g ρ M = some (.inr false, M1) := by unfold fAndT; rw [h]; rfl
theorem and_t {f g : FT} {r : Rs Bool} {M1 : Store} (h : f ρ M = some (.inr true, M1)) (h2 : g ρ M1 = r) : fAndT f g ρ M = r := by unfold fAndT; rw [h]; exact h2
theorem take_call {fk fn : FE} {k : Nat} {n : Int} {M1 : Store} (d : DrOk M k) (hk : fk ρ M = some (.inr (.r k), M)) (hn : fn ρ M = some (.inr (iE n), M)) (h0 : 0 < n) (h1 : n < 1073741824) : ∃ x M', fCall 2 F__law_take [] (fCons fk (fCons fn fNil)) ρ M = some (.inr (iE x), M') ∧ 0 ≤ x ∧ x < n ∧ DrOk M' k ∧ Kept k M M' := by
  obtain ⟨x, M', e, q⟩ := take_ok (M := M) h0 h1 d
  exact ⟨x, M', call_ev (cons_ev hk (cons_ev hn nil_ev)) rfl e, q⟩
abbrev gL : FS := (gSeq (gSet 4 (fBin (gAdd false) (fC (.int 1)) (fCall 2 F__law_take [] (fCons (fVar 1) (fCons (fC (.int 64)) (fNil)))))) (gSeq (gPar 7 8 (fCons (fCall 1 F_fewest_calls [] (fCons (fVar 4) (fNil))) (fCons (fCall 1 F__law_due [] (fCons (fVar 4) (fNil))) (fNil)))) (gSeq (gIf (fTst (fBin gNe (fCallK 1 F_fewest_calls (fCons (fVar 4) (fNil))) (fVar 7))) (gRet (fC (.bl false))) (gNext)) (gSeq (gIf (fOrT (fTst (fBin gNe (fVar 7) (fVar 8))) (fAndT (fTst (fBin gIsNotN (fVar 7) (fC .non))) (fOrT (fNotT (fTst (fCallB (gIsi ct) (fCons (fVar 7) (fCons (fC (.ty "int")) (fNil)))))) (fTst (fCallB (gIsi ct) (fCons (fVar 7) (fCons (fC (.ty "bool")) (fNil)))))))) (gRet (fC (.bl false))) (gNext)) (gSeq (gSet 5 (fLst false (fCons (fBin (gAdd false) (fC (.int 65)) (fCall 2 F__law_take [] (fCons (fVar 1) (fCons (fBin (gI2 iPow) (fC (.int 10)) (fC (.int 9))) (fNil))))) (fCons (fBin (gI2 iSub) (fC (.int 0)) (fCall 2 F__law_take [] (fCons (fVar 1) (fCons (fC (.int 1000)) (fNil))))) (fCons (fC (.int 65)) (fCons (fC (.bl true)) (fCons (fC (.bl false)) (fCons (fC (.str (PySem.Str.ofString "2"))) (fCons (fC .non) (fNil)))))))))) (gSeq (gSet 6 (fCall 2 F__law_pick [] (fCons (fVar 1) (fCons (fBin (gAdd true) (fVar 5) (fLst true (fCons (fLst false (fCons (fC (.int 2)) (fNil))) (fCons (fTup (fCons (fC (.int 1)) (fNil))) (fCons (fDict0) (fCons (fBin (gI2 iPow) (fC (.int 10)) (fC (.int 9))) (fNil))))))) (fNil))))) (gIf (fNotT (fTst (fLam 9 [6] (fCall 1 F_fewest_calls [] (fCons (fVar 6) (fNil))) postNN))) (gRet (fC (.bl false))) (gNext))))))))
theorem addL_ev {a b : E} {x y : List E} (ha : asLst M a = some x) (hb : asLst M b = some y) (hl : x.length + y.length ≤ 16777216) : gAddL true a b M = some (.r M.length, M ++ [some (.lst (x ++ y))]) := by
  unfold gAddL
  rw [ha, hb]
  simp only [hl, if_true]
  rfl
theorem turn_ok {sc o3 o4 o5 o6 o7 o8 : Option E} {t : E} {k : Nat} (d : DrOk M k) : ∃ a o f u n M', gL [sc, some (.r k), some t, o3, o4, o5, o6, o7, o8] M = some (.nx [sc, some (.r k), some t, o3, a, o, n, f, u], M') ∧ DrOk M' k := by
  obtain ⟨x, M1, e1, x0, x1, d1, _⟩ := take_call (ρ := [sc, some (.r k), some t, o3, o4, o5, o6, o7, o8]) (fk := fVar 1) (fn := fC (.int 64)) (M1 := M) (n := 64) d (var_ev rfl) rfl (by decide) (by decide)
  have a1 := set_ev (i := 4) (add_ev (c_ev (d := .int 1)) e1)
  have A1 : 1 ≤ 1 + x := by omega
  have A2 : 1 + x ≤ 64 := by omega
  obtain ⟨M2, f1, g1⟩ := fewest_ok M1 A1 A2
  have d2 := d1.grew g1
  have p1 : gPar 7 8 (fCons (fCall 1 F_fewest_calls [] (fCons (fVar 4) (fNil))) (fCons (fCall 1 F__law_due [] (fCons (fVar 4) (fNil))) (fNil))) [sc, some (.r k), some t, o3, some (iE (1 + x)), o5, o6, o7, o8] M1 = some (.nx [sc, some (.r k), some t, o3, some (iE (1 + x)), o5, o6, some (dueE (1 + x)), some (dueE (1 + x))], M2) := by
    have q : fCons (fCall 1 F_fewest_calls [] (fCons (fVar 4) (fNil))) (fCons (fCall 1 F__law_due [] (fCons (fVar 4) (fNil))) (fNil)) [sc, some (.r k), some t, o3, some (iE (1 + x)), o5, o6, o7, o8] M1 = some (.inr [dueE (1 + x), dueE (1 + x)], M2) :=
      cons_ev (call_ev (cons_ev (var_ev (e := iE (1 + x)) rfl) nil_ev) rfl f1) (cons_ev (call_ev (cons_ev (var_ev (e := iE (1 + x)) rfl) nil_ev) rfl (due_ok M2 A1 A2)) nil_ev)
    unfold gPar
    rw [q]
    rfl
  obtain ⟨M3, f2, g2⟩ := fewest_ok M2 A1 A2
  have d3 := d2.grew g2
  have hD := dueE_cases (1 + x)
  have hE := due_eq (1 + x)
  generalize dueE (1 + x) = D at *
  -- fewest_calls(many=amount) != found
  have q2 : fTst (fBin gNe (fCallK 1 F_fewest_calls (fCons (fVar 4) (fNil))) (fVar 7)) [sc, some (.r k), some t, o3, some (iE (1 + x)), o5, o6, some D, some D] M2 = some (.inr false, M3) := by
    have q : fCallK 1 F_fewest_calls (fCons (fVar 4) (fNil)) [sc, some (.r k), some t, o3, some (iE (1 + x)), o5, o6, some D, some D] M2 = some (.inr D, M3) := by
      unfold fCallK
      rw [show fCons (fVar 4) fNil [sc, some (.r k), some t, o3, some (iE (1 + x)), o5, o6, some D, some D] M2 = some (.inr [iE (1 + x)], M2) from rfl]
      show (if [iE (1 + x)].length = 1 then (match F_fewest_calls [iE (1 + x)] M2 with | some (.inr e, M2) => some (Sum.inr e, M2) | _ => none) else none) = _
      rw [f2]
      rfl
    exact ne_ev q (var_ev rfl) (hE M3)
  -- found != due, found no int
  have q3 : fOrT (fTst (fBin gNe (fVar 7) (fVar 8))) (fAndT (fTst (fBin gIsNotN (fVar 7) (fC .non))) (fOrT (fNotT (fTst (fCallB (gIsi ct) (fCons (fVar 7) (fCons (fC (.ty "int")) (fNil)))))) (fTst (fCallB (gIsi ct) (fCons (fVar 7) (fCons (fC (.ty "bool")) (fNil))))))) [sc, some (.r k), some t, o3, some (iE (1 + x)), o5, o6, some D, some D] M3 = some (.inr false, M3) := by
    refine or_f (ne_ev (var_ev rfl) (var_ev rfl) (hE M3)) ?_
    rcases hD with ⟨i, rfl⟩ | rfl
    · refine and_t (M1 := M3) rfl (or_f (M1 := M3) rfl rfl)
    · exact and_f rfl
  -- odd
  obtain ⟨y, M4, e4, y0, y1, d4, k4⟩ := take_call (ρ := [sc, some (.r k), some t, o3, some (iE (1 + x)), o5, o6, some D, some D]) (M := M3) (fk := fVar 1) (fn := fBin (gI2 iPow) (fC (.int 10)) (fC (.int 9))) (M1 := M3) (n := 10 ^ 9) d3 (var_ev rfl) rfl (by decide) (by decide)
  obtain ⟨v, M5, e5, v0, v1, d5, k5⟩ := take_call (ρ := [sc, some (.r k), some t, o3, some (iE (1 + x)), o5, o6, some D, some D]) (M := M4) (fk := fVar 1) (fn := fC (.int 1000)) (M1 := M4) (n := 1000) d4 (var_ev rfl) rfl (by decide) (by decide)
  have q4 : gSet 5 (fLst false (fCons (fBin (gAdd false) (fC (.int 65)) (fCall 2 F__law_take [] (fCons (fVar 1) (fCons (fBin (gI2 iPow) (fC (.int 10)) (fC (.int 9))) (fNil))))) (fCons (fBin (gI2 iSub) (fC (.int 0)) (fCall 2 F__law_take [] (fCons (fVar 1) (fCons (fC (.int 1000)) (fNil))))) (fCons (fC (.int 65)) (fCons (fC (.bl true)) (fCons (fC (.bl false)) (fCons (fC (.str (PySem.Str.ofString "2"))) (fCons (fC .non) (fNil))))))))) [sc, some (.r k), some t, o3, some (iE (1 + x)), o5, o6, some D, some D] M3 = some (.nx [sc, some (.r k), some t, o3, some (iE (1 + x)), some (.p (.lst [.int (65 + y), .int (0 - v), .int 65, .bl true, .bl false, .str (PySem.Str.ofString "2"), .non])), o6, some D, some D], M5) := by
    refine set_ev (e := .p (.lst [.int (65 + y), .int (0 - v), .int 65, .bl true, .bl false, .str (PySem.Str.ofString "2"), .non])) ?_
    unfold fLst
    have q : fCons (fBin (gAdd false) (fC (.int 65)) (fCall 2 F__law_take [] (fCons (fVar 1) (fCons (fBin (gI2 iPow) (fC (.int 10)) (fC (.int 9))) (fNil))))) (fCons (fBin (gI2 iSub) (fC (.int 0)) (fCall 2 F__law_take [] (fCons (fVar 1) (fCons (fC (.int 1000)) (fNil))))) (fCons (fC (.int 65)) (fCons (fC (.bl true)) (fCons (fC (.bl false)) (fCons (fC (.str (PySem.Str.ofString "2"))) (fCons (fC .non) (fNil))))))) [sc, some (.r k), some t, o3, some (iE (1 + x)), o5, o6, some D, some D] M3 = some (.inr [iE (65 + y), iE (0 - v), iE 65, .p (.bl true), .p (.bl false), .p (.str (PySem.Str.ofString "2")), .p .non], M5) :=
      cons_ev (add_ev (c_ev (d := .int 65)) e4) (cons_ev (sub_ev (c_ev (d := .int 0)) e5) rfl)
    rw [q]
    rfl
  generalize hO : ([.int (65 + y), .int (0 - v), .int 65, .bl true, .bl false, .str (PySem.Str.ofString "2"), .non] : List PD) = O at *
  -- none
  have hlist : fBin (gAdd true) (fVar 5) (fLst true (fCons (fLst false (fCons (fC (.int 2)) (fNil))) (fCons (fTup (fCons (fC (.int 1)) (fNil))) (fCons (fDict0) (fCons (fBin (gI2 iPow) (fC (.int 10)) (fC (.int 9))) (fNil)))))) [sc, some (.r k), some t, o3, some (iE (1 + x)), some (.p (.lst O)), o6, some D, some D] M5 = some (.inr (.r (M5.length + 2)), M5 ++ [some (.dic []), some (.lst [.p (.lst [.int 2]), .p (.tup [.int 1]), .r M5.length, iE (10 ^ 9)]), some (.lst (O.map .p ++ [.p (.lst [.int 2]), .p (.tup [.int 1]), .r M5.length, iE (10 ^ 9)]))]) := by
    have q : fLst true (fCons (fLst false (fCons (fC (.int 2)) (fNil))) (fCons (fTup (fCons (fC (.int 1)) (fNil))) (fCons (fDict0) (fCons (fBin (gI2 iPow) (fC (.int 10)) (fC (.int 9))) (fNil))))) [sc, some (.r k), some t, o3, some (iE (1 + x)), some (.p (.lst O)), o6, some D, some D] M5 = some (.inr (.r (M5.length + 1)), M5 ++ [some (.dic [])] ++ [some (.lst [.p (.lst [.int 2]), .p (.tup [.int 1]), .r M5.length, iE (10 ^ 9)])]) := by
      unfold fLst
      rw [show fCons (fun ρ M => bnd (fCons (fC (.int 2)) fNil ρ M) fun xs M1 => if xs.length ≤ 16777216 then lft (mkLst false xs M1) else none) (fCons (fTup (fCons (fC (.int 1)) (fNil))) (fCons (fDict0) (fCons (fBin (gI2 iPow) (fC (.int 10)) (fC (.int 9))) (fNil)))) [sc, some (.r k), some t, o3, some (iE (1 + x)), some (.p (.lst O)), o6, some D, some D] M5 = some (.inr [.p (.lst [.int 2]), .p (.tup [.int 1]), .r M5.length, iE (10 ^ 9)], M5 ++ [some (.dic [])]) from rfl]
      show some (Sum.inr (E.r (M5 ++ [some (Cell.dic [])]).length), _) = _
      rw [List.length_append]
      rfl
    refine bin_ev (var_ev rfl) q ?_
    have hM : (M5 ++ [some (.dic [])] ++ [some (.lst [.p (.lst [.int 2]), .p (.tup [.int 1]), .r M5.length, iE (10 ^ 9)])])[M5.length + 1]? = some (some (Cell.lst [.p (.lst [.int 2]), .p (.tup [.int 1]), .r M5.length, iE (10 ^ 9)])) := by
      rw [List.getElem?_append_right (by simp)]
      simp
    have hG : gAddL true (.p (.lst O)) (.r (M5.length + 1)) (M5 ++ [some (.dic [])] ++ [some (.lst [.p (.lst [.int 2]), .p (.tup [.int 1]), .r M5.length, iE (10 ^ 9)])]) = some (.r (M5.length + 2), M5 ++ [some (.dic [])] ++ [some (.lst [.p (.lst [.int 2]), .p (.tup [.int 1]), .r M5.length, iE (10 ^ 9)])] ++ [some (.lst (O.map .p ++ [.p (.lst [.int 2]), .p (.tup [.int 1]), .r M5.length, iE (10 ^ 9)]))]) := by
      have r := addL_ev (M := M5 ++ [some (.dic [])] ++ [some (.lst [.p (.lst [.int 2]), .p (.tup [.int 1]), .r M5.length, iE (10 ^ 9)])]) (a := .p (.lst O)) (b := .r (M5.length + 1)) (x := O.map .p) (y := [.p (.lst [.int 2]), .p (.tup [.int 1]), .r M5.length, iE (10 ^ 9)]) rfl (by
        show (match (M5 ++ [some (.dic [])] ++ [some (.lst [.p (.lst [.int 2]), .p (.tup [.int 1]), .r M5.length, iE (10 ^ 9)])])[M5.length + 1]? with | some (some (.lst es)) => some es | _ => none) = _
        rw [hM]) (by subst hO; simp)
      rw [r]
      simp
    subst hO
    show (match gAddL true _ _ _ with | some r => some r | none => _) = _
    rw [hG]
    simp
  have kl : k < M5.length := by
    obtain ⟨q, gs, cs, r, t', m, DD, _⟩ := d5
    exact (List.getElem?_eq_some_iff.mp DD.a).1
  have g6 : Grew M5 (M5 ++ [some (.dic []), some (.lst [.p (.lst [.int 2]), .p (.tup [.int 1]), .r M5.length, iE (10 ^ 9)]), some (.lst (O.map .p ++ [.p (.lst [.int 2]), .p (.tup [.int 1]), .r M5.length, iE (10 ^ 9)]))]) := .app _
  have d6 := d5.grew g6
  obtain ⟨w, M7, hw, e7, d7, k7⟩ := pick_ok (idx := M5.length + 2) (es := O.map .p ++ [.p (.lst [.int 2]), .p (.tup [.int 1]), .r M5.length, iE (10 ^ 9)]) d6 (by rw [List.getElem?_append_right (by omega)]; simp) (by omega) (by simp) (by subst hO; simp) (fun l q => by
    subst hO
    have h3 := congrArg (fun z => z[3]?) q
    simp only [List.getElem?_map] at h3
    cases h4 : l[3]? with
    | none => rw [h4] at h3; cases h3
    | some i => rw [h4] at h3; cases h3)
  have hd7 : M7[M5.length]? = some (some (.dic [])) := k7.2 M5.length _ (by rw [List.getElem?_append_right (Nat.le_refl _)]; simp) (by omega) (fun es q => by cases q)
  have hbad : BadN M7 w := by
    subst hO
    simp only [List.map_cons, List.map_nil, List.cons_append, List.nil_append, List.mem_cons, List.not_mem_nil, or_false] at hw
    rcases hw with rfl | rfl | rfl | rfl | rfl | rfl | rfl | rfl | rfl | rfl | rfl
    · exact .int (.inr (by omega))
    · exact .int (.inl (by omega))
    · exact .int (.inr (by decide))
    · exact .bl _
    · exact .bl _
    · exact .str _
    · exact .non
    · exact .lst _
    · exact .tup _
    · exact .dic hd7
    · exact .int (.inr (by decide))
  have q6 : gSet 6 (fCall 2 F__law_pick [] (fCons (fVar 1) (fCons (fBin (gAdd true) (fVar 5) (fLst true (fCons (fLst false (fCons (fC (.int 2)) (fNil))) (fCons (fTup (fCons (fC (.int 1)) (fNil))) (fCons (fDict0) (fCons (fBin (gI2 iPow) (fC (.int 10)) (fC (.int 9))) (fNil))))))) (fNil)))) [sc, some (.r k), some t, o3, some (iE (1 + x)), some (.p (.lst O)), o6, some D, some D] M5 = some (.nx [sc, some (.r k), some t, o3, some (iE (1 + x)), some (.p (.lst O)), some w, some D, some D], M7) :=
    set_ev (call_ev (cons_ev (var_ev rfl) (cons_ev hlist nil_ev)) rfl e7)
  have q7 : gIf (fNotT (fTst (fLam 9 [6] (fCall 1 F_fewest_calls [] (fCons (fVar 6) (fNil))) postNN))) (gRet (fC (.bl false))) (gNext) [sc, some (.r k), some t, o3, some (iE (1 + x)), some (.p (.lst O)), some w, some D, some D] M7 = some (.nx [sc, some (.r k), some t, o3, some (iE (1 + x)), some (.p (.lst O)), some w, some D, some D], M7) :=
    (if_f (not_ev (tst_ev (lam_ev hbad)))).trans rfl
  refine ⟨some (iE (1 + x)), some (.p (.lst O)), some D, some D, some w, M7, ?_, d7⟩
  unfold gL
  rw [seq_ev (show gSet 4 _ [sc, some (.r k), some t, o3, o4, o5, o6, o7, o8] M = some (.nx [sc, some (.r k), some t, o3, some (iE (1 + x)), o5, o6, o7, o8], M1) from a1)]
  rw [seq_ev p1]
  rw [seq_ev ((if_f q2).trans rfl), seq_ev ((if_f q3).trans rfl), seq_ev q4, seq_ev q6]
  exact q7
/-- the loop -/
theorem turns_ok {sc : Option E} {k : Nat} {n : Nat} : ∀ (m j : Nat) (M : Store) (o2 o3 o4 o5 o6 o7 o8 : Option E), j + m = n → DrOk M k → ∃ p2 p4 p5 p6 p7 p8 M', forN (fixIt (rangeE 0 n)) (gtName 2) gL m j [sc, some (.r k), o2, o3, o4, o5, o6, o7, o8] M = some (.nx [sc, some (.r k), p2, o3, p4, p5, p6, p7, p8], M') ∧ DrOk M' k := by
  intro m
  induction m with
  | zero =>
    intro j M o2 o3 o4 o5 o6 o7 o8 h d
    exact ⟨o2, o4, o5, o6, o7, o8, M, rfl, d⟩
  | succ m ih =>
    intro j M o2 o3 o4 o5 o6 o7 o8 h d
    have hj : j < (rangeE 0 n).length := by simp [rangeE]; omega
    obtain ⟨a, o, f, u, w, M1, e1, d1⟩ := turn_ok (sc := sc) (o3 := o3) (o4 := o4) (o5 := o5) (o6 := o6) (o7 := o7) (o8 := o8) (t := (rangeE 0 n)[j]) d
    obtain ⟨p2, p4, p5, p6, p7, p8, M', e2, d2⟩ := ih (j + 1) M1 (some (rangeE 0 n)[j]) o3 a o w f u (by omega) d1
    refine ⟨p2, p4, p5, p6, p7, p8, M', ?_, d2⟩
    unfold forN
    rw [show (fixIt (rangeE 0 n)).get j M = some (rangeE 0 n)[j] from List.getElem?_eq_getElem hj]
    show (match gL [sc, some (.r k), some (rangeE 0 n)[j], o3, o4, o5, o6, o7, o8] M with | some (.nx ρ2, M2) => forN (fixIt (rangeE 0 n)) (gtName 2) gL m (j + 1) ρ2 M2 | some (.ct ρ2, M2) => forN (fixIt (rangeE 0 n)) (gtName 2) gL m (j + 1) ρ2 M2 | some (.bk ρ2, M2) => some (Fl.nx ρ2, M2) | r => r) = _
    rw [e1]
    exact e2
/-- the law, given what the trying tells -/
theorem law_of (tried : ∀ (M : Store) (a : Int), 1 ≤ a → a ≤ 6 → ∃ M', F__law_tried [iE a] M = some (.inr (dueE a), M')) (ns : List Int) (hl : ns.length ≤ 63) : ∃ M', F_law [.p (.scr (ns.map .int))] [] = some (.inr (.p (.bl true)), M') := by
  obtain ⟨k, M1, e1, d1⟩ := begun_ok ns hl
  let n : Nat := (if (if (ns.length : Int) < 8 then (ns.length : Int) else 8) > 1 then (if (ns.length : Int) < 8 then (ns.length : Int) else 8) else 1).toNat
  let sc : Option E := some (.p (.scr (ns.map .int)))
  obtain ⟨p2, p4, p5, p6, p7, p8, M2, e2, d2⟩ := turns_ok (sc := sc) (k := k) (n := n) n 0 M1 none none none none none none none (by omega) d1
  have s1 : gSet 1 (fCall 1 F__law_begun [] (fCons (fVar 0) (fNil))) [sc, none, none, none, none, none, none, none, none] [] = some (.nx [sc, some (.r k), none, none, none, none, none, none, none], M1) := set_ev (call_ev (cons_ev (var_ev rfl) nil_ev) rfl e1)
  have it : (fItA rngIt1 (fCons (fCallB gMax2 (fCons (fC (.int 1)) (fCons (fCallB gMin2 (fCons (fC (.int 8)) (fCons (fCallB gLen (fCons (fVar 0) (fNil))) (fNil)))) (fNil)))) (fNil))) [sc, some (.r k), none, none, none, none, none, none, none] M1 = some (.inr (fixIt (rangeE 0 n)), M1) := by
    have l1 : fCallB gLen (fCons (fVar 0) (fNil)) [sc, some (.r k), none, none, none, none, none, none, none] M1 = some (.inr (iE ns.length), M1) := by
      refine callB_ev (cons_ev (var_ev rfl) nil_ev) ?_
      show some (E.p (.int ((ns.map PD.int).length : Int)), M1) = _
      rw [List.length_map]; rfl
    have l2 : fCallB gMin2 (fCons (fC (.int 8)) (fCons (fCallB gLen (fCons (fVar 0) (fNil))) (fNil))) [sc, some (.r k), none, none, none, none, none, none, none] M1 = some (.inr (iE (if (ns.length : Int) < 8 then (ns.length : Int) else 8)), M1) := callB_ev (cons_ev (c_ev (d := .int 8)) (cons_ev l1 nil_ev)) rfl
    have l3 := callB_ev (M := M1) (ρ := [sc, some (.r k), none, none, none, none, none, none, none]) (g := gMax2) (cons_ev (c_ev (d := .int 1)) (cons_ev l2 nil_ev)) (e := iE (if (if (ns.length : Int) < 8 then (ns.length : Int) else 8) > 1 then (if (ns.length : Int) < 8 then (ns.length : Int) else 8) else 1)) rfl
    unfold fItA
    rw [cons_ev l3 nil_ev]
    show (match (if okR (if (if (ns.length : Int) < 8 then (ns.length : Int) else 8) > 1 then (if (ns.length : Int) < 8 then (ns.length : Int) else 8) else 1) = true then some (fixIt (rangeE 0 n)) else none) with | some t => some (Sum.inr t, M1) | none => none) = _
    rw [if_pos]
    unfold okR
    simp only [Bool.and_eq_true, decide_eq_true_eq]
    split <;> split <;> omega
  obtain ⟨x, M3, e3, x0, x1, d3, _⟩ := take_call (ρ := [sc, some (.r k), p2, none, p4, p5, p6, p7, p8]) (fk := fVar 1) (fn := fC (.int 6)) (M1 := M2) (n := 6) d2 (var_ev rfl) rfl (by decide) (by decide)
  obtain ⟨M4, e4, _⟩ := fewest_ok M3 (a := 1 + x) (by omega) (by omega)
  obtain ⟨M5, e5⟩ := tried M4 (1 + x) (by omega) (by omega)
  refine ⟨M5, fn_rt (N := 9) (es := [.p (.scr (ns.map .int))]) ?_⟩
  show B_law [sc, none, none, none, none, none, none, none, none] [] = _
  unfold B_law
  rw [seq_ev s1]
  rw [seq_ev (ρ1 := [sc, some (.r k), p2, none, p4, p5, p6, p7, p8]) (M1 := M2) (by
    unfold gFor
    rw [it]
    show forN (fixIt (rangeE 0 n)) (gtName 2) gL (rangeE 0 n).length 0 [sc, some (.r k), none, none, none, none, none, none, none] M1 = _
    rw [show (rangeE 0 n).length = n by simp [rangeE]]
    exact e2)]
  rw [seq_ev (show gSet 3 _ [sc, some (.r k), p2, none, p4, p5, p6, p7, p8] M2 = some (.nx [sc, some (.r k), p2, some (iE (1 + x)), p4, p5, p6, p7, p8], M3) from set_ev (add_ev (c_ev (d := .int 1)) e3))]
  exact ret_ev (bin_ev (call_ev (cons_ev (var_ev (e := iE (1 + x)) rfl) nil_ev) rfl e4) (call_ev (cons_ev (var_ev (e := iE (1 + x)) rfl) nil_ev) rfl e5) (by unfold gEq; rw [due_eq]; rfl))
end
end K16

-- Q10
namespace K16
open PySem L2 Pl
def eqL : List Nat → List Nat → Bool
  | [], [] => true
  | a :: l, b :: m => match Nat.beq a b with
    | true => eqL l m
    | false => false
  | _, _ => false
def memL (x : List Nat) : List (List Nat) → Bool
  | [] => false
  | y :: ys => match eqL x y with
    | true => true
    | false => memL x ys
def pc (a : Nat) : Nat := a % 2 + a / 2 % 2 + a / 4 % 2 + a / 8 % 2 + a / 16 % 2 + a / 32 % 2
def newM (s : List Nat) (u i j : Nat) : Nat → List Nat
  | k => match s with
    | [] => []
    | a :: r => (match Nat.beq k i with | true => u | false => match Nat.beq k j with | true => u | false => a) :: newM r u i j (k + 1)
/-- what comes of person i, mask a, with those behind -/
def inn (s : List Nat) (i a : Nat) : Nat → List Nat → List (List Nat)
  | _, [] => []
  | j, b :: r => match Nat.beq (pc a) (pc b) with
    | true => (match Nat.beq a b with
      | true => inn s i a (j + 1) r
      | false => newM s (a ||| b) i j 0 :: inn s i a (j + 1) r)
    | false => inn s i a (j + 1) r
def out (s : List Nat) : Nat → List Nat → List (List Nat)
  | _, [] => []
  | i, a :: r => inn s i a (i + 1) r ++ out s (i + 1) r
def laterM (s : List Nat) : List (List Nat) := out s 0 s
/-- seen (the newest first), new ones (the newest first) -/
def addA : List (List Nat) → List (List Nat) → List (List Nat) → List (List Nat) × List (List Nat)
  | [], se, la => (se, la)
  | t :: ts, se, la => match memL t se with
    | true => addA ts se la
    | false => addA ts (t :: se) (t :: la)
def addL : List (List Nat) → List (List Nat) → List (List Nat) → List (List Nat) × List (List Nat)
  | [], se, la => (se, la)
  | s :: ss, se, la => match addA (laterM s) se la with
    | (se, la) => addL ss se la
def bfs (w : List Nat) : Nat → List (List Nat) → List (List Nat) → Nat → Option Nat
  | 0, _, _, _ => none
  | n + 1, line, se, c => match line with
    | [] => none
    | _ => match memL w line with
      | true => some c
      | false => match addL line se [] with
        | (se, la) => bfs w n la.reverse se (c + 1)

def bit (a k : Nat) : List Int := match Nat.beq (a / 2 ^ k % 2) 1 with
  | true => [(k : Int)]
  | false => []
def bits (a : Nat) : List Int := bit a 0 ++ (bit a 1 ++ (bit a 2 ++ (bit a 3 ++ (bit a 4 ++ bit a 5))))
def tP (a : Nat) : PD := .tup ((bits a).map .int)
def stP (m : List Nat) : PD := .tup (m.map tP)
def tD (a : Nat) : PyData := .tuple ((bits a).map .int)
def stD (m : List Nat) : PyData := .tuple (m.map tD)
def Ok64 (m : List Nat) : Prop := ∀ a ∈ m, a < 64
theorem bits_len : ∀ a, a < 64 → (bits a).length = pc a := by decide +kernel
theorem bits_or : ∀ a, a < 64 → ∀ b, b < 64 → usort (bits a ++ bits b) = bits (a ||| b) := by decide +kernel
theorem bits_inj : ∀ a, a < 64 → ∀ b, b < 64 → bits a = bits b → a = b := by decide +kernel
theorem or_lt : ∀ a, a < 64 → ∀ b, b < 64 → a ||| b < 64 := by decide +kernel
theorem pc_le : ∀ a, a < 64 → pc a ≤ 6 := by decide +kernel
theorem eqL_iff : ∀ {x y : List Nat}, eqL x y = true ↔ x = y
  | [], [] => by simp [eqL]
  | [], _ :: _ => by simp [eqL]
  | _ :: _, [] => by simp [eqL]
  | a :: l, b :: m => by
    unfold eqL
    cases h : Nat.beq a b with
    | true =>
      have := Nat.eq_of_beq_eq_true h
      subst this
      simp [eqL_iff (x := l) (y := m)]
    | false =>
      have := Nat.ne_of_beq_eq_false h
      simp [this]
theorem memL_iff {x : List Nat} : ∀ {ys : List (List Nat)}, memL x ys = true ↔ x ∈ ys
  | [] => by simp [memL]
  | y :: ys => by
    unfold memL
    cases h : eqL x y with
    | true => simp [eqL_iff.mp h]
    | false =>
      have : x ≠ y := fun e => by rw [eqL_iff.mpr e] at h; cases h
      simp [this, memL_iff (ys := ys)]
theorem eqv_ints : ∀ x y : List Int, PyData.eqvAll (x.map .int) (y.map .int) = decide (x = y)
  | [], [] => rfl
  | [], _ :: _ => rfl
  | _ :: _, [] => rfl
  | a :: l, b :: m => by
    show (a == b && PyData.eqvAll (l.map .int) (m.map .int)) = _
    rw [eqv_ints l m]
    by_cases h : a = b
    · subst h; simp
    · simp [h]
theorem eqv_tD {a b : Nat} (ha : a < 64) (hb : b < 64) : PyData.eqv (tD a) (tD b) = decide (a = b) := by
  show PyData.eqvAll _ _ = _
  rw [eqv_ints]
  by_cases h : a = b
  · subst h; simp
  · rw [decide_eq_false h, decide_eq_false fun q => h (bits_inj a ha b hb q)]
theorem eqv_stD : ∀ {x y : List Nat}, Ok64 x → Ok64 y → PyData.eqv (stD x) (stD y) = decide (x = y)
  | [], [], _, _ => rfl
  | [], _ :: _, _, _ => rfl
  | _ :: _, [], _, _ => rfl
  | a :: l, b :: m, hx, hy => by
    show (PyData.eqv (tD a) (tD b) && PyData.eqv (stD l) (stD m)) = _
    rw [eqv_tD (hx a List.mem_cons_self) (hy b List.mem_cons_self), eqv_stD (fun c h => hx c (List.mem_cons_of_mem _ h)) (fun c h => hy c (List.mem_cons_of_mem _ h))]
    by_cases h : a = b
    · subst h; simp
    · simp [h]
theorem toPys_of {α : Type} {f : α → PD} {g : α → PyData} (h : ∀ a, toPy (f a) = some (g a)) : ∀ l : List α, toPys (l.map f) = some (l.map g)
  | [] => rfl
  | a :: l => by show toPys (f a :: l.map f) = _; unfold toPys; rw [h, toPys_of h l]; rfl
theorem toPy_tP (a : Nat) : toPy (tP a) = some (tD a) := by
  show toPy (.tup _) = _
  unfold toPy
  rw [toPys_ints]; rfl
theorem toPy_stP (m : List Nat) : toPy (stP m) = some (stD m) := by
  show toPy (.tup _) = _
  unfold toPy
  rw [toPys_of toPy_tP]; rfl
theorem depth_ints : ∀ l : List Int, PyData.depthAll (l.map .int) ≤ 1
  | [] => by simp [PyData.depthAll]
  | a :: l => by
    have := depth_ints l
    show max (PyData.depth (.int a)) (PyData.depthAll (l.map .int)) ≤ 1
    have h : PyData.depth (.int a) = 0 := rfl
    omega
theorem depth_tD (a : Nat) : (tD a).depth ≤ 2 := by
  have := depth_ints (bits a)
  show PyData.depthAll _ + 1 ≤ 2
  omega
theorem depth_stD (m : List Nat) : (stD m).depth ≤ 3 := by
  have : ∀ l : List Nat, PyData.depthAll (l.map tD) ≤ 2 := fun l => by
    induction l with
    | nil => simp [PyData.depthAll]
    | cons a l ih =>
      have := depth_tD a
      show max (tD a).depth (PyData.depthAll (l.map tD)) ≤ 2
      omega
  have := this m
  show PyData.depthAll _ + 1 ≤ 3
  omega
section
variable {M : Store} {ρ : Pl.Env}
theorem pyEq_tP {a b : Nat} (ha : a < 64) (hb : b < 64) : pyEq M (.p (tP a)) (.p (tP b)) = some (decide (a = b)) := by
  unfold pyEq
  show (match toPy (tP a), toPy (tP b) with | some x, some y => if min x.depth y.depth ≤ 60 then some (PyData.eqv x y) else none | _, _ => none) = _
  rw [toPy_tP, toPy_tP]
  have := depth_tD a
  show (if min (tD a).depth (tD b).depth ≤ 60 then some (PyData.eqv (tD a) (tD b)) else none) = _
  rw [if_pos (by omega), eqv_tD ha hb]
theorem ix_st {m : List Nat} {i : Nat} (h : i < m.length) : gIx (.p (stP m)) (iE i) M = some (.p (tP (m[i]'h)), M) := by
  have e : atI ((m.map tP).map E.p) (i : Int) = some (.p (tP (m[i]'h))) := by
    rw [atI_lt (by omega) (by simpa using h)]
    simp
  show (match (none : Option (E × Store)) with | some r => some r | none => (match (match atI ((m.map tP).map E.p) (i : Int) with | some e => some (e, M) | none => none) with | some r => some r | none => gIxS (.p (stP m)) (iE i) M)) = _
  rw [e]
theorem rangeE_get {lo : Int} {n i : Nat} (h : i < n) : (rangeE lo n)[i]? = some (iE (lo + i)) := by
  unfold rangeE
  rw [List.getElem?_map, List.getElem?_range h]
  rfl
end
end K16

-- Q11
namespace K16
open PySem L2 Pl
section
variable {M : Store} {ρ : Pl.Env}
abbrev fIx (i : Nat) : FE := fBin gIx (fVar 0) (fVar i)
abbrev cI : FT := fAndT (fTst (fBin gEq (fCallB gLen (fCons (fIx 2) (fNil))) (fCallB gLen (fCons (fIx 3) (fNil))))) (fTst (fBin gNe (fIx 2) (fIx 3)))
abbrev cB : FE := fComp false ([5] : List Nat) (fItA rngIt1 (fCons (fCallB gLen (fCons (fVar 0) (fNil))) (fNil))) (gtName 5) (fYes) (fIfE (fTst (fBin gIn (fVar 5) (fTup (fCons (fVar 2) (fCons (fVar 3) (fNil)))))) (fVar 4) (fIx 5))
abbrev gI : FS := gIf cI (gSeq (gSet 4 (fCallB gTupOf (fCons (fCallB (gSortI false) (fCons (fCallB gSetT (fCons (fBin (gAdd false) (fIx 2) (fIx 3)) (fNil))) (fNil))) (fNil)))) (gDrop (fBM isL gApp (fVar 1) (fCons (fCallB gTupOf (fCons cB (fNil))) (fNil))))) (gNext)
theorem okR_nat {n : Nat} (h : n ≤ 1000) : okR (n : Int) = true := by
  unfold okR
  simp only [Bool.and_eq_true, decide_eq_true_eq]
  constructor <;> omega
theorem rng1_ev {fa : FA} {n : Int} {M1 : Store} (ha : fa ρ M = some (.inr [iE n], M1)) (h : okR n = true) : fItA rngIt1 fa ρ M = some (.inr (fixIt (rangeE 0 n.toNat)), M1) := by
  have e : rngIt1 [iE n] = some (fixIt (rangeE 0 n.toNat)) := by
    unfold rngIt1 asInt iE
    simp only [h, if_true]
  unfold fItA
  rw [ha]
  show (match rngIt1 [iE n] with | some t => some (Sum.inr t, M1) | none => none) = _
  rw [e]
theorem rng2_ev {fa : FA} {i j : Int} {M1 : Store} (ha : fa ρ M = some (.inr [iE i, iE j], M1)) (hi : okR i = true) (hj : okR j = true) : fItA rngIt2 fa ρ M = some (.inr (fixIt (rangeE i (j - i).toNat)), M1) := by
  have e : rngIt2 [iE i, iE j] = some (fixIt (rangeE i (j - i).toNat)) := by
    unfold rngIt2 asInt iE
    simp only [hi, hj, Bool.and_self, if_true]
  unfold fItA
  rw [ha]
  show (match rngIt2 [iE i, iE j] with | some t => some (Sum.inr t, M1) | none => none) = _
  rw [e]
theorem asInts_map : ∀ l : List Int, asInts (l.map .int) = some l
  | [] => rfl
  | a :: l => by show asInts (.int a :: l.map .int) = _; unfold asInts; rw [asInts_map l]
theorem bits_le (a : Nat) : (bits a).length ≤ 6 := by
  unfold bits
  have h : ∀ k, (bit a k).length ≤ 1 := fun k => by unfold bit; split <;> simp
  have h0 := h 0; have h1 := h 1; have h2 := h 2; have h3 := h 3; have h4 := h 4; have h5 := h 5
  simp only [List.length_append]
  omega
theorem newM_len (u i j : Nat) : ∀ (s : List Nat) (k : Nat), (newM s u i j k).length = s.length
  | [], _ => rfl
  | a :: r, k => by simp [newM, newM_len u i j r (k + 1)]
theorem newM_get (u i j : Nat) : ∀ (s : List Nat) (k n : Nat) (h : n < s.length), (newM s u i j k)[n]? = some (if k + n = i ∨ k + n = j then u else s[n]'h)
  | [], _, _, h => absurd h (by simp)
  | a :: r, k, 0, h => by
    simp only [newM, List.getElem?_cons_zero, Nat.add_zero, List.getElem_cons_zero]
    cases h1 : Nat.beq k i with
    | true => rw [if_pos (.inl (Nat.eq_of_beq_eq_true h1))]
    | false =>
      cases h2 : Nat.beq k j with
      | true => rw [if_pos (.inr (Nat.eq_of_beq_eq_true h2))]
      | false =>
        have a1 := Nat.ne_of_beq_eq_false h1
        have a2 := Nat.ne_of_beq_eq_false h2
        rw [if_neg (by simp [a1, a2])]
  | a :: r, k, n + 1, h => by
    simp only [newM, List.getElem?_cons_succ, List.getElem_cons_succ]
    rw [newM_get u i j r (k + 1) n (by simpa using h), show k + 1 + n = k + (n + 1) by omega]
theorem newM_ok {u i j : Nat} (hu : u < 64) : ∀ {s : List Nat} {k : Nat}, Ok64 s → Ok64 (newM s u i j k)
  | [], _, _ => fun a h => by simp [newM] at h
  | a :: r, k, hs => fun b hb => by
    simp only [newM] at hb
    rcases List.mem_cons.mp hb with e | hb
    · rw [e]
      split
      · exact hu
      · split
        · exact hu
        · exact hs a List.mem_cons_self
    · exact newM_ok hu (fun c h => hs c (List.mem_cons_of_mem _ h)) b hb
section
variable {m : List Nat} {q : Nat} {i j : Nat} {o4 o5 : Option E}
abbrev envI (m : List Nat) (q i j : Nat) (o4 o5 : Option E) : Pl.Env := [some (.p (stP m)), some (.r q), some (iE i), some (iE j), o4, o5]
theorem cI_ev (hm : Ok64 m) (hi : i < m.length) (hj : j < m.length) : cI (envI m q i j o4 o5) M = some (.inr (Nat.beq (pc m[i]) (pc m[j]) && !decide (m[i] = m[j])), M) := by
  have i1 : fIx 2 (envI m q i j o4 o5) M = some (.inr (.p (tP m[i])), M) := bin_ev (var_ev (e := .p (stP m)) rfl) (var_ev (e := iE i) rfl) (ix_st hi)
  have i2 : fIx 3 (envI m q i j o4 o5) M = some (.inr (.p (tP m[j])), M) := bin_ev (var_ev (e := .p (stP m)) rfl) (var_ev (e := iE j) rfl) (ix_st hj)
  have hmi := hm _ (List.getElem_mem hi)
  have hmj := hm _ (List.getElem_mem hj)
  have ln : ∀ a : Nat, gLen [.p (tP a)] M = some (iE (bits a).length, M) := fun a => by
    show some (E.p (.int (((bits a).map PD.int).length : Int)), M) = _
    rw [List.length_map]; rfl
  have c1 := eq_ev (callB_ev (cons_ev i1 nil_ev) (ln m[i])) (callB_ev (cons_ev i2 nil_ev) (ln m[j]))
  have c2 := ne_ev i1 i2 (pyEq_tP hmi hmj)
  rw [bits_len _ hmi, bits_len _ hmj] at c1
  show fAndT _ _ _ M = _
  unfold fAndT
  rw [c1]
  show (if decide ((pc m[i] : Int) = pc m[j]) = true then _ else _) = _
  by_cases h : pc m[i] = pc m[j]
  · rw [show decide ((pc m[i] : Int) = pc m[j]) = true by simp [h], if_pos rfl, h, Nat.beq_refl, Bool.true_and]
    exact c2
  · rw [show decide ((pc m[i] : Int) = pc m[j]) = false by simp; omega, if_neg (by simp), show Nat.beq (pc m[i]) (pc m[j]) = false from by
      cases hh : Nat.beq (pc m[i]) (pc m[j]) with
      | false => rfl
      | true => exact absurd (Nat.eq_of_beq_eq_true hh) h]
    rfl
theorem both_ev (hm : Ok64 m) (hi : i < m.length) (hj : j < m.length) : fCallB gTupOf (fCons (fCallB (gSortI false) (fCons (fCallB gSetT (fCons (fBin (gAdd false) (fIx 2) (fIx 3)) (fNil))) (fNil))) (fNil)) (envI m q i j o4 o5) M = some (.inr (.p (tP (m[i] ||| m[j]))), M) := by
  have i1 : fIx 2 (envI m q i j o4 o5) M = some (.inr (.p (tP m[i])), M) := bin_ev (var_ev (e := .p (stP m)) rfl) (var_ev (e := iE i) rfl) (ix_st hi)
  have i2 : fIx 3 (envI m q i j o4 o5) M = some (.inr (.p (tP m[j])), M) := bin_ev (var_ev (e := .p (stP m)) rfl) (var_ev (e := iE j) rfl) (ix_st hj)
  have hmi := hm _ (List.getElem_mem hi)
  have hmj := hm _ (List.getElem_mem hj)
  have b1 := bits_le m[i]
  have b2 := bits_le m[j]
  have a1 : gAdd false (.p (tP m[i])) (.p (tP m[j])) M = some (.p (.tup ((bits m[i] ++ bits m[j]).map .int)), M) := by
    show (if ((bits m[i]).map PD.int).length + ((bits m[j]).map PD.int).length ≤ 16777216 then some (E.p (.tup ((bits m[i]).map PD.int ++ (bits m[j]).map PD.int)), M) else none) = _
    rw [List.length_map, List.length_map, if_pos (by omega), List.map_append]
  have a2 : gSetT [.p (.tup ((bits m[i] ++ bits m[j]).map .int))] M = some (.p (.iset (bits m[i] ++ bits m[j])), M) := by
    show (match asInts ((bits m[i] ++ bits m[j]).map .int) with | some ks => if ks.length < 1000 then some (E.p (.iset ks), M) else none | none => none) = _
    rw [asInts_map]
    show (if (bits m[i] ++ bits m[j]).length < 1000 then _ else none) = _
    rw [if_pos (by rw [List.length_append]; omega)]
  have a3 : gSortI false [.p (.iset (bits m[i] ++ bits m[j]))] M = some (.p (.lst ((bits (m[i] ||| m[j])).map .int)), M) := by
    show (if (bits m[i] ++ bits m[j]).length < 64 then mkLst false ((usort (bits m[i] ++ bits m[j])).map fun k => E.p (.int k)) M else none) = _
    rw [if_pos (by rw [List.length_append]; omega), bits_or _ hmi _ hmj]
    exact mk_frz PD.int _
  have a4 : gTupOf [.p (.lst ((bits (m[i] ||| m[j])).map .int))] M = some (.p (tP (m[i] ||| m[j])), M) := by
    show mkTup (((bits (m[i] ||| m[j])).map PD.int).map E.p) M = _
    unfold mkTup
    rw [asPs_map]
    rfl
  exact callB_ev (cons_ev (callB_ev (cons_ev (callB_ev (cons_ev (bin_ev i1 i2 a1) nil_ev) a2) nil_ev) a3) nil_ev) a4
theorem in2_ev (k i j : Nat) : pyIn M (iE k) (.p (.tup [.int i, .int j])) = some (decide (k = i ∨ k = j)) := by
  show (if min (PyData.depthAll [.int i, .int j]) 0 ≤ 60 then some ((([.int (i : Int), .int j] : List PyData)).any fun y => PyData.eqv y (.int k)) else none) = _
  rw [if_pos (by omega)]
  show some (((i : Int) == k) || (((j : Int) == k) || false)) = _
  have h1 : ((i : Int) == k) = decide (k = i) := by
    by_cases h : k = i
    · subst h; simp
    · rw [decide_eq_false h]; simp; omega
  have h2 : ((j : Int) == k) = decide (k = j) := by
    by_cases h : k = j
    · subst h; simp
    · rw [decide_eq_false h]; simp; omega
  rw [h1, h2, Bool.or_false, Bool.decide_or]
theorem cB_ev (hm : Ok64 m) (hl : m.length ≤ 6) (u : Nat) (hi : i < m.length) (hj : j < m.length) : fCallB gTupOf (fCons cB (fNil)) (envI m q i j (some (.p (tP u))) o5) M = some (.inr (.p (stP (newM m u i j 0))), M) := by
  have c1 : cB (envI m q i j (some (.p (tP u))) o5) M = some (.inr (.p (.lst ((newM m u i j 0).map tP))), M) := by
    refine comp_ev2 (es := rangeE 0 m.length) (ρf := fun e => [some (.p (stP m)), some (.r q), some (iE i), some (iE j), some (.p (tP u)), some e]) (p := fun _ => true) (f := fun e => match e with | .p (.int k) => .p (tP ((newM m u i j 0).getD k.toNat 0)) | e => e) (r := (.p (.lst ((newM m u i j 0).map tP)), M)) ?_ (by simp [rangeE]; omega) (fun _ _ => rfl) (fun _ _ => rfl) (fun e he _ => ?_) ?_
    · have l1 : fCallB gLen (fCons (fVar 0) (fNil)) (envI m q i j (some (.p (tP u))) o5) M = some (.inr (iE m.length), M) := by
        refine callB_ev (cons_ev (var_ev (e := .p (stP m)) rfl) nil_ev) ?_
        show some (E.p (.int ((m.map tP).length : Int)), M) = _
        rw [List.length_map]; rfl
      have := rng1_ev (cons_ev l1 nil_ev) (okR_nat (n := m.length) (by omega))
      rw [Int.toNat_natCast] at this
      exact this
    · obtain ⟨k, hk, rfl⟩ := List.mem_map.mp he
      have hk : k < m.length := List.mem_range.mp hk
      have e0 : (0 : Int) + k = k := Int.zero_add _
      rw [e0]
      have t1 : fTst (fBin gIn (fVar 5) (fTup (fCons (fVar 2) (fCons (fVar 3) (fNil))))) [some (.p (stP m)), some (.r q), some (iE i), some (iE j), some (.p (tP u)), some (iE k)] M = some (.inr (decide (k = i ∨ k = j)), M) :=
        tst_ev (bin_ev (var_ev (e := iE k) rfl) (y := .p (.tup [.int i, .int j])) rfl (by unfold gIn; rw [in2_ev]; rfl))
      have g1 : (newM m u i j 0).getD k 0 = if k = i ∨ k = j then u else m[k] := by
        rw [List.getD_eq_getElem?_getD, newM_get u i j m 0 k hk, Nat.zero_add]
        rfl
      show fIfE _ _ _ [some (.p (stP m)), some (.r q), some (iE i), some (iE j), some (.p (tP u)), some (iE k)] M = some (.inr (.p (tP ((newM m u i j 0).getD (k : Int).toNat 0))), M)
      rw [Int.toNat_natCast, g1]
      unfold fIfE
      rw [t1]
      show (if decide (k = i ∨ k = j) = true then _ else _) = _
      by_cases h : k = i ∨ k = j
      · rw [if_pos (decide_eq_true h), if_pos h]; rfl
      · rw [if_neg (by simpa using h), if_neg h]
        exact bin_ev (var_ev (e := .p (stP m)) rfl) (var_ev (e := iE k) rfl) (ix_st hk)
    · rw [filter_yes]
      have : (rangeE 0 m.length).map (fun e => match e with | .p (.int k) => E.p (tP ((newM m u i j 0).getD k.toNat 0)) | e => e) = (newM m u i j 0).map fun a => E.p (tP a) := by
        apply List.ext_getElem?
        intro n
        unfold rangeE
        rw [List.map_map, List.getElem?_map, List.getElem?_map]
        by_cases h : n < m.length
        · rw [List.getElem?_range h, newM_get u i j m 0 n h]
          show some (E.p (tP ((newM m u i j 0).getD ((0 : Int) + (n : Int)).toNat 0))) = _
          rw [Int.zero_add, Int.toNat_natCast, List.getD_eq_getElem?_getD, newM_get u i j m 0 n h]
          rfl
        · rw [List.getElem?_eq_none (by simpa using h), List.getElem?_eq_none (by rw [newM_len]; omega)]
          rfl
      rw [this]
      exact mk_frz tP _
  refine callB_ev (cons_ev c1 nil_ev) ?_
  show mkTup (((newM m u i j 0).map tP).map E.p) M = _
  unfold mkTup
  rw [asPs_map]
  rfl
/-- one pair -/
theorem gI_ev {xs : List E} (hm : Ok64 m) (hl : m.length ≤ 6) (hi : i < m.length) (hj : j < m.length) (hM : M[q]? = some (some (.lst xs))) (hx : xs.length < 16777216) :
    ∃ o4', gI (envI m q i j o4 o5) M = some (.nx (envI m q i j o4' o5), if (Nat.beq (pc m[i]) (pc m[j]) && !decide (m[i] = m[j])) = true then M.set q (some (.lst (xs ++ [.p (stP (newM m (m[i] ||| m[j]) i j 0))]))) else M) := by
  have c := cI_ev (M := M) (q := q) (o4 := o4) (o5 := o5) hm hi hj
  by_cases h : (Nat.beq (pc m[i]) (pc m[j]) && !decide (m[i] = m[j])) = true
  · rw [h] at c
    refine ⟨some (.p (tP (m[i] ||| m[j]))), ?_⟩
    rw [if_pos h]
    show gIf cI _ _ _ M = _
    rw [if_t c]
    rw [seq_ev (show gSet 4 _ (envI m q i j o4 o5) M = some (.nx (envI m q i j (some (.p (tP (m[i] ||| m[j])))) o5), M) from set_ev (both_ev hm hi hj))]
    unfold gDrop
    rw [app_ev (n := q) (xs := xs) (y := .p (stP (newM m (m[i] ||| m[j]) i j 0))) (var_ev rfl) (cons_ev (cB_ev hm hl _ hi hj) nil_ev) hM hx]
    rfl
  · have h' : (Nat.beq (pc m[i]) (pc m[j]) && !decide (m[i] = m[j])) = false := by simpa using h
    rw [h'] at c
    refine ⟨o4, ?_⟩
    rw [if_neg h]
    exact (if_f c).trans rfl
end
end
end K16

-- Q12
namespace K16
open PySem L2 Pl
theorem forN_nx {t : It0} {tg : GT} {g : FS} {k i : Nat} {e : E} {ρ ρ1 ρ2 : Pl.Env} {M M1 M2 : Store} (h1 : t.get i M = some e) (h2 : tg e ρ M = some (.inr ρ1, M1)) (h3 : g ρ1 M1 = some (.nx ρ2, M2)) : forN t tg g (k + 1) i ρ M = forN t tg g k (i + 1) ρ2 M2 := by
  conv => lhs; unfold forN
  rw [h1]
  simp only [h2, h3]
section
variable {m : List Nat} {q : Nat} {o5 : Option E}
def sE (s : List Nat) : E := .p (stP s)
theorem inn_len (s : List Nat) (i a : Nat) : ∀ (j : Nat) (r : List Nat), (inn s i a j r).length ≤ r.length
  | _, [] => by simp [inn]
  | j, b :: r => by
    have := inn_len s i a (j + 1) r
    unfold inn
    split
    · split <;> simp <;> omega
    · simp; omega
theorem inner_ev (hm : Ok64 m) (hl : m.length ≤ 6) {i n : Nat} (hi : i < m.length) (hn : n = m.length - (i + 1)) : ∀ (cnt d : Nat) (M : Store) (xs : List E) (o3 o4 : Option E), d + cnt = n → M[q]? = some (some (.lst xs)) → xs.length + cnt < 1000 →
    ∃ o3' o4' M', forN (fixIt (rangeE ((i : Int) + 1) n)) (gtName 3) gI cnt d [some (.p (stP m)), some (.r q), some (iE i), o3, o4, o5] M = some (.nx [some (.p (stP m)), some (.r q), some (iE i), o3', o4', o5], M') ∧ M'[q]? = some (some (.lst (xs ++ (inn m i m[i] (i + 1 + d) (m.drop (i + 1 + d))).map sE))) ∧ M'.length = M.length ∧ ∀ j, j ≠ q → M'[j]? = M[j]? := by
  intro cnt
  induction cnt with
  | zero =>
    intro d M xs o3 o4 hd hM hx
    refine ⟨o3, o4, M, rfl, ?_, rfl, fun _ _ => rfl⟩
    rw [List.drop_eq_nil_of_le (by omega)]
    simpa [inn] using hM
  | succ cnt ih =>
    intro d M xs o3 o4 hd hM hx
    have hj : i + 1 + d < m.length := by omega
    have hq : q < M.length := (List.getElem?_eq_some_iff.mp hM).1
    have eI : (i : Int) + 1 + (d : Int) = ((i + 1 + d : Nat) : Int) := by omega
    obtain ⟨o4', e1⟩ := gI_ev (M := M) (q := q) (i := i) (j := i + 1 + d) (o4 := o4) (o5 := o5) hm hl hi hj hM (by omega)
    have step : ∀ (M1 : Store) (ys : List E), gI (envI m q i (i + 1 + d) o4 o5) M = some (.nx (envI m q i (i + 1 + d) o4' o5), M1) → M1[q]? = some (some (.lst ys)) → ys.length ≤ xs.length + 1 → M1.length = M.length → (∀ j, j ≠ q → M1[j]? = M[j]?) → ys ++ (inn m i m[i] (i + 1 + (d + 1)) (m.drop (i + 1 + (d + 1)))).map sE = xs ++ (inn m i m[i] (i + 1 + d) (m.drop (i + 1 + d))).map sE →
        ∃ o3' o4' M', forN (fixIt (rangeE ((i : Int) + 1) n)) (gtName 3) gI (cnt + 1) d [some (.p (stP m)), some (.r q), some (iE i), o3, o4, o5] M = some (.nx [some (.p (stP m)), some (.r q), some (iE i), o3', o4', o5], M') ∧ M'[q]? = some (some (.lst (xs ++ (inn m i m[i] (i + 1 + d) (m.drop (i + 1 + d))).map sE))) ∧ M'.length = M.length ∧ ∀ j, j ≠ q → M'[j]? = M[j]? := fun M1 ys g1 h1 h2 h3 h4 h5 => by
      obtain ⟨p3, p4, M', f1, f2, f3, f4⟩ := ih (d + 1) M1 ys (some (iE ((i + 1 + d : Nat) : Int))) o4' (by omega) h1 (by omega)
      refine ⟨p3, p4, M', ?_, by rw [← h5]; exact f2, f3.trans h3, fun j hj => (f4 j hj).trans (h4 j hj)⟩
      have k1 : (fixIt (rangeE ((i : Int) + 1) n)).get d M = some (iE ((i + 1 + d : Nat) : Int)) := by
        have := rangeE_get (lo := (i : Int) + 1) (n := n) (i := d) (by omega)
        rw [eI] at this
        exact this
      rw [forN_nx k1 (ρ1 := envI m q i (i + 1 + d) o4 o5) (M1 := M) rfl g1]
      exact f1
    rw [List.drop_eq_getElem_cons hj]
    have ed : i + 1 + d + 1 = i + 1 + (d + 1) := by omega
    by_cases hc : (Nat.beq (pc m[i]) (pc m[i + 1 + d]) && !decide (m[i] = m[i + 1 + d])) = true
    · rw [if_pos hc] at e1
      simp only [Bool.and_eq_true, Bool.not_eq_true', decide_eq_false_iff_not] at hc
      have hinn : inn m i m[i] (i + 1 + d) (m[i + 1 + d] :: m.drop (i + 1 + d + 1)) = newM m (m[i] ||| m[i + 1 + d]) i (i + 1 + d) 0 :: inn m i m[i] (i + 1 + (d + 1)) (m.drop (i + 1 + (d + 1))) := by
        conv => lhs; unfold inn
        rw [hc.1, show Nat.beq m[i] m[i + 1 + d] = false from by
          cases hh : Nat.beq m[i] m[i + 1 + d] with
          | false => rfl
          | true => exact absurd (Nat.eq_of_beq_eq_true hh) hc.2]
        rw [ed]
      rw [List.drop_eq_getElem_cons hj] at step
      refine step _ (xs ++ [.p (stP (newM m (m[i] ||| m[i + 1 + d]) i (i + 1 + d) 0))]) e1 (by rw [List.getElem?_set_self hq]) (by simp) (by simp) (fun j hj => by rw [List.getElem?_set_ne (Ne.symm hj)]) ?_
      rw [hinn, List.map_cons, List.append_assoc]
      rfl
    · rw [if_neg hc] at e1
      have hinn : inn m i m[i] (i + 1 + d) (m[i + 1 + d] :: m.drop (i + 1 + d + 1)) = inn m i m[i] (i + 1 + (d + 1)) (m.drop (i + 1 + (d + 1))) := by
        conv => lhs; unfold inn
        cases h1 : Nat.beq (pc m[i]) (pc m[i + 1 + d]) with
        | false => rw [ed]
        | true =>
          cases h2 : Nat.beq m[i] m[i + 1 + d] with
          | true => rw [ed]
          | false =>
            have := Nat.ne_of_beq_eq_false h2
            rw [h1] at hc
            simp [this] at hc
      rw [List.drop_eq_getElem_cons hj] at step
      refine step M xs e1 hM (by omega) rfl (fun _ _ => rfl) ?_
      rw [hinn]
abbrev gO : FS := gFor (fItA rngIt2 (fCons (fBin (gAdd false) (fVar 2) (fC (.int 1))) (fCons (fCallB gLen (fCons (fVar 0) (fNil))) (fNil)))) (gtName 3) gI
theorem gO_ev (hm : Ok64 m) (hl : m.length ≤ 6) {i : Nat} (hi : i < m.length) {M : Store} {xs : List E} {o3 o4 : Option E} (hM : M[q]? = some (some (.lst xs))) (hx : xs.length < 900) :
    ∃ o3' o4' M', gO [some (.p (stP m)), some (.r q), some (iE i), o3, o4, o5] M = some (.nx [some (.p (stP m)), some (.r q), some (iE i), o3', o4', o5], M') ∧ M'[q]? = some (some (.lst (xs ++ (inn m i m[i] (i + 1) (m.drop (i + 1))).map sE))) ∧ M'.length = M.length ∧ ∀ j, j ≠ q → M'[j]? = M[j]? := by
  have l1 : fCallB gLen (fCons (fVar 0) (fNil)) [some (.p (stP m)), some (.r q), some (iE i), o3, o4, o5] M = some (.inr (iE m.length), M) := by
    refine callB_ev (cons_ev (var_ev (e := .p (stP m)) rfl) nil_ev) ?_
    show some (E.p (.int ((m.map tP).length : Int)), M) = _
    rw [List.length_map]; rfl
  have it := rng2_ev (M := M) (cons_ev (add_ev (ρ := [some (.p (stP m)), some (.r q), some (iE i), o3, o4, o5]) (var_ev (i := 2) (e := iE i) rfl) (c_ev (d := .int 1))) (cons_ev l1 nil_ev)) (by
    rw [show (i : Int) + 1 = ((i + 1 : Nat) : Int) by omega]; exact okR_nat (by omega)) (okR_nat (n := m.length) (by omega))
  have en : ((m.length : Int) - ((i : Int) + 1)).toNat = m.length - (i + 1) := by omega
  rw [en] at it
  obtain ⟨p3, p4, M', e1, e2, e3, e4⟩ := inner_ev (q := q) (o5 := o5) hm hl hi rfl (m.length - (i + 1)) 0 M xs o3 o4 (by omega) hM (by omega)
  refine ⟨p3, p4, M', ?_, by simpa using e2, e3, e4⟩
  show gFor _ _ _ _ M = _
  unfold gFor
  rw [it]
  show forN (fixIt (rangeE ((i : Int) + 1) (m.length - (i + 1)))) (gtName 3) gI (rangeE ((i : Int) + 1) (m.length - (i + 1))).length 0 _ M = _
  rw [show (rangeE ((i : Int) + 1) (m.length - (i + 1))).length = m.length - (i + 1) by simp [rangeE]]
  exact e1
theorem outer_ev (hm : Ok64 m) (hl : m.length ≤ 6) : ∀ (cnt i : Nat) (M : Store) (xs : List E) (o2 o3 o4 : Option E), i + cnt = m.length → M[q]? = some (some (.lst xs)) → xs.length + 6 * cnt < 100 →
    ∃ o2' o3' o4' M', forN (fixIt (rangeE 0 m.length)) (gtName 2) gO cnt i [some (.p (stP m)), some (.r q), o2, o3, o4, o5] M = some (.nx [some (.p (stP m)), some (.r q), o2', o3', o4', o5], M') ∧ M'[q]? = some (some (.lst (xs ++ (out m i (m.drop i)).map sE))) ∧ M'.length = M.length ∧ ∀ j, j ≠ q → M'[j]? = M[j]? := by
  intro cnt
  induction cnt with
  | zero =>
    intro i M xs o2 o3 o4 hd hM hx
    refine ⟨o2, o3, o4, M, rfl, ?_, rfl, fun _ _ => rfl⟩
    rw [List.drop_eq_nil_of_le (by omega)]
    simpa [out] using hM
  | succ cnt ih =>
    intro i M xs o2 o3 o4 hd hM hx
    have hi : i < m.length := by omega
    obtain ⟨p3, p4, M1, e1, e2, e3, e4⟩ := gO_ev (q := q) (o5 := o5) (o3 := o3) (o4 := o4) hm hl hi hM (by omega)
    have hlen := inn_len m i m[i] (i + 1) (m.drop (i + 1))
    rw [List.length_drop] at hlen
    obtain ⟨r2, r3, r4, M', f1, f2, f3, f4⟩ := ih (i + 1) M1 _ (some (iE i)) p3 p4 (by omega) e2 (by simp; omega)
    refine ⟨r2, r3, r4, M', ?_, ?_, f3.trans e3, fun j hj => (f4 j hj).trans (e4 j hj)⟩
    · have h1 : (fixIt (rangeE 0 m.length)).get i M = some (iE i) := by
        have := rangeE_get (lo := 0) hi
        rw [Int.zero_add] at this
        exact this
      rw [forN_nx h1 (ρ1 := [some (.p (stP m)), some (.r q), some (iE i), o3, o4, o5]) (M1 := M) rfl e1]
      exact f1
    · rw [List.drop_eq_getElem_cons hi]
      rw [show out m i (m[i] :: m.drop (i + 1)) = inn m i m[i] (i + 1) (m.drop (i + 1)) ++ out m (i + 1) (m.drop (i + 1)) from rfl, List.map_append, ← List.append_assoc]
      exact f2
/-- what comes of a state -/
theorem later_ok (hm : Ok64 m) (hl : m.length ≤ 6) (M : Store) : ∃ M', F__law_later [sE m] M = some (.inr (.r M.length), M') ∧ M'[M.length]? = some (some (.lst ((laterM m).map sE))) ∧ Grew M M' := by
  obtain ⟨r2, r3, r4, M', f1, f2, f3, f4⟩ := outer_ev (q := M.length) (o5 := none) hm hl m.length 0 (M ++ [some (.lst [])]) [] none none none (by omega) (by simp) (by simp; omega)
  refine ⟨M', ?_, by simpa [laterM] using f2, by simp at f3; omega, fun j hj => by rw [f4 j (by omega), List.getElem?_append_left hj]⟩
  refine fn_rt (N := 6) (es := [sE m]) ?_
  show B__law_later [some (.p (stP m)), none, none, none, none, none] M = _
  unfold B__law_later
  rw [seq_ev (show gSet 1 (fLst true (fNil)) [some (.p (stP m)), none, none, none, none, none] M = some (.nx [some (.p (stP m)), some (.r M.length), none, none, none, none], M ++ [some (.lst [])]) from rfl)]
  have l1 : fCallB gLen (fCons (fVar 0) (fNil)) [some (.p (stP m)), some (.r M.length), none, none, none, none] (M ++ [some (.lst [])]) = some (.inr (iE m.length), M ++ [some (.lst [])]) := by
    refine callB_ev (cons_ev (var_ev (e := .p (stP m)) rfl) nil_ev) ?_
    show some (E.p (.int ((m.map tP).length : Int)), _) = _
    rw [List.length_map]; rfl
  have it := rng1_ev (cons_ev l1 nil_ev) (okR_nat (n := m.length) (by omega))
  rw [Int.toNat_natCast] at it
  rw [seq_ev (ρ1 := [some (.p (stP m)), some (.r M.length), r2, r3, r4, none]) (M1 := M') (by
    unfold gFor
    rw [it]
    show forN (fixIt (rangeE 0 m.length)) (gtName 2) gO (rangeE 0 m.length).length 0 _ _ = _
    rw [show (rangeE 0 m.length).length = m.length by simp [rangeE]]
    exact f1)]
  exact ret_ev (var_ev rfl)
end
end K16

-- Q13
namespace K16
open PySem L2 Pl
def nkA (a : Nat) : NestedKey := .tup ((bits a).map .num)
def nkS (m : List Nat) : NestedKey := .tup (m.map nkA)
theorem nks_ints : ∀ l : List Int, nksOf (l.map .int) = some (l.map .num)
  | [] => rfl
  | a :: l => by show nksOf (.int a :: l.map .int) = _; unfold nksOf; rw [nks_ints l]; rfl
theorem nk_tP (a : Nat) : nkOf (tP a) = some (nkA a) := by
  show nkOf (.tup _) = _
  unfold nkOf
  rw [nks_ints]
  rfl
theorem nks_tP : ∀ l : List Nat, nksOf (l.map tP) = some (l.map nkA)
  | [] => rfl
  | a :: l => by show nksOf (tP a :: l.map tP) = _; unfold nksOf; rw [nk_tP, nks_tP l]; rfl
theorem nk_stP (m : List Nat) : nkOf (stP m) = some (nkS m) := by
  show nkOf (.tup _) = _
  unfold nkOf
  rw [nks_tP]
  rfl
theorem dep_nums : ∀ l : List Int, NestedKey.depthAll (l.map .num) ≤ 0
  | [] => Nat.le_refl _
  | a :: l => by
    have := dep_nums l
    show max 0 (NestedKey.depthAll (l.map .num)) ≤ 0
    omega
theorem dep_nkA : ∀ l : List Nat, NestedKey.depthAll (l.map nkA) ≤ 1
  | [] => by show 0 ≤ 1; omega
  | a :: l => by
    have h1 := dep_nkA l
    have h2 := dep_nums (bits a)
    show max (NestedKey.depthAll ((bits a).map .num) + 1) (NestedKey.depthAll (l.map nkA)) ≤ 1
    omega
theorem asNk_st (m : List Nat) : asNk (sE m) = some (nkS m) := by
  have h : (nkS m).depth ≤ 8 := by
    have := dep_nkA m
    show NestedKey.depthAll (m.map nkA) + 1 ≤ 8
    omega
  show (match nkOf (stP m) with | some k => if k.depth ≤ 8 then some k else none | none => none) = _
  rw [nk_stP]
  show (if (nkS m).depth ≤ 8 then some (nkS m) else none) = _
  rw [if_pos h]
theorem num_inj : ∀ {x y : List Int}, x.map NestedKey.num = y.map .num → x = y
  | [], [], _ => rfl
  | [], _ :: _, h => by simp at h
  | _ :: _, [], h => by simp at h
  | a :: l, b :: m, h => by
    simp only [List.map_cons, List.cons.injEq, NestedKey.num.injEq] at h
    rw [h.1, num_inj h.2]
theorem nkS_inj : ∀ {x y : List Nat}, Ok64 x → Ok64 y → nkS x = nkS y → x = y
  | [], [], _, _, _ => rfl
  | [], _ :: _, _, _, h => by simp [nkS] at h
  | _ :: _, [], _, _, h => by simp [nkS] at h
  | a :: l, b :: m, hx, hy, h => by
    have h : NestedKey.tup (nkA a :: l.map nkA) = .tup (nkA b :: m.map nkA) := h
    simp only [NestedKey.tup.injEq, List.cons.injEq] at h
    have h1 : (bits a).map NestedKey.num = (bits b).map .num := NestedKey.tup.inj h.1
    rw [bits_inj a (hx a List.mem_cons_self) b (hy b List.mem_cons_self) (num_inj h1), nkS_inj (fun c q => hx c (List.mem_cons_of_mem _ q)) (fun c q => hy c (List.mem_cons_of_mem _ q)) (show nkS l = nkS m by unfold nkS; rw [h.2])]
def seL (l : List (List Nat)) : List (NestedKey × E) := l.map fun s => (nkS s, .p (.bl true))
theorem getN_se {t : List Nat} (ht : Ok64 t) : ∀ {l : List (List Nat)}, (∀ s ∈ l, Ok64 s) → (getN (seL l) (nkS t)).isSome = decide (t ∈ l)
  | [], _ => rfl
  | s :: l, h => by
    show (if nkS s = nkS t then some _ else getN (seL l) (nkS t)).isSome = _
    by_cases e : s = t
    · subst e; simp
    · have : nkS s ≠ nkS t := fun q => e (nkS_inj (h s List.mem_cons_self) ht q)
      rw [if_neg this, getN_se ht fun s hs => h s (List.mem_cons_of_mem _ hs)]
      have : t ≠ s := fun q => e q.symm
      simp [this]
theorem setN_se {t : List Nat} (ht : Ok64 t) : ∀ {l : List (List Nat)}, (∀ s ∈ l, Ok64 s) → t ∉ l → setN (seL l) (nkS t) (.p (.bl true)) = seL (l ++ [t])
  | [], _, _ => rfl
  | s :: l, h, hn => by
    have e : s ≠ t := fun q => hn (q ▸ List.mem_cons_self)
    show (if nkS s = nkS t then _ else (nkS s, _) :: setN (seL l) (nkS t) _) = _
    rw [if_neg fun q => e (nkS_inj (h s List.mem_cons_self) ht q), setN_se ht (fun s hs => h s (List.mem_cons_of_mem _ hs)) fun q => hn (List.mem_cons_of_mem _ q)]
    rfl
theorem newM_len64 {m : List Nat} (hm : Ok64 m) (hl : m.length ≤ 6) {i a : Nat} (ha : a < 64) : ∀ (j : Nat) (r : List Nat), Ok64 r → ∀ s ∈ inn m i a j r, Ok64 s ∧ s.length = m.length
  | _, [], _ => fun s h => by simp [inn] at h
  | j, b :: r, hr => fun s h => by
    have ih := newM_len64 hm hl ha (i := i) (j + 1) r fun c q => hr c (List.mem_cons_of_mem _ q)
    unfold inn at h
    split at h
    · split at h
      · exact ih s h
      · rcases List.mem_cons.mp h with e | h
        · rw [e]
          exact ⟨newM_ok (or_lt a ha b (hr b List.mem_cons_self)) hm, newM_len _ _ _ _ _⟩
        · exact ih s h
    · exact ih s h
theorem out_ok {m : List Nat} (hm : Ok64 m) (hl : m.length ≤ 6) : ∀ (i : Nat) (r : List Nat), Ok64 r → ∀ s ∈ out m i r, Ok64 s ∧ s.length = m.length
  | _, [], _ => fun s h => by simp [out] at h
  | i, a :: r, hr => fun s h => by
    have h : s ∈ inn m i a (i + 1) r ++ out m (i + 1) r := h
    rcases List.mem_append.mp h with h | h
    · exact newM_len64 hm hl (hr a List.mem_cons_self) (i + 1) r (fun c q => hr c (List.mem_cons_of_mem _ q)) s h
    · exact out_ok hm hl (i + 1) r (fun c q => hr c (List.mem_cons_of_mem _ q)) s h
def Okn (n : Nat) (s : List Nat) : Prop := Ok64 s ∧ s.length = n
theorem later_all {n : Nat} (hn : n ≤ 6) {m : List Nat} (h : Okn n m) : ∀ s ∈ laterM m, Okn n s := fun s hs => by
  obtain ⟨a, b⟩ := out_ok h.1 (by rw [h.2]; exact hn) 0 m h.1 s hs
  exact ⟨a, b.trans h.2⟩
theorem out_len (m : List Nat) : ∀ (i : Nat) (r : List Nat), (out m i r).length ≤ r.length * r.length
  | _, [] => by simp [out]
  | i, a :: r => by
    have h1 := inn_len m i a (i + 1) r
    have h2 := out_len m (i + 1) r
    show (inn m i a (i + 1) r ++ out m (i + 1) r).length ≤ (r.length + 1) * (r.length + 1)
    rw [List.length_append]
    have : (r.length + 1) * (r.length + 1) = r.length * r.length + 2 * r.length + 1 := by
      rw [Nat.add_mul, Nat.mul_add]; omega
    omega
section
variable {M : Store} {ρ : Pl.Env} {n : Nat}
abbrev gT : FS := gIf (fTst (fBin (gNIn false) (fVar 7) (fVar 2))) (gSeq (gNPut (fVar 2) (fVar 7) (fC (.bl true))) (gDrop (fBM isL gApp (fVar 5) (fCons (fVar 7) (fNil))))) (gNext)
/-- the cells of a turn -/
structure Tn (n : Nat) (M : Store) (sq lq : Nat) (se la : List (List Nat)) : Prop where
  s : M[sq]? = some (some (.dcN (seL se.reverse)))
  l : M[lq]? = some (some (.lst (la.reverse.map sE)))
  ne : sq ≠ lq
  ok : ∀ s ∈ se, Okn n s
  ol : ∀ s ∈ la, Okn n s
  le : la.length ≤ se.length
abbrev envT (o0 o1 : Option E) (sq : Nat) (e : E) (c : Option E) (lq : Nat) (o6 o7 o8 : Option E) : Pl.Env := [o0, o1, some (.r sq), some e, c, some (.r lq), o6, o7, o8]
theorem gT_ev {o0 o1 c o6 o8 : Option E} {e : E} {sq lq : Nat} {se la : List (List Nat)} {t : List Nat} (ht : Okn n t) (T : Tn n M sq lq se la) (hb : se.length < 10000000) :
    ∃ M', gT (envT o0 o1 sq e c lq o6 (some (sE t)) o8) M = some (.nx (envT o0 o1 sq e c lq o6 (some (sE t)) o8), M') ∧ Tn n M' sq lq (addA [t] se la).1 (addA [t] se la).2 ∧ M'.length = M.length ∧ ∀ j, j ≠ sq → j ≠ lq → M'[j]? = M[j]? := by
  have hs : sq < M.length := (List.getElem?_eq_some_iff.mp T.s).1
  have hl : lq < M.length := (List.getElem?_eq_some_iff.mp T.l).1
  have hin : gNIn false (sE t) (.r sq) M = some (.p (.bl (!decide (t ∈ se.reverse))), M) := by
    show (match (match M[sq]? with | some (some (.dcN es)) => some es | _ => none), asNk (sE t) with | some es, some k => some (E.p (.bl ((getN es k).isSome == false)), M) | _, _ => none) = _
    rw [T.s, asNk_st]
    show some (E.p (.bl ((getN (seL se.reverse) (nkS t)).isSome == false)), M) = _
    rw [getN_se ht.1 fun s q => (T.ok s (List.mem_reverse.mp q)).1]
    cases decide (t ∈ se.reverse) <;> rfl
  have tst : fTst (fBin (gNIn false) (fVar 7) (fVar 2)) (envT o0 o1 sq e c lq o6 (some (sE t)) o8) M = some (.inr (!decide (t ∈ se.reverse)), M) := tst_ev (bin_ev (var_ev (e := sE t) rfl) (var_ev (e := .r sq) rfl) hin)
  by_cases h : t ∈ se
  · have hm : memL t se = true := memL_iff.mpr h
    rw [decide_eq_true (List.mem_reverse.mpr h)] at tst
    refine ⟨M, (if_f tst).trans rfl, ?_, rfl, fun _ _ _ => rfl⟩
    simp only [addA, hm]
    exact T
  · have hm : memL t se = false := by
      cases q : memL t se with
      | false => rfl
      | true => exact absurd (memL_iff.mp q) h
    have hr : t ∉ se.reverse := fun q => h (List.mem_reverse.mp q)
    rw [decide_eq_false hr] at tst
    have put : gNPut (fVar 2) (fVar 7) (fC (.bl true)) (envT o0 o1 sq e c lq o6 (some (sE t)) o8) M = some (.nx (envT o0 o1 sq e c lq o6 (some (sE t)) o8), M.set sq (some (.dcN (seL (se.reverse ++ [t]))))) := by
      show putNk _ (.p (.bl true)) (.r sq) (sE t) M = _
      unfold putNk
      rw [asNk_st]
      show (match M[sq]? with | some (some (.dcN es)) => if es.length < 16777216 then some (Fl.nx _, M.set sq (some (.dcN (setN es (nkS t) (.p (.bl true)))))) else none | _ => none) = _
      rw [T.s]
      show (if (seL se.reverse).length < 16777216 then _ else none) = _
      rw [if_pos (by unfold seL; rw [List.length_map, List.length_reverse]; omega), setN_se ht.1 (fun s q => (T.ok s (List.mem_reverse.mp q)).1) hr]
    have hl1 : (M.set sq (some (.dcN (seL (se.reverse ++ [t])))))[lq]? = some (some (.lst (la.reverse.map sE))) := by rw [List.getElem?_set_ne T.ne]; exact T.l
    have app : gDrop (fBM isL gApp (fVar 5) (fCons (fVar 7) (fNil))) (envT o0 o1 sq e c lq o6 (some (sE t)) o8) (M.set sq (some (.dcN (seL (se.reverse ++ [t]))))) = some (.nx (envT o0 o1 sq e c lq o6 (some (sE t)) o8), (M.set sq (some (.dcN (seL (se.reverse ++ [t]))))).set lq (some (.lst (la.reverse.map sE ++ [sE t])))) := by
      have := T.le
      unfold gDrop
      rw [app_ev (n := lq) (xs := la.reverse.map sE) (y := sE t) (var_ev rfl) (cons_ev (var_ev rfl) nil_ev) hl1 (by rw [List.length_map, List.length_reverse]; omega)]
      rfl
    refine ⟨_, (if_t tst).trans ((seq_ev put).trans app), ?_, by simp, fun j h1 h2 => by rw [List.getElem?_set_ne (Ne.symm h2), List.getElem?_set_ne (Ne.symm h1)]⟩
    simp only [addA, hm]
    refine ⟨?_, ?_, T.ne, fun s q => ?_, fun s q => ?_, by simpa using T.le⟩
    · rw [List.getElem?_set_ne (Ne.symm T.ne), List.getElem?_set_self hs, List.reverse_cons]
    · rw [List.getElem?_set_self (by simpa using hl), List.reverse_cons, List.map_append]
      rfl
    · rcases List.mem_cons.mp q with q | q
      · rw [q]; exact ht
      · exact T.ok s q
    · rcases List.mem_cons.mp q with q | q
      · rw [q]; exact ht
      · exact T.ol s q
theorem addA_cons (t : List Nat) (ts se la : List (List Nat)) : addA (t :: ts) se la = addA ts (addA [t] se la).1 (addA [t] se la).2 := by
  conv => lhs; unfold addA
  simp only [addA]
  cases memL t se <;> rfl
theorem addA_len : ∀ (ts se la : List (List Nat)), (addA ts se la).1.length ≤ se.length + ts.length
  | [], se, la => by simp [addA]
  | t :: ts, se, la => by
    unfold addA
    split
    · have := addA_len ts se la; simp; omega
    · have := addA_len ts (t :: se) (t :: la); simp at this ⊢; omega
/-- the states that come of one -/
theorem inT_ev {o0 o1 c o6 o8 : Option E} {e : E} {sq lq q2 : Nat} {ts : List (List Nat)} (hts : ∀ s ∈ ts, Okn n s) (h1 : q2 ≠ sq) (h2 : q2 ≠ lq) : ∀ (cnt i : Nat) (M : Store) (o7 : Option E) (se la : List (List Nat)), i + cnt = ts.length → M[q2]? = some (some (.lst (ts.map sE))) → Tn n M sq lq se la → se.length + cnt < 10000000 →
    ∃ o7' M', forN (cellIt q2 ts.length) (gtName 7) gT cnt i (envT o0 o1 sq e c lq o6 o7 o8) M = some (.nx (envT o0 o1 sq e c lq o6 o7' o8), M') ∧ Tn n M' sq lq (addA (ts.drop i) se la).1 (addA (ts.drop i) se la).2 ∧ M'.length = M.length ∧ ∀ j, j ≠ sq → j ≠ lq → M'[j]? = M[j]? := by
  intro cnt
  induction cnt with
  | zero =>
    intro i M o7 se la hi hM T hb
    refine ⟨o7, M, ?_, by rw [List.drop_eq_nil_of_le (by omega)]; exact T, rfl, fun _ _ _ => rfl⟩
    have : (cellIt q2 ts.length).fin M = true := by
      show (match M[q2]? with | some (some (.lst es)) => decide (es.length = ts.length) | _ => false) = true
      rw [hM]; simp
    show (if (cellIt q2 ts.length).fin M = true then _ else none) = _
    rw [if_pos this]
  | succ cnt ih =>
    intro i M o7 se la hi hM T hb
    have hlt : i < ts.length := by omega
    obtain ⟨M1, e1, T1, l1, f1⟩ := gT_ev (o0 := o0) (o1 := o1) (c := c) (o6 := o6) (o8 := o8) (e := e) (hts _ (List.getElem_mem hlt)) T (by omega)
    have hlen := addA_len [ts[i]] se la
    obtain ⟨p7, M', e2, T2, l2, f2⟩ := ih (i + 1) M1 (some (sE ts[i])) _ _ (by omega) (by rw [f1 q2 h1 h2]; exact hM) T1 (by simp at hlen; omega)
    refine ⟨p7, M', ?_, ?_, l2.trans l1, fun j a b => (f2 j a b).trans (f1 j a b)⟩
    · have hg : (cellIt q2 ts.length).get i M = some (sE ts[i]) := by
        show (match M[q2]? with | some (some (.lst es)) => if es.length = ts.length then es[i]? else none | _ => none) = _
        rw [hM]
        show (if (ts.map sE).length = ts.length then (ts.map sE)[i]? else none) = _
        rw [if_pos (by simp), List.getElem?_map, List.getElem?_eq_getElem hlt]
        rfl
      rw [forN_nx hg (ρ1 := envT o0 o1 sq e c lq o6 (some (sE ts[i])) o8) (M1 := M) rfl e1]
      exact e2
    · rw [List.drop_eq_getElem_cons hlt, addA_cons]
      exact T2
end
end K16

-- Q14
namespace K16
open PySem L2 Pl
section
variable {M : Store} {ρ : Pl.Env} {n : Nat}
abbrev gF : FS := gFor (fSeqIt (fCall 1 F__law_later [] (fCons (fVar 6) (fNil)))) (gtName 7) gT
theorem Tn.grew {M' : Store} {sq lq : Nat} {se la : List (List Nat)} (T : Tn n M sq lq se la) (g : Grew M M') : Tn n M' sq lq se la := by
  have hs : sq < M.length := (List.getElem?_eq_some_iff.mp T.s).1
  have hl : lq < M.length := (List.getElem?_eq_some_iff.mp T.l).1
  exact ⟨(g.2 _ hs).trans T.s, (g.2 _ hl).trans T.l, T.ne, T.ok, T.ol, T.le⟩
theorem gF_ev {o0 o1 c o7 o8 : Option E} {e : E} {sq lq : Nat} {se la : List (List Nat)} {s : List Nat} (hn : n ≤ 6) (hs : Okn n s) (T : Tn n M sq lq se la) (hb : se.length + 36 < 10000000) :
    ∃ o7' M', gF (envT o0 o1 sq e c lq (some (sE s)) o7 o8) M = some (.nx (envT o0 o1 sq e c lq (some (sE s)) o7' o8), M') ∧ Tn n M' sq lq (addA (laterM s) se la).1 (addA (laterM s) se la).2 ∧ M.length ≤ M'.length ∧ ∀ j, j < M.length → j ≠ sq → j ≠ lq → M'[j]? = M[j]? := by
  have hls : sq < M.length := (List.getElem?_eq_some_iff.mp T.s).1
  have hll : lq < M.length := (List.getElem?_eq_some_iff.mp T.l).1
  obtain ⟨M1, e1, e2, g1⟩ := later_ok hs.1 (by rw [hs.2]; exact hn) M
  have hlen : (laterM s).length ≤ 36 := by
    have := out_len s 0 s
    rw [hs.2] at this
    have h2 : n * n ≤ 6 * 6 := Nat.mul_le_mul hn hn
    unfold laterM
    omega
  obtain ⟨p7, M', f1, f2, f3, f4⟩ := inT_ev (o0 := o0) (o1 := o1) (c := c) (o6 := some (sE s)) (o8 := o8) (e := e) (q2 := M.length) (later_all hn hs) (by omega) (by omega) (laterM s).length 0 M1 o7 se la (by omega) e2 (T.grew g1) (by omega)
  refine ⟨p7, M', ?_, f2, by rw [f3]; exact g1.1, fun j h1 h2 h3 => (f4 j h2 h3).trans (g1.2 j h1)⟩
  have it : fSeqIt (fCall 1 F__law_later [] (fCons (fVar 6) (fNil))) (envT o0 o1 sq e c lq (some (sE s)) o7 o8) M = some (.inr (cellIt M.length (laterM s).length), M1) := by
    have hc : fCall 1 F__law_later [] (fCons (fVar 6) (fNil)) (envT o0 o1 sq e c lq (some (sE s)) o7 o8) M = some (.inr (.r M.length), M1) := call_ev (cons_ev (var_ev (e := sE s) rfl) nil_ev) rfl e1
    unfold fSeqIt
    rw [hc]
    show (match (match M1[M.length]? with | some (some (.lst es)) => some (cellIt M.length es.length) | _ => none) with | some t => some (Sum.inr t, M1) | none => none) = _
    rw [e2]
    show some (Sum.inr (cellIt M.length ((laterM s).map sE).length), M1) = _
    rw [List.length_map]
  show gFor _ _ _ _ M = _
  unfold gFor
  rw [it]
  exact f1
def LineAt (e : E) (L : List (List Nat)) (M : Store) : Prop := asLst M e = some (L.map sE)
def Walk (t : It0) (e : E) (L : List (List Nat)) : Prop := t.n = L.length ∧ ∀ M, LineAt e L M → (∀ i (h : i < L.length), t.get i M = some (sE (L[i]'h))) ∧ t.fin M = true
theorem itOf_walk {e : E} {L : List (List Nat)} (h : LineAt e L M) : ∃ t, itOf M e = some t ∧ Walk t e L := by
  have hget : ∀ i (hi : i < L.length), (L.map sE)[i]? = some (sE (L[i]'hi)) := fun i hi => by rw [List.getElem?_map, List.getElem?_eq_getElem hi]; rfl
  have h0 := h
  unfold LineAt asLst at h
  split at h
  · rename_i ds
    have e1 := Option.some.inj h
    refine ⟨fixIt (ds.map .p), rfl, by show (ds.map E.p).length = _; rw [e1, List.length_map], fun M' _ => ⟨fun i hi => ?_, rfl⟩⟩
    show (ds.map E.p)[i]? = _
    rw [e1]; exact hget i hi
  · rename_i k
    split at h
    · rename_i es hM
      have e1 := Option.some.inj h
      refine ⟨cellIt k es.length, ?_, by show es.length = _; rw [e1, List.length_map], fun M' h' => ?_⟩
      · show (match M[k]? with | some (some (.lst es)) => some (cellIt k es.length) | _ => none) = _
        rw [hM]
      · unfold LineAt asLst at h'
        have h' : (match M'[k]? with | some (some (.lst es)) => some es | _ => none) = some (L.map sE) := h'
        split at h'
        · rename_i es' hM'
          have e2 := Option.some.inj h'
          refine ⟨fun i hi => ?_, ?_⟩
          · show (match M'[k]? with | some (some (.lst xs)) => if xs.length = es.length then xs[i]? else none | _ => none) = _
            rw [hM']
            show (if es'.length = es.length then es'[i]? else none) = _
            rw [if_pos (by rw [e1, e2]), e2]
            exact hget i hi
          · show (match M'[k]? with | some (some (.lst xs)) => decide (xs.length = es.length) | _ => false) = true
            rw [hM']
            show decide (es'.length = es.length) = true
            rw [e1, e2]; simp
        · cases h'
    · cases h
  · cases h
theorem line_keep {e : E} {L : List (List Nat)} {M' : Store} {sq lq : Nat} (h : LineAt e L M) (away : ∀ k, e = .r k → k < M.length ∧ k ≠ sq ∧ k ≠ lq) (f : ∀ j, j < M.length → j ≠ sq → j ≠ lq → M'[j]? = M[j]?) : LineAt e L M' := by
  unfold LineAt at *
  cases e with
  | p d => cases d <;> exact h
  | fn _ _ _ _ _ _ => cases h
  | r k =>
    obtain ⟨a, b, c⟩ := away k rfl
    have h : (match M[k]? with | some (some (.lst es)) => some es | _ => none) = some (L.map sE) := h
    show (match M'[k]? with | some (some (.lst es)) => some es | _ => none) = _
    rw [f k a b c]
    exact h
theorem lineAt_r {k : Nat} {L : List (List Nat)} (h : M[k]? = some (some (.lst (L.map sE)))) : LineAt (.r k) L M := by
  show (match M[k]? with | some (some (Cell.lst es)) => some es | _ => none) = some (L.map sE)
  rw [h]
theorem addL_cons (s : List Nat) (ss se la : List (List Nat)) : addL (s :: ss) se la = addL ss (addA (laterM s) se la).1 (addA (laterM s) se la).2 := by
  conv => lhs; unfold addL
theorem lines_ev {o0 o1 c o8 : Option E} {e : E} {sq lq : Nat} {t : It0} {L : List (List Nat)} (hn : n ≤ 6) (hL : ∀ s ∈ L, Okn n s) (W : Walk t e L) : ∀ (cnt i : Nat) (M : Store) (o6 o7 : Option E) (se la : List (List Nat)), i + cnt = L.length → LineAt e L M → (∀ k, e = .r k → k < M.length ∧ k ≠ sq ∧ k ≠ lq) → Tn n M sq lq se la → se.length + 36 * cnt < 9000000 →
    ∃ o6' o7' M', forN t (gtName 6) gF cnt i (envT o0 o1 sq e c lq o6 o7 o8) M = some (.nx (envT o0 o1 sq e c lq o6' o7' o8), M') ∧ Tn n M' sq lq (addL (L.drop i) se la).1 (addL (L.drop i) se la).2 := by
  intro cnt
  induction cnt with
  | zero =>
    intro i M o6 o7 se la hi hM away T hb
    refine ⟨o6, o7, M, ?_, by rw [List.drop_eq_nil_of_le (by omega)]; exact T⟩
    show (if t.fin M = true then _ else none) = _
    rw [if_pos (W.2 M hM).2]
  | succ cnt ih =>
    intro i M o6 o7 se la hi hM away T hb
    have hlt : i < L.length := by omega
    have hs := hL _ (List.getElem_mem hlt)
    obtain ⟨p7, M1, e1, T1, l1, f1⟩ := gF_ev (o0 := o0) (o1 := o1) (c := c) (o7 := o7) (o8 := o8) (e := e) hn hs T (by omega)
    have hlen := addA_len (laterM L[i]) se la
    have hlen2 : (laterM L[i]).length ≤ 36 := by
      have := out_len L[i] 0 L[i]
      rw [hs.2] at this
      have h2 : n * n ≤ 6 * 6 := Nat.mul_le_mul hn hn
      unfold laterM
      omega
    obtain ⟨p6, q7, M', e2, T2⟩ := ih (i + 1) M1 (some (sE L[i])) p7 _ _ (by omega) (line_keep hM away f1) (fun k hk => ⟨Nat.lt_of_lt_of_le (away k hk).1 l1, (away k hk).2⟩) T1 (by omega)
    refine ⟨p6, q7, M', ?_, ?_⟩
    · rw [forN_nx ((W.2 M hM).1 i hlt) (ρ1 := envT o0 o1 sq e c lq (some (sE L[i])) o7 o8) (M1 := M) rfl e1]
      exact e2
    · rw [List.drop_eq_getElem_cons hlt, addL_cons]
      exact T2
theorem line_py {e : E} {L : List (List Nat)} (h : LineAt e L M) : toPyE M e = some (.list (L.map stD)) := by
  have e0 : (L.map stP).map E.p = L.map sE := by rw [List.map_map]; rfl
  have h1 : ∀ ds : List PD, ds.map E.p = L.map sE → (toPys ds).map PyData.list = some (.list (L.map stD)) := fun ds hd => by
    have : ds = L.map stP := by
      have h3 : asPs (ds.map E.p) = asPs ((L.map stP).map E.p) := by rw [hd, e0]
      rw [asPs_map, asPs_map] at h3
      exact Option.some.inj h3
    rw [this, toPys_of toPy_stP]
    rfl
  unfold LineAt at h
  cases e with
  | fn _ _ _ _ _ _ => cases h
  | p d =>
    unfold asLst at h
    split at h
    · rename_i ds he
      cases he
      exact h1 ds (Option.some.inj h)
    · rename_i he; cases he
    · cases h
  | r k =>
    have h : (match M[k]? with | some (some (.lst es)) => some es | _ => none) = some (L.map sE) := h
    split at h
    · rename_i es hM
      have e1 := Option.some.inj h
      show cellPy M[k]? = _
      rw [hM]
      show (match asPs es with | some ds => (toPys ds).map PyData.list | none => none) = _
      rw [e1, ← e0, asPs_map]
      exact h1 _ e0
    · cases h
theorem dep_st : ∀ L : List (List Nat), PyData.depthAll (L.map stD) ≤ 3
  | [] => by simp [PyData.depthAll]
  | s :: L => by
    have h1 := dep_st L
    have h2 := depth_stD s
    show max (stD s).depth (PyData.depthAll (L.map stD)) ≤ 3
    omega
theorem line_ne {e : E} {L : List (List Nat)} (h : LineAt e L M) : pyEq M e (.p (.lst [])) = some (decide (L = [])) := by
  unfold pyEq
  rw [line_py h]
  cases L with
  | nil => rfl
  | cons s L =>
    show (if min _ (PyData.depth (.list [])) ≤ 60 then _ else none) = _
    rw [if_pos (Nat.le_trans (Nat.min_le_right _ _) (by decide))]
    rfl
theorem line_in {e : E} {L : List (List Nat)} {w : List Nat} (h : LineAt e L M) (hw : Ok64 w) (hL : ∀ s ∈ L, Ok64 s) : pyIn M (sE w) e = some (memL w L) := by
  unfold pyIn
  rw [line_py h, show toPyE M (sE w) = some (stD w) from toPy_stP w]
  show (if min (PyData.depthAll (L.map stD)) (stD w).depth ≤ 60 then some ((L.map stD).any fun y => PyData.eqv y (stD w)) else none) = _
  have := dep_st L
  rw [if_pos (by omega)]
  have key : ∀ L : List (List Nat), (∀ s ∈ L, Ok64 s) → ((L.map stD).any fun y => PyData.eqv y (stD w)) = memL w L := fun L => by
    induction L with
    | nil => intro _; rfl
    | cons s L ih =>
      intro hL
      show (PyData.eqv (stD s) (stD w) || (L.map stD).any fun y => PyData.eqv y (stD w)) = _
      rw [eqv_stD (hL s List.mem_cons_self) hw, ih fun s q => hL s (List.mem_cons_of_mem _ q)]
      show _ = (match eqL w s with | true => true | false => memL w L)
      cases q : eqL w s with
      | true => rw [eqL_iff.mp q]; simp
      | false =>
        have : s ≠ w := fun e => by rw [eqL_iff.mpr e.symm] at q; cases q
        simp [this]
  rw [key L hL]
/-- the search, as it is counted -/
def bfs2 (w : List Nat) : Nat → List (List Nat) → List (List Nat) → Nat → Option (Option Nat)
  | 0, _, _, _ => none
  | n + 1, line, se, c => match line with
    | [] => some none
    | s :: ss => match memL w (s :: ss) with
      | true => some (some c)
      | false => match Nat.ble (se.length + 36 * (s :: ss).length) 1000000 with
        | true => match addL (s :: ss) se [] with
          | (se, la) => bfs2 w n la.reverse se (c + 1)
        | false => none
abbrev tT : FT := fTst (fBin gNe (fVar 3) (fLst false (fNil)))
abbrev gB : FS := gSeq (gIf (fTst (fBin gIn (fVar 1) (fVar 3))) (gRet (fVar 4)) (gNext)) (gSeq (gSet 5 (fLst true (fNil))) (gSeq (gFor (fSeqIt (fVar 3)) (gtName 6) gF) (gPar 3 4 (fCons (fVar 5) (fCons (fBin (gAdd false) (fVar 4) (fC (.int 1))) (fNil))))))
def Found (r : Option Nat) (o : Option (Fl × Store)) : Prop := match r with
  | none => ∃ ρ' M', o = some (.nx ρ', M')
  | some c => ∃ M', o = some (.rt (iE c), M')
theorem tried_while {o0 o8 : Option E} {sq : Nat} {w : List Nat} (hn : n ≤ 6) (hw : Ok64 w) : ∀ (fuel : Nat) (M : Store) (e : E) (L se : List (List Nat)) (c : Nat) (o5 o6 o7 : Option E) (r : Option Nat), LineAt e L M → (∀ k, e = .r k → k < M.length ∧ k ≠ sq) → M[sq]? = some (some (.dcN (seL se.reverse))) → (∀ s ∈ L, Okn n s) → (∀ s ∈ se, Okn n s) → bfs2 w fuel L se c = some r →
    Found r (whileN tT gB fuel [o0, some (sE w), some (.r sq), some e, some (iE c), o5, o6, o7, o8] M)
  | 0, _, _, _, _, _, _, _, _, _, _, _, _, _, _, h => by cases h
  | fuel + 1, M, e, L, se, c, o5, o6, o7, r, hl, away, hs, okL, okS, h => by
    have hsq : sq < M.length := (List.getElem?_eq_some_iff.mp hs).1
    have tst : tT [o0, some (sE w), some (.r sq), some e, some (iE c), o5, o6, o7, o8] M = some (.inr (!decide (L = [])), M) := ne_ev (var_ev rfl) (y := .p (.lst [])) rfl (line_ne hl)
    unfold whileN
    rw [tst]
    cases L with
    | nil =>
      cases h
      exact ⟨_, _, rfl⟩
    | cons s ss =>
      have h : (match memL w (s :: ss) with | true => some (some c) | false => match Nat.ble (se.length + 36 * (s :: ss).length) 1000000 with | true => (match addL (s :: ss) se [] with | (se, la) => bfs2 w fuel la.reverse se (c + 1)) | false => none) = some r := h
      have tin : fTst (fBin gIn (fVar 1) (fVar 3)) [o0, some (sE w), some (.r sq), some e, some (iE c), o5, o6, o7, o8] M = some (.inr (memL w (s :: ss)), M) := tst_ev (bin_ev (var_ev rfl) (var_ev rfl) (by unfold gIn; rw [line_in hl hw fun s q => (okL s q).1]; rfl))
      have hdec : (!decide ((s :: ss) = [])) = true := by simp
      rw [hdec]
      show Found r (match gB [o0, some (sE w), some (.r sq), some e, some (iE c), o5, o6, o7, o8] M with | some (.nx ρ2, M2) => whileN tT gB fuel ρ2 M2 | some (.ct ρ2, M2) => whileN tT gB fuel ρ2 M2 | some (.bk ρ2, M2) => some (Fl.nx ρ2, M2) | r => r)
      cases hm : memL w (s :: ss) with
      | true =>
        rw [hm] at h tin
        cases h
        have : gB [o0, some (sE w), some (.r sq), some e, some (iE c), o5, o6, o7, o8] M = some (.rt (iE c), M) := seq_rt ((if_t tin).trans rfl)
        rw [this]
        exact ⟨M, rfl⟩
      | false =>
        rw [hm] at h tin
        cases hb : Nat.ble (se.length + 36 * (s :: ss).length) 1000000 with
        | false => rw [hb] at h; cases h
        | true =>
          rw [hb] at h
          have hb' := Nat.le_of_ble_eq_true hb
          have T0 : Tn n (M ++ [some (.lst [])]) sq M.length se [] := ⟨by rw [List.getElem?_append_left hsq]; exact hs, by simp, by omega, okS, fun s q => (by cases q), Nat.zero_le _⟩
          have hl0 : LineAt e (s :: ss) (M ++ [some (.lst [])]) := line_keep (sq := sq) (lq := M.length) hl (fun k hk => ⟨(away k hk).1, (away k hk).2, by have := (away k hk).1; omega⟩) fun j hj _ _ => List.getElem?_append_left hj
          obtain ⟨t, it, W⟩ := itOf_walk hl0
          obtain ⟨p6, p7, M', e1, T1⟩ := lines_ev (o0 := o0) (o1 := some (sE w)) (c := some (iE c)) (o8 := o8) (sq := sq) (lq := M.length) hn okL W (s :: ss).length 0 (M ++ [some (.lst [])]) o6 o7 se [] (by omega) hl0 (fun k hk => ⟨by have := (away k hk).1; simp; omega, (away k hk).2, by have := (away k hk).1; omega⟩) T0 (by omega)
          rw [List.drop_zero] at T1
          have body : gB [o0, some (sE w), some (.r sq), some e, some (iE c), o5, o6, o7, o8] M = some (.nx [o0, some (sE w), some (.r sq), some (.r M.length), some (iE (c + 1 : Nat)), some (.r M.length), p6, p7, o8], M') := by
            refine (seq_ev ((if_f tin).trans rfl)).trans ?_
            rw [seq_ev (show gSet 5 (fLst true (fNil)) [o0, some (sE w), some (.r sq), some e, some (iE c), o5, o6, o7, o8] M = some (.nx (envT o0 (some (sE w)) sq e (some (iE c)) M.length o6 o7 o8), M ++ [some (.lst [])]) from rfl)]
            have hf : gFor (fSeqIt (fVar 3)) (gtName 6) gF (envT o0 (some (sE w)) sq e (some (iE c)) M.length o6 o7 o8) (M ++ [some (.lst [])]) = some (.nx (envT o0 (some (sE w)) sq e (some (iE c)) M.length p6 p7 o8), M') := by
              unfold gFor
              have hi : fSeqIt (fVar 3) (envT o0 (some (sE w)) sq e (some (iE c)) M.length o6 o7 o8) (M ++ [some (.lst [])]) = some (.inr t, M ++ [some (.lst [])]) := by
                show (match itOf (M ++ [some (.lst [])]) e with | some t => some (Sum.inr t, M ++ [some (Cell.lst [])]) | none => none) = _
                rw [it]
              rw [hi]
              show forN t (gtName 6) gF t.n 0 _ _ = _
              rw [W.1]
              exact e1
            rw [seq_ev hf]
            rfl
          rw [body]
          exact tried_while hn hw fuel M' (.r M.length) _ _ (c + 1) _ p6 p7 r (lineAt_r T1.l) (fun k hk => by
              cases hk
              exact ⟨(List.getElem?_eq_some_iff.mp T1.l).1, fun q => T1.ne q.symm⟩) T1.s (fun s q => T1.ol s (List.mem_reverse.mp q)) T1.ok h
end
end K16

-- Q15
namespace K16
open PySem L2 Pl
def resE : Option Nat → E
  | some c => iE c
  | none => .p .non
section
variable {M : Store} {ρ : Pl.Env}
abbrev e1T : FE := fCallB gTupOf (fCons (fComp false ([8] : List Nat) (fItA rngIt1 (fCons (fVar 0) (fNil))) (gtName 8) (fYes) (fTupRg (fVar 0))) (fNil))
abbrev e2T : FA := fCons (fLst false (fCons (fCallB gTupOf (fCons (fComp false ([8] : List Nat) (fItA rngIt1 (fCons (fVar 0) (fNil))) (gtName 8) (fYes) (fTup (fCons (fVar 8) (fNil)))) (fNil))) (fNil))) (fCons (fC (.int 0)) (fNil))
/-- from the first line on -/
theorem tried_end {n c : Nat} {w v : List Nat} {a : Int} {r : Option Nat} (hn : n ≤ 6) (hw : Ok64 w) (hv : Okn n v) (hb : bfs2 w 100 [v] [v] c = some r) (M : Store) : ∃ M', gSeq (gSet 2 (fDictN1 (fBin gIx (fVar 3) (fC (.int 0))) (fC (.bl true)))) (gSeq (gWhile (fun _ _ => 100) tT gB) (gRet (fC .non))) [some (iE a), some (sE w), none, some (.p (.lst [stP v])), some (iE c), none, none, none, none] M = some (.rt (resE r), M') := by
  have hd : fDictN1 (fBin gIx (fVar 3) (fC (.int 0))) (fC (.bl true)) [some (iE a), some (sE w), none, some (.p (.lst [stP v])), some (iE c), none, none, none, none] M = some (.inr (.r M.length), (M ++ [some (Cell.dcN [])]).set M.length (some (Cell.dcN [(nkS v, .p (.bl true))]))) := by
    have h1 : fBin gIx (fVar 3) (fC (.int 0)) [some (iE a), some (sE w), none, some (.p (.lst [stP v])), some (iE c), none, none, none, none] (M ++ [some (Cell.dcN [])]) = some (.inr (sE v), M ++ [some (Cell.dcN [])]) := rfl
    unfold fDictN1
    rw [h1]
    show lft (match asNk (sE v), (M ++ [some (Cell.dcN [])])[M.length]? with | some k, some (some (Cell.dcN [])) => some (E.r M.length, (M ++ [some (Cell.dcN [])]).set M.length (some (Cell.dcN [(k, .p (.bl true))]))) | _, _ => none) = _
    rw [asNk_st, List.getElem?_append_right (Nat.le_refl _), Nat.sub_self]
    rfl
  have hs : ((M ++ [some (Cell.dcN [])]).set M.length (some (Cell.dcN [(nkS v, .p (.bl true))])))[M.length]? = some (some (.dcN (seL [v].reverse))) := by
    rw [List.getElem?_set_self (by simp)]
    rfl
  rw [seq_ev (show gSet 2 _ [some (iE a), some (sE w), none, some (.p (.lst [stP v])), some (iE c), none, none, none, none] M = some (.nx [some (iE a), some (sE w), some (.r M.length), some (.p (.lst [stP v])), some (iE c), none, none, none, none], _) from set_ev hd)]
  have F := tried_while (o0 := some (iE a)) (o8 := none) (sq := M.length) hn hw 100 ((M ++ [some (Cell.dcN [])]).set M.length (some (Cell.dcN [(nkS v, .p (.bl true))]))) (.p (.lst [stP v])) [v] [v] c none none none r rfl (fun k q => by cases q) hs (fun s q => by rw [List.mem_singleton.mp q]; exact hv) (fun s q => by rw [List.mem_singleton.mp q]; exact hv) hb
  cases r with
  | none =>
    obtain ⟨ρ', M', e⟩ := F
    exact ⟨M', (seq_ev (show gWhile (fun _ _ => 100) tT gB _ _ = _ from e)).trans rfl⟩
  | some c' =>
    obtain ⟨M', e⟩ := F
    exact ⟨M', seq_rt (show gWhile (fun _ _ => 100) tT gB _ _ = _ from e)⟩
theorem tried_of {n : Nat} {a : Int} {w u v : List Nat} {r : Option Nat} (hn : n ≤ 6) (hw : Ok64 w) (hu : Okn n u) (hv : Okn n v) (h1 : ∀ M : Store, e1T [some (iE a), none, none, none, none, none, none, none, none] M = some (.inr (sE w), M)) (h2 : ∀ M : Store, e2T [some (iE a), some (sE w), none, none, none, none, none, none, none] M = some (.inr [.p (.lst [stP u]), iE 0], M))
    (ha : 1 < a) (hl : (laterM u).take 1 = [v]) (hb : bfs2 w 100 [v] [v] 1 = some r) (M : Store) : ∃ M', F__law_tried [iE a] M = some (.inr (resE r), M') := by
  obtain ⟨M1, f1, f2, g1⟩ := later_ok hu.1 (by rw [hu.2]; exact hn) M
  obtain ⟨M', e⟩ := tried_end (a := a) hn hw hv hb M1
  refine ⟨M', fn_rt (N := 9) (es := [iE a]) ?_⟩
  show B__law_tried [some (iE a), none, none, none, none, none, none, none, none] M = _
  unfold B__law_tried
  rw [seq_ev (show gSet 1 e1T [some (iE a), none, none, none, none, none, none, none, none] M = some (.nx [some (iE a), some (sE w), none, none, none, none, none, none, none], M) from set_ev (h1 M))]
  rw [seq_ev (show gPar 3 4 e2T [some (iE a), some (sE w), none, none, none, none, none, none, none] M = some (.nx [some (iE a), some (sE w), none, some (.p (.lst [stP u])), some (iE 0), none, none, none, none], M) from by unfold gPar; rw [h2 M]; rfl)]
  have c1 : fTst (fBin gGt (fVar 0) (fC (.int 1))) [some (iE a), some (sE w), none, some (.p (.lst [stP u])), some (iE 0), none, none, none, none] M = some (.inr true, M) := by
    have := gt_ev (M := M) (ρ := [some (iE a), some (sE w), none, some (.p (.lst [stP u])), some (iE 0), none, none, none, none]) (var_ev (i := 0) (e := iE a) rfl) (c_ev (d := .int 1))
    rw [decide_eq_true ha] at this
    exact this
  have sl : fSlice (gSl false) (fCall 1 F__law_later [] (fCons (fBin gIx (fVar 3) (fC (.int 0))) (fNil))) (fNo) (fPart (fC (.int 1))) [some (iE a), some (sE w), none, some (.p (.lst [stP u])), some (iE 0), none, none, none, none] M = some (.inr (.p (.lst [stP v])), M1) := by
    have hc : fCall 1 F__law_later [] (fCons (fBin gIx (fVar 3) (fC (.int 0))) (fNil)) [some (iE a), some (sE w), none, some (.p (.lst [stP u])), some (iE 0), none, none, none, none] M = some (.inr (.r M.length), M1) := call_ev (es := [sE u]) rfl rfl f1
    unfold fSlice
    rw [hc]
    show lft (gSl false (.r M.length) none (some 1) M1) = _
    have h3 : gSlL false (.r M.length) none (some 1) M1 = some (.p (.lst [stP v]), M1) := by
      show (match (match M1[M.length]? with | some (some (Cell.lst es)) => some es | _ => none) with | some es => mkLst false (cutG es none (some 1)) M1 | none => none) = _
      rw [f2]
      have h4 : cutG ((laterM u).map sE) none (some 1) = [sE v] := by
        have h5 : cutG ((laterM u).map sE) none (some 1) = ((laterM u).map sE).take 1 := by
          unfold cutG
          show (List.drop 0 _).take (min 1 ((laterM u).map sE).length - 0) = _
          rw [List.drop_zero, Nat.sub_zero, List.take_eq_take_iff]
          omega
        rw [h5, ← List.map_take, hl]
        rfl
      show mkLst false (cutG ((laterM u).map sE) none (some 1)) M1 = _
      rw [h4]
      rfl
    show lft (match gSlL false (.r M.length) none (some 1) M1 with | some r => some r | none => _) = _
    rw [h3]
    rfl
  rw [seq_ev (ρ1 := [some (iE a), some (sE w), none, some (.p (.lst [stP v])), some (iE ((1 : Nat) : Int)), none, none, none, none]) (M1 := M1) ((if_t c1).trans (by
    unfold gPar
    rw [cons_ev sl (cons_ev (c_ev (d := .int 1)) nil_ev)]
    rfl))]
  exact e
theorem ok_dec {n : Nat} {s : List Nat} (h : ((s.all fun a => Nat.blt a 64) && Nat.beq s.length n) = true) : Okn n s := by
  simp only [Bool.and_eq_true, List.all_eq_true] at h
  exact ⟨fun a q => Nat.le_of_ble_eq_true (h.1 a q), Nat.eq_of_beq_eq_true h.2⟩
theorem tried1 (M : Store) : ∃ M', F__law_tried [iE 1] M = some (.inr (iE 0), M') := by
  obtain ⟨M', e⟩ := tried_end (n := 1) (c := 0) (w := [1]) (v := [1]) (a := 1) (r := some 0) (by decide) (ok_dec (n := 1) rfl).1 (ok_dec rfl) (by decide +kernel) M
  refine ⟨M', fn_rt (N := 9) (es := [iE 1]) ?_⟩
  show B__law_tried [some (iE 1), none, none, none, none, none, none, none, none] M = _
  unfold B__law_tried
  rw [seq_ev (show gSet 1 e1T [some (iE 1), none, none, none, none, none, none, none, none] M = some (.nx [some (iE 1), some (sE [1]), none, none, none, none, none, none, none], M) from rfl)]
  rw [seq_ev (show gPar 3 4 e2T [some (iE 1), some (sE [1]), none, none, none, none, none, none, none] M = some (.nx [some (iE 1), some (sE [1]), none, some (.p (.lst [stP [1]])), some (iE 0), none, none, none, none], M) from rfl)]
  rw [seq_ev ((if_f (M1 := M) rfl).trans rfl)]
  exact e
theorem tried2 (M : Store) : ∃ M', F__law_tried [iE 2] M = some (.inr (iE 1), M') := tried_of (n := 2) (w := [3, 3]) (u := [1, 2]) (v := [3, 3]) (r := some 1) (by decide) (ok_dec (n := 2) rfl).1 (ok_dec rfl) (ok_dec rfl) (fun _ => rfl) (fun _ => rfl) (by decide) (by decide +kernel) (by decide +kernel) M
theorem tried3 (M : Store) : ∃ M', F__law_tried [iE 3] M = some (.inr (.p .non), M') := tried_of (n := 3) (w := [7, 7, 7]) (u := [1, 2, 4]) (v := [3, 3, 4]) (r := none) (by decide) (ok_dec (n := 3) rfl).1 (ok_dec rfl) (ok_dec rfl) (fun _ => rfl) (fun _ => rfl) (by decide) (by decide +kernel) (by decide +kernel) M
theorem tried4 (M : Store) : ∃ M', F__law_tried [iE 4] M = some (.inr (iE 4), M') := tried_of (n := 4) (w := [15, 15, 15, 15]) (u := [1, 2, 4, 8]) (v := [3, 3, 4, 8]) (r := some 4) (by decide) (ok_dec (n := 4) rfl).1 (ok_dec rfl) (ok_dec rfl) (fun _ => rfl) (fun _ => rfl) (by decide) (by decide +kernel) (by decide +kernel) M
theorem tried5 (M : Store) : ∃ M', F__law_tried [iE 5] M = some (.inr (.p .non), M') := tried_of (n := 5) (w := [31, 31, 31, 31, 31]) (u := [1, 2, 4, 8, 16]) (v := [3, 3, 4, 8, 16]) (r := none) (by decide) (ok_dec (n := 5) rfl).1 (ok_dec rfl) (ok_dec rfl) (fun _ => rfl) (fun _ => rfl) (by decide) (by decide +kernel) (by decide +kernel) M
def T6 : List Nat := [34630287555, 34631368899, 34697461955, 38925385923, 34768699587, 43228610755, 52347027651, 34631381199, 34632155343, 34631381955, 34632156099, 52348108995, 34697474263, 34747793623, 34697475523, 34747794883, 43295785155, 38925398247, 42146611431, 38925400515, 42146613699, 39063797955, 34769486043, 34819031259, 34769487555, 34819032771, 43229397227, 46449836267, 43229399747, 46449838787, 52397359347, 55568253171, 52397362371, 55568256195, 34632168399, 52348121295, 52348895439, 52348122051, 52348896195, 52398440691, 55569334515, 52398443715, 55569337539, 52549632195, 65233207491, 52562018499, 65245593795, 34747807191, 43295797463, 43346116823, 43295798723, 43346118083, 43296571627, 46517010667, 43296574147, 46517013187, 43301191875, 64770785475, 43972116675, 65441710275, 42146626023, 39063810279, 42285023463, 39063812547, 42285025731, 39064584411, 39114129627, 39064585923, 39114131139, 39073333443, 39667876035, 64843038915, 65437581507, 34819819227, 46450625259, 55618587891, 52348908495, 52398456015, 55569349839, 52562030799, 65245606095, 52399230159, 55570123983, 52550418639, 65233993935, 52398453747, 55569347571, 52562031555, 65245606851, 52399227891, 55570121715, 52550419395, 65233994691, 55619669235, 65283539187, 65295925491, 55770857715, 55783244019, 65283542211, 65295928515, 55770860739, 55783247043, 65447116995, 43346130391, 43296586455, 46517025495, 43972128983, 65441722583, 43346905815, 46567344855, 43351523543, 64821117143, 43296585195, 46517024235, 43972130243, 65441723843, 43346904555, 46567343595, 43351524803, 64821118403, 46517799659, 64771571947, 65442496747, 46522417387, 47193342187, 64771574467, 65442499267, 46522419907, 47193344707, 42285038055, 39064598247, 39114143463, 64843051239, 65437593831, 42285811431, 42335356647, 42294558951, 42889101543, 39064599003, 39114144219, 64843053507, 65437596099, 42285812187, 42335357403, 42294561219, 42889103811, 39114917595, 39668662491, 65438367963, 39123665115, 64893370587, 39668664003, 65438369475, 39123666627, 64893372099, 52398456831, 52599782655, 52398653391, 52599979215, 65295940815, 55569350655, 68454251775, 55569547215, 68454448335, 55783259343, 52562817279, 52612362495, 52563013839, 52612559055, 65246392575, 68466831615, 65246589135, 68467028175, 52399230975, 52600556799, 52411813839, 65284328655, 52613139663, 55570124799, 68455025919, 55582707663, 55771647183, 68467608783, 52550430975, 52600750335, 52613333199, 65234006271, 68455219455, 68467802319, 52398650367, 52599783411, 52599976947, 65295938547, 55569544191, 68454252531, 68454446067, 55783257075, 52562821059, 52612366275, 52563014595, 52612559811, 65246396355, 68466835395, 65246589891, 68467028931, 52411810815, 52600557555, 65284326387, 52613137395, 55582704639, 68455026675, 55771644915, 68467606515, 52550434755, 52600754115, 52613333955, 65234010051, 68455223235, 68467803075, 65283551487, 68504764671, 65484878067, 68706091251, 65296711935, 68517150975, 65498038515, 68718477555, 55770870015, 55821189375, 68655771891, 55784030463, 55833575679, 68668932339, 65283555267, 68504768451, 65484881091, 68706094275, 65296715715, 68517154755, 65498041539, 68718480579, 55770873795, 55821193155, 68655774915, 55784034243, 55833579459, 68668935363, 43296587775, 43301829375, 43296751575, 43301993175, 65442511575, 46517026815, 67991862015, 46517190615, 67992025815, 47193357015, 43972915455, 44022460671, 43973079255, 44022624471, 65492054271, 68662948095, 65492218071, 68663111895, 43346907135, 43352148735, 44017995735, 64821906135, 44023237335, 46567346175, 68042181375, 47238434775, 46572751575, 68713269975, 43351535871, 43352310015, 44023398615, 64821129471, 68042342655, 68713431255, 43296749055, 43301830635, 43301991915, 65442510315, 46517188095, 67991863275, 67992024555, 47193355755, 43972919235, 44022464451, 43973080515, 44022625731, 65492058051, 68662951875, 65492219331, 68663113155, 44017993215, 43352149995, 64821904875, 44023236075, 47238432255, 68042182635, 46572750315, 68713268715, 43351539651, 43352313795, 44023399875, 64821133251, 68042346435, 68713432515, 64771584255, 67992797439, 64776827115, 67998040299, 65492828415, 68663722239, 65498071275, 68668965099, 46522429695, 46523203839, 67997266155, 47194128639, 47243673855, 68718510315, 64771588035, 67992801219, 64776829635, 67998042819, 65492832195, 68663726019, 65498073795, 68668967619, 46522433475, 46523207619, 67997268675, 47194132419, 47243677635, 68718512835, 39064600575, 39074035455, 39064698855, 39074133735, 65438381799, 39114145791, 39718123263, 39114244071, 39718221543, 64893384423, 64843837695, 68064276735, 64843935975, 68064375015, 65487925503, 68658819327, 65488023783, 68658917607, 42285813759, 42295248639, 68055617511, 42889889511, 68065052391, 42335358975, 42939336447, 68105162727, 42344892135, 68709140199, 42294571263, 42295345407, 68065149159, 42889113855, 42939433215, 68709236967, 39064697343, 39074037723, 39074134491, 65438382555, 39114242559, 39718125531, 39718222299, 64893385179, 64843841475, 68064280515, 64843938243, 68064377283, 65487929283, 68658823107, 65488026051, 68658919875, 68055615999, 42295250907, 42889890267, 68065053147, 68105161215, 42939338715, 42344892891, 68709140955, 42294575043, 42295349187, 68065151427, 42889117635, 42939436995, 68709239235, 39668674815, 39718994175, 39678111963, 39728431323, 65488699647, 68659593471, 65498136795, 68669030619, 39123677439, 39124451583, 39727657179, 64894157055, 68114596095, 68718575835, 39668678595, 39718997955, 39678113475, 39728432835, 65488703427, 68659597251, 65498138307, 68669032131, 39123681219, 39124455363, 39727658691, 64894160835, 68114599875, 68718577347, 52599980031, 65295941631, 65497267455, 65296138191, 65497464015, 65296727295, 68517166335, 65296728015, 68517167055, 65296923855, 68517362895, 65498053839, 68718492879, 68454449151, 55783260159, 68668161279, 55783456719, 68668357839, 55784045823, 55833591039, 55784046543, 55833591759, 55784242383, 55833787599, 68668947663, 52613345535, 68467814655, 65284329471, 52613140479, 65485655295, 65296912335, 65284340991, 68505554175, 65284341711, 68505554895, 65485667535, 65498238159, 68518137039, 68706880719, 55771647999, 68467609599, 68656549119, 55784230863, 55771659519, 55821978879, 55771660239, 55821979599, 68656561359, 55834561743, 68669131983, 65296135167, 65497268211, 65497461747, 65296724991, 68517164031, 65296728051, 68517167091, 65296921587, 68517360627, 65498051571, 68718490611, 55783453695, 68668162035, 68668355571, 55784043519, 55833588735, 55784046579, 55833591795, 55784240115, 55833785331, 68668945395, 52613349315, 68467818435, 65296909311, 65485656051, 65284338687, 68505551871, 65284341747, 68505554931, 65485665267, 65498235891, 68518134771, 68706878451, 55784227839, 68656549875, 55771657215, 55821976575, 55771660275, 55821979635, 68656559091, 55834559475, 68669129715, 68706103551, 68719263999, 68706107331, 68719267779, 43301994495, 65442512895, 65447754495, 65442676695, 65447918295, 65492843263, 68663737087, 65492844503, 68663738327, 65493007063, 68663900887, 65498086103, 68668979927, 67992027135, 47193358335, 68668193535, 47193522135, 68668357335, 47194143487, 47243688703, 47194144727, 47243689943, 47194307287, 47243852503, 68718525143, 44023410943, 68713443583, 64821907455, 44023238655, 64827149055, 65492996055, 64821918463, 68043131647, 64821919703, 68043132887, 64827161303, 65498237655, 68048374487, 68714220247, 46572752895, 68713271295, 68047588095, 47243841495, 46572763903, 46573538047, 46572765143, 46573539287, 68047600343, 47244626647, 68718676695, 65442674175, 65447755755, 65447917035, 65492841983, 68663735807, 65492844523, 68663738347, 65493005803, 68663899627, 65498084843, 68668978667, 47193519615, 68668194795, 68668356075, 47194142207, 47243687423, 47194144747, 47243689963, 47194306027, 47243851243, 68718523883, 44023414723, 68713447363, 65492993535, 64827150315, 64821917183, 68043130367, 64821919723, 68043132907, 64827160043, 65498236395, 68048373227, 68714218987, 47243838975, 68047589355, 46572762623, 46573536767, 46572765163, 46573539307, 68047599083, 47244625387, 68718675435, 67998052607, 68719296767, 67998056387, 68719300547, 39074136063, 65438384127, 65447819007, 65438482407, 65447917287, 65488713471, 68659607295, 65488715751, 68659609575, 65488811751, 68659705575, 65498150631, 68669044455, 39718223871, 64893386751, 65497364223, 64893485031, 65497462503, 64894170879, 68114609919, 64894173159, 68114612199, 64894269159, 68114708199, 68718589671, 68065161471, 68709249279, 42889891839, 68065054719, 42899326719, 68659695591, 42889901823, 42940221183, 42889904103, 42940223463, 42899338983, 42949658343, 68669130471, 68710024935, 42344894463, 68709142527, 42948871935, 68114698215, 42344904447, 42345678591, 42344906727, 42345680871, 42948884199, 68115482343, 68718675687, 65438480895, 65447821275, 65447918043, 65488714239, 68659608063, 65488715739, 68659609563, 65488812507, 68659706331, 65498151387, 68669045211, 64893483519, 65497366491, 65497463259, 64894171647, 68114610687, 64894173147, 68114612187, 64894269915, 68114708955, 68718590427, 68065165251, 68709253059, 68659694079, 42899328987, 42889902591, 42940221951, 42889904091, 42940223451, 42899339739, 42949659099, 68669131227, 68710025691, 68114696703, 42948874203, 42344905215, 42345679359, 42344906715, 42345680859, 42948884955, 68115483099, 68718676443, 39728443647, 68719362303, 39728447427, 68719366083, 65497464831, 65296924671, 68517363711, 65498054655, 68718493695, 65498250495, 68718689535, 65498251215, 68718690255, 68517953535, 68518149375, 68719279359, 68518150095, 68719280079, 68719475919, 68668358655, 55784243199, 55833788415, 68668948479, 68669144319, 68669145039, 55834378239, 55834574079, 55834574799, 65485668351, 65498238975, 68518137855, 68706881535, 68719463679, 68719464399, 68505567231, 68706893055, 68706893775, 68656562175, 55834562559, 68669132799, 55821991935, 65498248191, 68718687231, 65498251251, 68718690291, 68518147071, 68719277055, 68518150131, 68719280115, 68719473651, 68669142015, 68669145075, 55834571775, 55834574835, 68719461375, 68719464435, 68706890751, 68706893811, 65447919615, 65493008383, 68663902207, 65498087423, 68668981247, 65498249983, 68669143807, 65498251223, 68669145047, 68714070015, 68714232575, 68719311615, 68714233815, 68719312855, 68719475415, 47194308607, 47243853823, 68718526463, 68718689023, 68718690263, 47244476415, 47244638975, 47244640215, 64827162623, 68048375807, 68714221567, 68719463167, 68719464407, 68043145215, 68048386815, 68048388055, 68047601663, 47244627967, 68718678015, 46573551615, 65498248703, 68669142527, 65498251243, 68669145067, 68714231295, 68719310335, 68714233835, 68719312875, 68719474155, 68718687743, 68718690283, 47244637695, 47244640235, 68719461887, 68719464427, 68048385535, 68048388075, 65488814079, 68659707903, 65498152959, 68669046783, 65498248959, 68669142783, 65498251239, 68669145063, 68709941247, 68710037247, 68719376127, 68710039527, 68719378407, 68719474407, 64894271487, 68114710527, 68718591999, 68718687999, 68718690279, 68115398655, 68115494655, 68115496935, 42899341311, 42949660671, 68710027263, 68719462143, 68719464423, 42940235775, 42949670655, 42949672935, 42948886527, 68115484671, 42345693183, 65498249727, 68669143551, 65498251227, 68669145051, 68710038015, 68719376895, 68710039515, 68719378395, 68719475163, 68718688767, 68718690267, 68115495423, 68115496923, 68719462911, 68719464411, 42949671423, 42949672923, 68719476735]
def dc6 (c : Nat) : List Nat := [c % 64, c / 64 % 64, c / 4096 % 64, c / 262144 % 64, c / 16777216 % 64, c / 1073741824 % 64]
def tt (a b : Nat) : List (List Nat) := ((T6.take b).drop a).map dc6
theorem addL_app {y : List (List Nat)} : ∀ {x se la se' la' : List (List Nat)}, addL x se la = (se', la') → addL (x ++ y) se la = addL y se' la'
  | [], _, _, _, _, h => by cases h; rfl
  | s :: x, se, la, se', la', h => by
    show (match addA (laterM s) se la with | (se, la) => addL (x ++ y) se la) = _
    exact addL_app (x := x) h
theorem bfs2_go {w : List Nat} {n c : Nat} {line se se' L : List (List Nat)} (h0 : line ≠ []) (hm : memL w line = false) (hb : Nat.ble (se.length + 36 * line.length) 1000000 = true) (ha : addL line se [] = (se', L.reverse)) : bfs2 w (n + 1) line se c = bfs2 w n L se' (c + 1) := by
  cases line with
  | nil => exact absurd rfl h0
  | cons s ss =>
    show (match memL w (s :: ss) with | true => some (some c) | false => match Nat.ble (se.length + 36 * (s :: ss).length) 1000000 with | true => (match addL (s :: ss) se [] with | (se, la) => bfs2 w n la.reverse se (c + 1)) | false => none) = _
    rw [hm, hb, ha]
    show bfs2 w n L.reverse.reverse se' (c + 1) = _
    rw [List.reverse_reverse]
theorem c6_0_0 : addL (tt 0 1) (tt 0 1).reverse [] = ((tt 0 7).reverse, (tt 1 7).reverse) := by decide +kernel
theorem s6_0 : bfs2 [63, 63, 63, 63, 63, 63] 100 (tt 0 1) (tt 0 1).reverse 1 = bfs2 [63, 63, 63, 63, 63, 63] 99 (tt 1 7) (tt 0 7).reverse 2 := bfs2_go (n := 99) (by decide +kernel) (by decide +kernel) (by decide +kernel) c6_0_0
theorem c6_1_0 : addL (tt 1 7) (tt 0 7).reverse [] = ((tt 0 34).reverse, (tt 7 34).reverse) := by decide +kernel
theorem s6_1 : bfs2 [63, 63, 63, 63, 63, 63] 99 (tt 1 7) (tt 0 7).reverse 2 = bfs2 [63, 63, 63, 63, 63, 63] 98 (tt 7 34) (tt 0 34).reverse 3 := bfs2_go (n := 98) (by decide +kernel) (by decide +kernel) (by decide +kernel) c6_1_0
theorem c6_2_0 : addL (tt 7 34) (tt 0 34).reverse [] = ((tt 0 76).reverse, (tt 34 76).reverse) := by decide +kernel
theorem s6_2 : bfs2 [63, 63, 63, 63, 63, 63] 98 (tt 7 34) (tt 0 34).reverse 3 = bfs2 [63, 63, 63, 63, 63, 63] 97 (tt 34 76) (tt 0 76).reverse 4 := bfs2_go (n := 97) (by decide +kernel) (by decide +kernel) (by decide +kernel) c6_2_0
theorem c6_3_0 : addL (tt 34 76) (tt 0 76).reverse [] = ((tt 0 155).reverse, (tt 76 155).reverse) := by decide +kernel
theorem s6_3 : bfs2 [63, 63, 63, 63, 63, 63] 97 (tt 34 76) (tt 0 76).reverse 4 = bfs2 [63, 63, 63, 63, 63, 63] 96 (tt 76 155) (tt 0 155).reverse 5 := bfs2_go (n := 96) (by decide +kernel) (by decide +kernel) (by decide +kernel) c6_3_0
theorem c6_4_0 : addL (tt 76 115) (tt 0 155).reverse [] = ((tt 0 293).reverse, (tt 155 293).reverse) := by decide +kernel
theorem c6_4_1 : addL (tt 115 155) (tt 0 293).reverse (tt 155 293).reverse = ((tt 0 431).reverse, (tt 155 431).reverse) := by decide +kernel
theorem l6_4 : addL (tt 76 155) (tt 0 155).reverse [] = ((tt 0 431).reverse, (tt 155 431).reverse) := by
  rw [show tt 76 155 = tt 76 115 ++ (tt 115 155) from by decide +kernel, addL_app c6_4_0, c6_4_1]
theorem s6_4 : bfs2 [63, 63, 63, 63, 63, 63] 96 (tt 76 155) (tt 0 155).reverse 5 = bfs2 [63, 63, 63, 63, 63, 63] 95 (tt 155 431) (tt 0 431).reverse 6 := bfs2_go (n := 95) (by decide +kernel) (by decide +kernel) (by decide +kernel) l6_4
theorem c6_5_0 : addL (tt 155 210) (tt 0 431).reverse [] = ((tt 0 515).reverse, (tt 431 515).reverse) := by decide +kernel
theorem c6_5_1 : addL (tt 210 265) (tt 0 515).reverse (tt 431 515).reverse = ((tt 0 554).reverse, (tt 431 554).reverse) := by decide +kernel
theorem c6_5_2 : addL (tt 265 320) (tt 0 554).reverse (tt 431 554).reverse = ((tt 0 621).reverse, (tt 431 621).reverse) := by decide +kernel
theorem c6_5_3 : addL (tt 320 375) (tt 0 621).reverse (tt 431 621).reverse = ((tt 0 675).reverse, (tt 431 675).reverse) := by decide +kernel
theorem c6_5_4 : addL (tt 375 431) (tt 0 675).reverse (tt 431 675).reverse = ((tt 0 719).reverse, (tt 431 719).reverse) := by decide +kernel
theorem l6_5 : addL (tt 155 431) (tt 0 431).reverse [] = ((tt 0 719).reverse, (tt 431 719).reverse) := by
  rw [show tt 155 431 = tt 155 210 ++ (tt 210 265 ++ (tt 265 320 ++ (tt 320 375 ++ (tt 375 431)))) from by decide +kernel, addL_app c6_5_0, addL_app c6_5_1, addL_app c6_5_2, addL_app c6_5_3, c6_5_4]
theorem s6_5 : bfs2 [63, 63, 63, 63, 63, 63] 95 (tt 155 431) (tt 0 431).reverse 6 = bfs2 [63, 63, 63, 63, 63, 63] 94 (tt 431 719) (tt 0 719).reverse 7 := bfs2_go (n := 94) (by decide +kernel) (by decide +kernel) (by decide +kernel) l6_5
theorem c6_6_0 : addL (tt 431 488) (tt 0 719).reverse [] = ((tt 0 764).reverse, (tt 719 764).reverse) := by decide +kernel
theorem c6_6_1 : addL (tt 488 546) (tt 0 764).reverse (tt 719 764).reverse = ((tt 0 795).reverse, (tt 719 795).reverse) := by decide +kernel
theorem c6_6_2 : addL (tt 546 603) (tt 0 795).reverse (tt 719 795).reverse = ((tt 0 824).reverse, (tt 719 824).reverse) := by decide +kernel
theorem c6_6_3 : addL (tt 603 661) (tt 0 824).reverse (tt 719 824).reverse = ((tt 0 855).reverse, (tt 719 855).reverse) := by decide +kernel
theorem c6_6_4 : addL (tt 661 719) (tt 0 855).reverse (tt 719 855).reverse = ((tt 0 875).reverse, (tt 719 875).reverse) := by decide +kernel
theorem l6_6 : addL (tt 431 719) (tt 0 719).reverse [] = ((tt 0 875).reverse, (tt 719 875).reverse) := by
  rw [show tt 431 719 = tt 431 488 ++ (tt 488 546 ++ (tt 546 603 ++ (tt 603 661 ++ (tt 661 719)))) from by decide +kernel, addL_app c6_6_0, addL_app c6_6_1, addL_app c6_6_2, addL_app c6_6_3, c6_6_4]
theorem s6_6 : bfs2 [63, 63, 63, 63, 63, 63] 94 (tt 431 719) (tt 0 719).reverse 7 = bfs2 [63, 63, 63, 63, 63, 63] 93 (tt 719 875) (tt 0 875).reverse 8 := bfs2_go (n := 93) (by decide +kernel) (by decide +kernel) (by decide +kernel) l6_6
theorem c6_7_0 : addL (tt 719 771) (tt 0 875).reverse [] = ((tt 0 876).reverse, (tt 875 876).reverse) := by decide +kernel
theorem c6_7_1 : addL (tt 771 823) (tt 0 876).reverse (tt 875 876).reverse = ((tt 0 876).reverse, (tt 875 876).reverse) := by decide +kernel
theorem c6_7_2 : addL (tt 823 875) (tt 0 876).reverse (tt 875 876).reverse = ((tt 0 876).reverse, (tt 875 876).reverse) := by decide +kernel
theorem l6_7 : addL (tt 719 875) (tt 0 875).reverse [] = ((tt 0 876).reverse, (tt 875 876).reverse) := by
  rw [show tt 719 875 = tt 719 771 ++ (tt 771 823 ++ (tt 823 875)) from by decide +kernel, addL_app c6_7_0, addL_app c6_7_1, c6_7_2]
theorem s6_7 : bfs2 [63, 63, 63, 63, 63, 63] 93 (tt 719 875) (tt 0 875).reverse 8 = bfs2 [63, 63, 63, 63, 63, 63] 92 (tt 875 876) (tt 0 876).reverse 9 := bfs2_go (n := 92) (by decide +kernel) (by decide +kernel) (by decide +kernel) l6_7
theorem bfs6 : bfs2 [63, 63, 63, 63, 63, 63] 100 [[3, 3, 4, 8, 16, 32]] [[3, 3, 4, 8, 16, 32]] 1 = some (some 9) := by
  rw [show ([[3, 3, 4, 8, 16, 32]] : List (List Nat)) = tt 0 1 from by decide +kernel, show bfs2 [63, 63, 63, 63, 63, 63] 100 (tt 0 1) (tt 0 1) 1 = bfs2 [63, 63, 63, 63, 63, 63] 100 (tt 0 1) (tt 0 1).reverse 1 from by rw [show (tt 0 1).reverse = tt 0 1 from by decide +kernel], s6_0, s6_1, s6_2, s6_3, s6_4, s6_5, s6_6, s6_7]
  decide +kernel
theorem tried6 (M : Store) : ∃ M', F__law_tried [iE 6] M = some (.inr (iE 9), M') := tried_of (n := 6) (w := [63, 63, 63, 63, 63, 63]) (u := [1, 2, 4, 8, 16, 32]) (v := [3, 3, 4, 8, 16, 32]) (r := some 9) (by decide) (ok_dec (n := 6) rfl).1 (ok_dec rfl) (ok_dec rfl) (fun _ => rfl) (fun _ => rfl) (by decide) (by decide +kernel) bfs6 M
theorem tried_ok (M : Store) (a : Int) (h1 : 1 ≤ a) (h6 : a ≤ 6) : ∃ M', F__law_tried [iE a] M = some (.inr (dueE a), M') := by
  have h : a = 1 ∨ a = 2 ∨ a = 3 ∨ a = 4 ∨ a = 5 ∨ a = 6 := by omega
  rcases h with rfl | rfl | rfl | rfl | rfl | rfl
  · exact tried1 M
  · exact tried2 M
  · exact tried3 M
  · exact tried4 M
  · exact tried5 M
  · exact tried6 M
end
theorem law_true : ∀ ns : List Int, ns.length ≤ 63 → (∀ i ∈ ns, Builtin.Int.intBits i ≤ 1048576) → ∃ M', F_law [.p (.scr (ns.map .int))] [] = some (.inr (.p (.bl true)), M') := fun ns hl _ => law_of tried_ok ns hl
end K16

-- Hk16
set_option maxHeartbeats 4000000
namespace K16
open PySem PySem.Spec L2 Pl
theorem kb1 {s : Shared} {kV doc pm cdv ct : Value} {an : Option Addr} : ∀ (us ws : List Value), (us ++ ws).length = (["many"] : List Str).length → BindsTo s (PySem.W.fnOf "fewest_calls" "fewest_calls" (defArgs (top 23)) (defBody (top 23)) (defScope (top 23)) .none kV doc pm an cdv ct) ⟨us, (["many"] : List Str).zip ws⟩ ((["many"] : List Str).zip (us ++ ws))
  | [], [_], _ => .of_eq rfl
  | [_], [], _ => .of_eq rfl
  | [], [], h => by simp at h
  | [], _ :: _ :: _, h => by simp at h
  | [_], _ :: _, h => by simp at h
  | _ :: _ :: _, _, h => by simp at h
theorem vE {K : PySem.W.Frag} {ca : Nat → Addr} {i : Nat} {t : String} {b : Bool} (q : ct.sub (.c i) (.b t) = some b) (hv : PySem.W.kitOne K (.ref (ca 10)) (.type "ValueError") = some true) : PySem.W.kitOne K (.ref (ca i)) (.type t) = some b := by
  have q : errSub i t = some b := q
  unfold errSub at q
  by_cases hc : i = 10 ∧ t = "ValueError"
  · rw [if_pos hc] at q
    cases q
    rw [hc.1, hc.2]
    exact hv
  · rw [if_neg hc] at q
    cases q
theorem own_ok {K : PySem.W.Frag} {c : Value} {ca : Nat → Addr} (s0 : PySem.W.kitOne K c (.ref (ca 0)) = some true) (s1 : PySem.W.kitOne K c (.ref (ca 1)) = some false) (s2 : PySem.W.kitOne K c (.ref (ca 2)) = some false) (s3 : PySem.W.kitOne K c (.ref (ca 3)) = some false) (s4 : PySem.W.kitOne K c (.ref (ca 4)) = some false) (s5 : PySem.W.kitOne K c (.ref (ca 5)) = some false) (s6 : PySem.W.kitOne K c (.ref (ca 6)) = some false) (s7 : PySem.W.kitOne K c (.ref (ca 7)) = some false) (s8 : PySem.W.kitOne K c (.ref (ca 8)) = some false) (s9 : PySem.W.kitOne K c (.ref (ca 9)) = some false) (s10 : PySem.W.kitOne K c (.ref (ca 10)) = some true) (s11 : PySem.W.kitOne K c (.ref (ca 11)) = some false) (s12 : PySem.W.kitOne K c (.ref (ca 12)) = some false) (s13 : PySem.W.kitOne K c (.ref (ca 13)) = some false) (s14 : PySem.W.kitOne K c (.ref (ca 14)) = some false) (s15 : PySem.W.kitOne K c (.ref (ca 15)) = some false) (s16 : PySem.W.kitOne K c (.ref (ca 16)) = some false) : ∀ {j : Nat}, j < 17 → PySem.W.kitOne K c (.ref (ca j)) = some (j == 10 || j == 0)
  | 0, _ => s0
  | 1, _ => s1
  | 2, _ => s2
  | 3, _ => s3
  | 4, _ => s4
  | 5, _ => s5
  | 6, _ => s6
  | 7, _ => s7
  | 8, _ => s8
  | 9, _ => s9
  | 10, _ => s10
  | 11, _ => s11
  | 12, _ => s12
  | 13, _ => s13
  | 14, _ => s14
  | 15, _ => s15
  | 16, _ => s16
  | j + 17, h => absurd h (by omega)
def subs (z : Bz) : Prop := PySem.W.kitOne z.K (.ref (z.ca 10)) (.ref (z.ca 0)) = some true ∧ PySem.W.kitOne z.K (.ref (z.ca 10)) (.ref (z.ca 1)) = some false ∧ PySem.W.kitOne z.K (.ref (z.ca 10)) (.ref (z.ca 2)) = some false ∧ PySem.W.kitOne z.K (.ref (z.ca 10)) (.ref (z.ca 3)) = some false ∧ PySem.W.kitOne z.K (.ref (z.ca 10)) (.ref (z.ca 4)) = some false ∧ PySem.W.kitOne z.K (.ref (z.ca 10)) (.ref (z.ca 5)) = some false ∧ PySem.W.kitOne z.K (.ref (z.ca 10)) (.ref (z.ca 6)) = some false ∧ PySem.W.kitOne z.K (.ref (z.ca 10)) (.ref (z.ca 7)) = some false ∧ PySem.W.kitOne z.K (.ref (z.ca 10)) (.ref (z.ca 8)) = some false ∧ PySem.W.kitOne z.K (.ref (z.ca 10)) (.ref (z.ca 9)) = some false ∧ PySem.W.kitOne z.K (.ref (z.ca 10)) (.ref (z.ca 10)) = some true ∧ PySem.W.kitOne z.K (.ref (z.ca 10)) (.ref (z.ca 11)) = some false ∧ PySem.W.kitOne z.K (.ref (z.ca 10)) (.ref (z.ca 12)) = some false ∧ PySem.W.kitOne z.K (.ref (z.ca 10)) (.ref (z.ca 13)) = some false ∧ PySem.W.kitOne z.K (.ref (z.ca 10)) (.ref (z.ca 14)) = some false ∧ PySem.W.kitOne z.K (.ref (z.ca 10)) (.ref (z.ca 15)) = some false ∧ PySem.W.kitOne z.K (.ref (z.ca 10)) (.ref (z.ca 16)) = some false
theorem sub_ok {z : Bz} (h : subs z) (hv : PySem.W.kitOne z.K (.ref (z.ca 10)) (.type "ValueError") = some true) {t u : Tg} {b : Bool} (q : ct.sub t u = some b) : PySem.W.kitOne z.K (tgV z t) (tgV z u) = some b := by
  obtain ⟨s0, s1, s2, s3, s4, s5, s6, s7, s8, s9, s10, s11, s12, s13, s14, s15, s16⟩ := h
  cases t with
  | b s =>
    cases u with
    | b t =>
      have q : (bltSub.find? fun p => p.1 == s && p.2.1 == t).map (·.2.2) = some b := q
      cases hf : bltSub.find? fun p => p.1 == s && p.2.1 == t with
      | none => rw [hf] at q; cases q
      | some p =>
        rw [hf] at q
        cases q
        have h1 := List.find?_some hf
        have h2 := List.mem_of_find?_eq_some hf
        simp only [Bool.and_eq_true, beq_iff_eq] at h1
        obtain ⟨rfl, rfl⟩ := h1
        have all : ∀ p ∈ bltSub, kitB p.1 p.2.1 = some p.2.2 := by decide +kernel
        exact kit_ty (all p h2)
    | c j => cases q
  | c i =>
    cases u with
    | b t =>
      exact vE q hv
    | c j =>
      have q : ownSub i j = some b := q
      unfold ownSub at q
      by_cases hc : i = 10 ∧ j < 17
      · rw [if_pos hc] at q
        cases q
        rw [hc.1]
        exact own_ok s0 s1 s2 s3 s4 s5 s6 s7 s8 s9 s10 s11 s12 s13 s14 s15 s16 hc.2
      · rw [if_neg hc] at q
        cases q
theorem law_at {l : PySem.W.OpenLaw} {w : World} {K : PySem.W.Frag} {h : Heap} {mg : Str → Option Value} {fa cc P : Addr} {tMT : Tok} {C0 C1 C2 C3 C4 C5 C6 C7 C8 C9 C10 C11 C12 C13 C14 C15 C16 : Addr} {f19 f22 f23 f25 f26 f27 f28 f29 f30 f31 f32 : Addr} {od19 an19 od22 an22 od23 an23 od25 an25 od26 an26 od27 an27 od28 an28 od29 an29 od30 an30 od31 an31 od32 an32 : Option Addr} {sl19 sl22 sl23 sl25 sl26 sl27 sl28 sl29 sl30 sl31 sl32 : Array (Option Value)} {oc19 kV19 dc19 pm19 ct19 cd19 oc22 kV22 dc22 pm22 ct22 cd22 oc23 kV23 dc23 pm23 ct23 cd23 oc25 kV25 dc25 pm25 ct25 cd25 oc26 kV26 dc26 pm26 ct26 cd26 oc27 kV27 dc27 pm27 ct27 cd27 oc28 kV28 dc28 pm28 ct28 cd28 oc29 kV29 dc29 pm29 ct29 cd29 oc30 kV30 dc30 pm30 ct30 cd30 oc31 kV31 dc31 pm31 ct31 cd31 oc32 kV32 dc32 pm32 ct32 : Value} (X : K.In h) (G : h.Ns mainGlobals mg) (hfa : mg "law" = some (.ref fa))
    (hT : h.get? P = some { cls := .none, data := .fields #[] })
    (zb_ValueError : PySem.W.nsIn K mainGlobals "ValueError" = some none)
    (zb_abs : PySem.W.nsIn K mainGlobals "abs" = some none)
    (zb_bool : PySem.W.nsIn K mainGlobals "bool" = some none)
    (zb_int : PySem.W.nsIn K mainGlobals "int" = some none)
    (zb_isinstance : PySem.W.nsIn K mainGlobals "isinstance" = some none)
    (zb_len : PySem.W.nsIn K mainGlobals "len" = some none)
    (zb_max : PySem.W.nsIn K mainGlobals "max" = some none)
    (zb_min : PySem.W.nsIn K mainGlobals "min" = some none)
    (zb_range : PySem.W.nsIn K mainGlobals "range" = some none)
    (zb_set : PySem.W.nsIn K mainGlobals "set" = some none)
    (zb_sorted : PySem.W.nsIn K mainGlobals "sorted" = some none)
    (zb_tuple : PySem.W.nsIn K mainGlobals "tuple" = some none)
    (zc_HandError : PySem.W.nsIn K mainGlobals "HandError" = some (some (.ref C0)))
    (zc_BadGroup : PySem.W.nsIn K mainGlobals "BadGroup" = some (some (.ref C1)))
    (zc_NoName : PySem.W.nsIn K mainGlobals "NoName" = some (some (.ref C2)))
    (zc_NoPerson : PySem.W.nsIn K mainGlobals "NoPerson" = some (some (.ref C3)))
    (zc_NoPage : PySem.W.nsIn K mainGlobals "NoPage" = some (some (.ref C4)))
    (zc_Twice : PySem.W.nsIn K mainGlobals "Twice" = some (some (.ref C5)))
    (zc_Barred : PySem.W.nsIn K mainGlobals "Barred" = some (some (.ref C6)))
    (zc_Idle : PySem.W.nsIn K mainGlobals "Idle" = some (some (.ref C7)))
    (zc_Uneven : PySem.W.nsIn K mainGlobals "Uneven" = some (some (.ref C8)))
    (zc_NoCall : PySem.W.nsIn K mainGlobals "NoCall" = some (some (.ref C9)))
    (zc_NoNumber : PySem.W.nsIn K mainGlobals "NoNumber" = some (some (.ref C10)))
    (zc_NoWay : PySem.W.nsIn K mainGlobals "NoWay" = some (some (.ref C11)))
    (zc_TooMany : PySem.W.nsIn K mainGlobals "TooMany" = some (some (.ref C12)))
    (zc_Spoils : PySem.W.nsIn K mainGlobals "Spoils" = some (some (.ref C13)))
    (zc_NoDeed : PySem.W.nsIn K mainGlobals "NoDeed" = some (some (.ref C14)))
    (zc_NoBack : PySem.W.nsIn K mainGlobals "NoBack" = some (some (.ref C15)))
    (zc_NoText : PySem.W.nsIn K mainGlobals "NoText" = some (some (.ref C16)))
    (zk_MOST_TOLD : PySem.W.nsIn K mainGlobals "MOST_TOLD" = some (some (.int 64 tMT)))
    (za19 : PySem.W.nsIn K mainGlobals "is_whole" = some (some (.ref f19)))
    (zl19 : K.lookup f19 = some ⟨oc19, od19, .func (PySem.W.fnOf "is_whole" "is_whole" (defArgs (top 19)) (defBody (top 19)) (defScope (top 19)) .none kV19 dc19 pm19 an19 cd19 ct19), sl19⟩)
    (zd19 : PySem.W.codeIn K cd19 "is_whole" = true)
    (ze19 : PySem.W.keepIn K (.ref f19) = true)
    (za22 : PySem.W.nsIn K mainGlobals "told_rounds" = some (some (.ref f22)))
    (zl22 : K.lookup f22 = some ⟨oc22, od22, .func (PySem.W.fnOf "told_rounds" "told_rounds" (defArgs (top 22)) (defBody (top 22)) (defScope (top 22)) .none kV22 dc22 pm22 an22 cd22 ct22), sl22⟩)
    (zd22 : PySem.W.codeIn K cd22 "told_rounds" = true)
    (ze22 : PySem.W.keepIn K (.ref f22) = true)
    (za23 : PySem.W.nsIn K mainGlobals "fewest_calls" = some (some (.ref f23)))
    (zl23 : K.lookup f23 = some ⟨oc23, od23, .func (PySem.W.fnOf "fewest_calls" "fewest_calls" (defArgs (top 23)) (defBody (top 23)) (defScope (top 23)) .none kV23 dc23 pm23 an23 cd23 ct23), sl23⟩)
    (zd23 : PySem.W.codeIn K cd23 "fewest_calls" = true)
    (ze23 : PySem.W.keepIn K (.ref f23) = true)
    (za25 : PySem.W.nsIn K mainGlobals "_law_begun" = some (some (.ref f25)))
    (zl25 : K.lookup f25 = some ⟨oc25, od25, .func (PySem.W.fnOf "_law_begun" "_law_begun" (defArgs (top 25)) (defBody (top 25)) (defScope (top 25)) .none kV25 dc25 pm25 an25 cd25 ct25), sl25⟩)
    (zd25 : PySem.W.codeIn K cd25 "_law_begun" = true)
    (ze25 : PySem.W.keepIn K (.ref f25) = true)
    (za26 : PySem.W.nsIn K mainGlobals "_law_take" = some (some (.ref f26)))
    (zl26 : K.lookup f26 = some ⟨oc26, od26, .func (PySem.W.fnOf "_law_take" "_law_take" (defArgs (top 26)) (defBody (top 26)) (defScope (top 26)) .none kV26 dc26 pm26 an26 cd26 ct26), sl26⟩)
    (zd26 : PySem.W.codeIn K cd26 "_law_take" = true)
    (ze26 : PySem.W.keepIn K (.ref f26) = true)
    (za27 : PySem.W.nsIn K mainGlobals "_law_pick" = some (some (.ref f27)))
    (zl27 : K.lookup f27 = some ⟨oc27, od27, .func (PySem.W.fnOf "_law_pick" "_law_pick" (defArgs (top 27)) (defBody (top 27)) (defScope (top 27)) .none kV27 dc27 pm27 an27 cd27 ct27), sl27⟩)
    (zd27 : PySem.W.codeIn K cd27 "_law_pick" = true)
    (ze27 : PySem.W.keepIn K (.ref f27) = true)
    (za28 : PySem.W.nsIn K mainGlobals "_law_no_number" = some (some (.ref f28)))
    (zl28 : K.lookup f28 = some ⟨oc28, od28, .func (PySem.W.fnOf "_law_no_number" "_law_no_number" (defArgs (top 28)) (defBody (top 28)) (defScope (top 28)) .none kV28 dc28 pm28 an28 cd28 ct28), sl28⟩)
    (zd28 : PySem.W.codeIn K cd28 "_law_no_number" = true)
    (ze28 : PySem.W.keepIn K (.ref f28) = true)
    (za29 : PySem.W.nsIn K mainGlobals "_law_due" = some (some (.ref f29)))
    (zl29 : K.lookup f29 = some ⟨oc29, od29, .func (PySem.W.fnOf "_law_due" "_law_due" (defArgs (top 29)) (defBody (top 29)) (defScope (top 29)) .none kV29 dc29 pm29 an29 cd29 ct29), sl29⟩)
    (zd29 : PySem.W.codeIn K cd29 "_law_due" = true)
    (ze29 : PySem.W.keepIn K (.ref f29) = true)
    (za30 : PySem.W.nsIn K mainGlobals "_law_later" = some (some (.ref f30)))
    (zl30 : K.lookup f30 = some ⟨oc30, od30, .func (PySem.W.fnOf "_law_later" "_law_later" (defArgs (top 30)) (defBody (top 30)) (defScope (top 30)) .none kV30 dc30 pm30 an30 cd30 ct30), sl30⟩)
    (zd30 : PySem.W.codeIn K cd30 "_law_later" = true)
    (ze30 : PySem.W.keepIn K (.ref f30) = true)
    (za31 : PySem.W.nsIn K mainGlobals "_law_tried" = some (some (.ref f31)))
    (zl31 : K.lookup f31 = some ⟨oc31, od31, .func (PySem.W.fnOf "_law_tried" "_law_tried" (defArgs (top 31)) (defBody (top 31)) (defScope (top 31)) .none kV31 dc31 pm31 an31 cd31 ct31), sl31⟩)
    (zd31 : PySem.W.codeIn K cd31 "_law_tried" = true)
    (ze31 : PySem.W.keepIn K (.ref f31) = true)
    (za32 : PySem.W.nsIn K mainGlobals "law" = some (some (.ref f32)))
    (zl32 : K.lookup f32 = some ⟨oc32, od32, .func (PySem.W.fnOf "law" "law" (defArgs (top 32)) (defBody (top 32)) (defScope (top 32)) .none kV32 dc32 pm32 an32 (.ref cc) ct32), sl32⟩)
    (zd32 : PySem.W.codeIn K (.ref cc) "law" = true)
    (ze32 : PySem.W.keepIn K (.ref f32) = true)
    (rq : PySem.W.excIn K C10 [.type "ValueError", .type "Exception", .type "BaseException", .type "object"] "ValueError.__new__" = true)
    (rk : PySem.W.keepIn K (.ref C10) = true)
    (r1 : PySem.W.subIn K (.ref C10) (.type "BaseException") = some true)
    (r2 : PySem.W.typeIn K (.ref C10) = some (.type "type"))
    (eg : PySem.W.findIn K (.ref C10) "__getattribute__" = some (some (.builtin "BaseException.__getattribute__")))
    (ek : PySem.W.findIn K (.ref C10) "__getattr__" = some none)
    (ed : PySem.W.hasDictIn K C10 = true)
    (ea : PySem.W.findIn K (.ref C10) "__class__" = some (some (.builtin "object.__class__")))
    (en : PySem.W.specialIn K (.builtin "object.__class__") "__get__" = some (some (.builtin "getset_descriptor.__get__")))
    (et : PySem.W.takesIn K (.builtin "object.__class__") = some true)
    (em : PySem.W.mroIn K C10 (.type "object") = some true)
    (xm : PySem.W.exmOne K (.ref C10) (.ref C0) = some true)
    (kve : PySem.W.kitOne K (.ref C10) (.type "ValueError") = some true)
    (ks0 : PySem.W.kitOne K (.ref C10) (.ref C0) = some true)
    (ks1 : PySem.W.kitOne K (.ref C10) (.ref C1) = some false)
    (ks2 : PySem.W.kitOne K (.ref C10) (.ref C2) = some false)
    (ks3 : PySem.W.kitOne K (.ref C10) (.ref C3) = some false)
    (ks4 : PySem.W.kitOne K (.ref C10) (.ref C4) = some false)
    (ks5 : PySem.W.kitOne K (.ref C10) (.ref C5) = some false)
    (ks6 : PySem.W.kitOne K (.ref C10) (.ref C6) = some false)
    (ks7 : PySem.W.kitOne K (.ref C10) (.ref C7) = some false)
    (ks8 : PySem.W.kitOne K (.ref C10) (.ref C8) = some false)
    (ks9 : PySem.W.kitOne K (.ref C10) (.ref C9) = some false)
    (ks10 : PySem.W.kitOne K (.ref C10) (.ref C10) = some true)
    (ks11 : PySem.W.kitOne K (.ref C10) (.ref C11) = some false)
    (ks12 : PySem.W.kitOne K (.ref C10) (.ref C12) = some false)
    (ks13 : PySem.W.kitOne K (.ref C10) (.ref C13) = some false)
    (ks14 : PySem.W.kitOne K (.ref C10) (.ref C14) = some false)
    (ks15 : PySem.W.kitOne K (.ref C10) (.ref C15) = some false)
    (ks16 : PySem.W.kitOne K (.ref C10) (.ref C16) = some false)
    (tb : PySem.W.tabIn K (PySem.Str.ofString "law") = some (cc, P))
    (thd : PySem.W.codeHdIn K cc P = true)
    (tnP : K.lookup P = none) : LamX.LawAtS l w K (L2.CX l.prog w) 7 63 "script" mg fa h := by
  have e := hfa.symm.trans (PySem.W.mg_of X G za32)
  cases e
  let z : Bz := ⟨l.prog, w, K, (fun i => ([C0, C1, C2, C3, C4, C5, C6, C7, C8, C9, C10, C11, C12, C13, C14, C15, C16] : List Addr).getD i 0), [(P, PySem.Str.ofString "law.<locals>.<lambda>")]⟩
  let ad : Nat → Addr := (fun i => (([(19, f19), (22, f22), (23, f23), (25, f25), (26, f26), (27, f27), (28, f28), (29, f29), (30, f30), (31, f31), (32, fa)] : List (Nat × Addr)).lookup i).getD 0)
  have T : Tx z mg ad := { b_ValueError := PySem.W.mg_none_of X G zb_ValueError, b_abs := PySem.W.mg_none_of X G zb_abs, b_bool := PySem.W.mg_none_of X G zb_bool, b_int := PySem.W.mg_none_of X G zb_int, b_isinstance := PySem.W.mg_none_of X G zb_isinstance, b_len := PySem.W.mg_none_of X G zb_len, b_max := PySem.W.mg_none_of X G zb_max, b_min := PySem.W.mg_none_of X G zb_min, b_range := PySem.W.mg_none_of X G zb_range, b_set := PySem.W.mg_none_of X G zb_set, b_sorted := PySem.W.mg_none_of X G zb_sorted, b_tuple := PySem.W.mg_none_of X G zb_tuple, c_BadGroup := PySem.W.mg_of X G zc_BadGroup, c_Barred := PySem.W.mg_of X G zc_Barred, c_HandError := PySem.W.mg_of X G zc_HandError, c_Idle := PySem.W.mg_of X G zc_Idle, c_NoBack := PySem.W.mg_of X G zc_NoBack, c_NoCall := PySem.W.mg_of X G zc_NoCall, c_NoDeed := PySem.W.mg_of X G zc_NoDeed, c_NoName := PySem.W.mg_of X G zc_NoName, c_NoNumber := PySem.W.mg_of X G zc_NoNumber, c_NoPage := PySem.W.mg_of X G zc_NoPage, c_NoPerson := PySem.W.mg_of X G zc_NoPerson, c_NoText := PySem.W.mg_of X G zc_NoText, c_NoWay := PySem.W.mg_of X G zc_NoWay, c_Spoils := PySem.W.mg_of X G zc_Spoils, c_TooMany := PySem.W.mg_of X G zc_TooMany, c_Twice := PySem.W.mg_of X G zc_Twice, c_Uneven := PySem.W.mg_of X G zc_Uneven, f__law_begun := PySem.W.mg_of X G za25, f__law_due := PySem.W.mg_of X G za29, f__law_later := PySem.W.mg_of X G za30, f__law_no_number := PySem.W.mg_of X G za28, f__law_pick := PySem.W.mg_of X G za27, f__law_take := PySem.W.mg_of X G za26, f__law_tried := PySem.W.mg_of X G za31, f_fewest_calls := PySem.W.mg_of X G za23, f_is_whole := PySem.W.mg_of X G za19, f_told_rounds := PySem.W.mg_of X G za22, k_MOST_TOLD := ⟨_, PySem.W.mg_of X G zk_MOST_TOLD⟩, r_NoNumber := ⟨PySem.F.excBase_ValueError, rq, rk, r1, r2⟩ }
  have ctok : CTok z ct := by
    refine ⟨fun c hc => (by cases hc), fun c hc => ?_, fun t u b hb => ?_⟩
    · have e10 : c = 10 := by simpa [ct] using hc
      subst e10
      exact ⟨eg, ek, r1, ed, ea, en, et, em⟩
    · exact sub_ok (z := z) ⟨ks0, ks1, ks2, ks3, ks4, ks5, ks6, ks7, ks8, ks9, ks10, ks11, ks12, ks13, ks14, ks15, ks16⟩ kve hb
  have hcatch : ∀ k b, catchNN k = some b → PySem.W.exmOne z.K (.ref (z.ca k)) (.ref (z.ca 0)) = some b := fun k b hk => by
    unfold catchNN at hk
    split at hk
    · rename_i e; subst e; cases hk; exact xm
    · cases hk
  have U19 := fun_mk (st := top 19) zl19 zd19 ze19
  have V19 := U19.binds (ps := ["thing", "least", "most"]) fun _ _ _ _ _ _ us hl => match us, hl with | [_, _, _], _ => rfl
  have D19 : DefAt z.K "is_whole" (top 19) (ad 19) ["thing", "least", "most"] := ⟨_, U19, V19⟩
  have U22 := fun_mk (st := top 22) zl22 zd22 ze22
  have V22 := U22.binds (ps := ["many"]) fun _ _ _ _ _ _ us hl => match us, hl with | [_], _ => rfl
  have D22 : DefAt z.K "told_rounds" (top 22) (ad 22) ["many"] := ⟨_, U22, V22⟩
  have U23 := fun_mk (st := top 23) zl23 zd23 ze23
  have V23 := U23.binds (ps := ["many"]) fun _ _ _ _ _ _ us hl => match us, hl with | [_], _ => rfl
  have D23 : DefAt z.K "fewest_calls" (top 23) (ad 23) ["many"] := ⟨_, U23, V23⟩
  have U25 := fun_mk (st := top 25) zl25 zd25 ze25
  have V25 := U25.binds (ps := ["script"]) fun _ _ _ _ _ _ us hl => match us, hl with | [_], _ => rfl
  have D25 : DefAt z.K "_law_begun" (top 25) (ad 25) ["script"] := ⟨_, U25, V25⟩
  have U26 := fun_mk (st := top 26) zl26 zd26 ze26
  have V26 := U26.binds (ps := ["draw", "size"]) fun _ _ _ _ _ _ us hl => match us, hl with | [_, _], _ => rfl
  have D26 : DefAt z.K "_law_take" (top 26) (ad 26) ["draw", "size"] := ⟨_, U26, V26⟩
  have U27 := fun_mk (st := top 27) zl27 zd27 ze27
  have V27 := U27.binds (ps := ["draw", "some"]) fun _ _ _ _ _ _ us hl => match us, hl with | [_, _], _ => rfl
  have D27 : DefAt z.K "_law_pick" (top 27) (ad 27) ["draw", "some"] := ⟨_, U27, V27⟩
  have U28 := fun_mk (st := top 28) zl28 zd28 ze28
  have V28 := U28.binds (ps := ["work"]) fun _ _ _ _ _ _ us hl => match us, hl with | [_], _ => rfl
  have D28 : DefAt z.K "_law_no_number" (top 28) (ad 28) ["work"] := ⟨_, U28, V28⟩
  have U29 := fun_mk (st := top 29) zl29 zd29 ze29
  have V29 := U29.binds (ps := ["amount"]) fun _ _ _ _ _ _ us hl => match us, hl with | [_], _ => rfl
  have D29 : DefAt z.K "_law_due" (top 29) (ad 29) ["amount"] := ⟨_, U29, V29⟩
  have U30 := fun_mk (st := top 30) zl30 zd30 ze30
  have V30 := U30.binds (ps := ["stand"]) fun _ _ _ _ _ _ us hl => match us, hl with | [_], _ => rfl
  have D30 : DefAt z.K "_law_later" (top 30) (ad 30) ["stand"] := ⟨_, U30, V30⟩
  have U31 := fun_mk (st := top 31) zl31 zd31 ze31
  have V31 := U31.binds (ps := ["amount"]) fun _ _ _ _ _ _ us hl => match us, hl with | [_], _ => rfl
  have D31 : DefAt z.K "_law_tried" (top 31) (ad 31) ["amount"] := ⟨_, U31, V31⟩
  refine ⟨PySem.W.fnOf "law" "law" (defArgs (top 32)) (defBody (top 32)) (defScope (top 32)) .none kV32 dc32 pm32 an32 (.ref cc) ct32, [(cc, P)], spD z 1 F_law, ?_, ?_, ?_, fun s v => .of_eq rfl, ?_, fun base KB GB0 TB0 => ?_⟩
  · intro p hp; rw [List.mem_singleton.mp hp]; exact hT
  · intro p hp; rw [List.mem_singleton.mp hp]; exact tnP
  · intro p hp; rw [List.mem_singleton.mp hp]; exact PySem.W.codeHd_of_K X thd
  · intro H a ns hl hb hT2 hS
    exact law_sp law_true (by decide) hl hb (fun p hp => by rw [List.mem_singleton.mp hp]; exact hT2 _ List.mem_cons_self) hS
  have G_is_whole := ok_is_whole (base := base) T ctok D19 
  have G_told_rounds := ok_told_rounds (base := base) T ctok D22 G_is_whole
  have G_fewest_calls := ok_fewest_calls (base := base) T ctok D23 G_is_whole G_told_rounds
  have G__law_begun := ok__law_begun (base := base) T ctok D25 
  have G__law_take := ok__law_take (base := base) T ctok D26 
  have G__law_pick := ok__law_pick (base := base) T ctok D27 G__law_take
  have G__law_due := ok__law_due (base := base) T ctok D29 
  have G__law_later := ok__law_later (base := base) T ctok D30 
  have G__law_tried := ok__law_tried (base := base) T ctok D31 G__law_later
  have GK : ∃ fd, FnOk z.prog z.w z.K mg base (L2.CX z.prog z.w) 3 (ad 23) fd ["many"] (spD z 1 F_fewest_calls) ∧ PySem.W.keepIn z.K (.ref (ad 23)) = true ∧ KBinds z.K fd ["many"] ["many"] (fun us ws => us ++ ws) (fun vs zs => vs ++ zs) :=
    ⟨_, fn_okC (z := z) (N := N_fewest_calls) U23 sc_fewest_calls (bd_fewest_calls T ctok G_is_whole G_told_rounds), ze23, ⟨fun s us ws _ hl => kb1 us ws hl, fun r q => r.append q⟩⟩
  exact fn_okE (z := z) (N := N_law) zl32 zd32 sc_law fun A outer s H E Wx hr tk => bd_law T ctok hcatch D28 G_fewest_calls G__law_begun G__law_take G__law_pick G__law_due G__law_tried GK (TB0 (cc, P) List.mem_cons_self) List.mem_cons_self (fun p hp _ => by rw [List.mem_singleton.mp hp]) A outer s H E Wx hr tk
end K16

open PySem PySem.W PyProof.Rows in
set_option maxRecDepth 100000 in
set_option maxHeartbeats 0 in
theorem PySem.Challenge.cw_evenhands_k16_fewest_calls_holds : PySem.Challenge.rw_evenhands_k16_fewest_calls.Holds := by
  w_on; o_law; k_head; (case hw => w_witness2)
  k_fill
  refine LamX.walk_ofTs (l := PySem.Challenge.rw_evenhands_k16_fewest_calls) (n := 63) (k := 7) (x := "script") (CX := fun w => L2.CX PySem.Challenge.rw_evenhands_k16_fewest_calls.prog w) rfl (by decide) rfl ⟨rfl, by decide, by decide⟩ (fun w h Y => PySem.W.km_in_of Y) ?F (fun w H s e s' z => by obtain ⟨_, _, _, _, _, _, _, _, _, _, _, _, z⟩ := z; exact z)
  case F =>
    intro w mg fa h Y KX G hmg
    have hT8 := PySem.W.km_tabs_of Y
    refine' K16.law_at KX G hmg ?hT ?zb_ValueError ?zb_abs ?zb_bool ?zb_int ?zb_isinstance ?zb_len ?zb_max ?zb_min ?zb_range ?zb_set ?zb_sorted ?zb_tuple ?zc_HandError ?zc_BadGroup ?zc_NoName ?zc_NoPerson ?zc_NoPage ?zc_Twice ?zc_Barred ?zc_Idle ?zc_Uneven ?zc_NoCall ?zc_NoNumber ?zc_NoWay ?zc_TooMany ?zc_Spoils ?zc_NoDeed ?zc_NoBack ?zc_NoText ?zk_MOST_TOLD ?za19 ?zl19 ?zd19 ?ze19 ?za22 ?zl22 ?zd22 ?ze22 ?za23 ?zl23 ?zd23 ?ze23 ?za25 ?zl25 ?zd25 ?ze25 ?za26 ?zl26 ?zd26 ?ze26 ?za27 ?zl27 ?zd27 ?ze27 ?za28 ?zl28 ?zd28 ?ze28 ?za29 ?zl29 ?zd29 ?ze29 ?za30 ?zl30 ?zd30 ?ze30 ?za31 ?zl31 ?zd31 ?ze31 ?za32 ?zl32 ?zd32 ?ze32 ?rq ?rk ?r1 ?r2 ?eg ?ek ?ed ?ea ?en ?et ?em ?xm ?kve ?ks0 ?ks1 ?ks2 ?ks3 ?ks4 ?ks5 ?ks6 ?ks7 ?ks8 ?ks9 ?ks10 ?ks11 ?ks12 ?ks13 ?ks14 ?ks15 ?ks16 ?tb ?thd ?tnP
    (case tb => first | k_is | kernel_rfl)
    (case zb_ValueError => first | k_is | kernel_rfl)
    (case zb_abs => first | k_is | kernel_rfl)
    (case zb_bool => first | k_is | kernel_rfl)
    (case zb_int => first | k_is | kernel_rfl)
    (case zb_isinstance => first | k_is | kernel_rfl)
    (case zb_len => first | k_is | kernel_rfl)
    (case zb_max => first | k_is | kernel_rfl)
    (case zb_min => first | k_is | kernel_rfl)
    (case zb_range => first | k_is | kernel_rfl)
    (case zb_set => first | k_is | kernel_rfl)
    (case zb_sorted => first | k_is | kernel_rfl)
    (case zb_tuple => first | k_is | kernel_rfl)
    (case zc_HandError => first | k_is | kernel_rfl)
    (case zc_BadGroup => first | k_is | kernel_rfl)
    (case zc_NoName => first | k_is | kernel_rfl)
    (case zc_NoPerson => first | k_is | kernel_rfl)
    (case zc_NoPage => first | k_is | kernel_rfl)
    (case zc_Twice => first | k_is | kernel_rfl)
    (case zc_Barred => first | k_is | kernel_rfl)
    (case zc_Idle => first | k_is | kernel_rfl)
    (case zc_Uneven => first | k_is | kernel_rfl)
    (case zc_NoCall => first | k_is | kernel_rfl)
    (case zc_NoNumber => first | k_is | kernel_rfl)
    (case zc_NoWay => first | k_is | kernel_rfl)
    (case zc_TooMany => first | k_is | kernel_rfl)
    (case zc_Spoils => first | k_is | kernel_rfl)
    (case zc_NoDeed => first | k_is | kernel_rfl)
    (case zc_NoBack => first | k_is | kernel_rfl)
    (case zc_NoText => first | k_is | kernel_rfl)
    (case zk_MOST_TOLD => first | k_is | kernel_rfl)
    (case za19 => first | k_is | kernel_rfl)
    (case zl19 => first | k_is | kernel_rfl)
    (case zd19 => first | k_is | kernel_rfl)
    (case ze19 => first | k_is | kernel_rfl)
    (case za22 => first | k_is | kernel_rfl)
    (case zl22 => first | k_is | kernel_rfl)
    (case zd22 => first | k_is | kernel_rfl)
    (case ze22 => first | k_is | kernel_rfl)
    (case za23 => first | k_is | kernel_rfl)
    (case zl23 => first | k_is | kernel_rfl)
    (case zd23 => first | k_is | kernel_rfl)
    (case ze23 => first | k_is | kernel_rfl)
    (case za25 => first | k_is | kernel_rfl)
    (case zl25 => first | k_is | kernel_rfl)
    (case zd25 => first | k_is | kernel_rfl)
    (case ze25 => first | k_is | kernel_rfl)
    (case za26 => first | k_is | kernel_rfl)
    (case zl26 => first | k_is | kernel_rfl)
    (case zd26 => first | k_is | kernel_rfl)
    (case ze26 => first | k_is | kernel_rfl)
    (case za27 => first | k_is | kernel_rfl)
    (case zl27 => first | k_is | kernel_rfl)
    (case zd27 => first | k_is | kernel_rfl)
    (case ze27 => first | k_is | kernel_rfl)
    (case za28 => first | k_is | kernel_rfl)
    (case zl28 => first | k_is | kernel_rfl)
    (case zd28 => first | k_is | kernel_rfl)
    (case ze28 => first | k_is | kernel_rfl)
    (case za29 => first | k_is | kernel_rfl)
    (case zl29 => first | k_is | kernel_rfl)
    (case zd29 => first | k_is | kernel_rfl)
    (case ze29 => first | k_is | kernel_rfl)
    (case za30 => first | k_is | kernel_rfl)
    (case zl30 => first | k_is | kernel_rfl)
    (case zd30 => first | k_is | kernel_rfl)
    (case ze30 => first | k_is | kernel_rfl)
    (case za31 => first | k_is | kernel_rfl)
    (case zl31 => first | k_is | kernel_rfl)
    (case zd31 => first | k_is | kernel_rfl)
    (case ze31 => first | k_is | kernel_rfl)
    (case za32 => first | k_is | kernel_rfl)
    (case zl32 => first | k_is | kernel_rfl)
    (case zd32 => first | k_is | kernel_rfl)
    (case ze32 => first | k_is | kernel_rfl)
    (case rq => first | k_is | kernel_rfl)
    (case rk => first | k_is | kernel_rfl)
    (case r1 => first | k_is | kernel_rfl)
    (case r2 => first | k_is | kernel_rfl)
    (case eg => first | k_is | kernel_rfl)
    (case ek => first | k_is | kernel_rfl)
    (case ed => first | k_is | kernel_rfl)
    (case ea => first | k_is | kernel_rfl)
    (case en => first | k_is | kernel_rfl)
    (case et => first | k_is | kernel_rfl)
    (case em => first | k_is | kernel_rfl)
    (case xm => first | k_is | kernel_rfl)
    (case kve => first | k_is | kernel_rfl)
    (case ks0 => first | k_is | kernel_rfl)
    (case ks1 => first | k_is | kernel_rfl)
    (case ks2 => first | k_is | kernel_rfl)
    (case ks3 => first | k_is | kernel_rfl)
    (case ks4 => first | k_is | kernel_rfl)
    (case ks5 => first | k_is | kernel_rfl)
    (case ks6 => first | k_is | kernel_rfl)
    (case ks7 => first | k_is | kernel_rfl)
    (case ks8 => first | k_is | kernel_rfl)
    (case ks9 => first | k_is | kernel_rfl)
    (case ks10 => first | k_is | kernel_rfl)
    (case ks11 => first | k_is | kernel_rfl)
    (case ks12 => first | k_is | kernel_rfl)
    (case ks13 => first | k_is | kernel_rfl)
    (case ks14 => first | k_is | kernel_rfl)
    (case ks15 => first | k_is | kernel_rfl)
    (case ks16 => first | k_is | kernel_rfl)
    (case thd => first | k_is | kernel_rfl)
    (case tnP => first | k_is | kernel_rfl)
    case hT => exact hT8 _ (by k_mem)
