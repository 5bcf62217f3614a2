import PyProof.Rows.All
import Wide.All
import OpenK.AllK
import Wide.FinOn
import HandS.ForMost
import HandS.Defaults
import HandS.More
import HandS.Exc
import HandS.IsInst
import HandS.RaiseMore
import PyProof.ReprRoads
import HandS.Head0
import HandS.Head1
import HandS.Head2
import HandS.HeadEnd
import HandS.HeadHook1
import HandS.HeadHook2
import HandS.HeadHook3
import HandS.MakeKwOnly
import HandS.WordsExc
import PyProof.ReprLen
import PyProof.P3Eq
import PySem.Challenge.RW_knitrows_k52_widths_and_cast_ons
set_option Elab.async false
set_option linter.all false
set_option maxRecDepth 100000
set_option maxHeartbeats 8000000
/-! DLa: data over the hand layer: what a value denotes, states by data, the judgements. -/
namespace DL
open PySem L2

/-- data -/
inductive D where
  | non | bl (b : Bool) | int (i : Int) | str (x : Str) | lst (xs : List D) | tup (xs : List D) | dct (kvs : List (Key × D)) | obj (C : Addr) (fs : List (Str × D))

mutual
/-- what a value denotes in the frozen heap F -/
inductive Den (F : Hp) : V → D → Prop
  | non : Den F .non .non
  | bl (b : Bool) : Den F (.bl b) (.bl b)
  | int (i : Int) : Den F (.int i) (.int i)
  | str (x : Str) : Den F (.str x) (.str x)
  | lst {a : Addr} {xs : List V} {ds : List D} : F a = some (.lst xs) → DenAll F xs ds → Den F (.ref a) (.lst ds)
  | tup {a : Addr} {xs : List V} {ds : List D} : F a = some (.tup xs) → DenAll F xs ds → Den F (.ref a) (.tup ds)
  | dct {a : Addr} {xs : List (Key × V)} {ds : List (Key × D)} : F a = some (.dK xs) → DenKv F xs ds → Den F (.ref a) (.dct ds)
  | obj {a C dx : Addr} {xs : List (Str × V)} {ds : List (Str × D)} : F a = some (.ins C dx xs) → DenFs F xs ds → Den F (.ref a) (.obj C ds)
inductive DenAll (F : Hp) : List V → List D → Prop
  | nil : DenAll F [] []
  | cons {v : V} {vs : List V} {d : D} {ds : List D} : Den F v d → DenAll F vs ds → DenAll F (v :: vs) (d :: ds)
inductive DenKv (F : Hp) : List (Key × V) → List (Key × D) → Prop
  | nil : DenKv F [] []
  | cons {k : Key} {v : V} {vs : List (Key × V)} {d : D} {ds : List (Key × D)} : Den F v d → DenKv F vs ds → DenKv F ((k, v) :: vs) ((k, d) :: ds)
inductive DenFs (F : Hp) : List (Str × V) → List (Str × D) → Prop
  | nil : DenFs F [] []
  | cons {k : Str} {v : V} {vs : List (Str × V)} {d : D} {ds : List (Str × D)} : Den F v d → DenFs F vs ds → DenFs F ((k, v) :: vs) ((k, d) :: ds)
end

abbrev Ex (H H' : Hp) : Prop := ∀ a o, H a = some o → H' a = some o
theorem Ex.refl (H : Hp) : Ex H H := fun _ _ h => h
theorem Ex.trans {H H1 H2 : Hp} (a : Ex H H1) (b : Ex H1 H2) : Ex H H2 := fun x o h => b x o (a x o h)

section
variable {F F' : Hp}
mutual
theorem Den.mono (e : Ex F F') : ∀ {v : V} {d : D}, Den F v d → Den F' v d
  | _, _, .non => .non
  | _, _, .bl b => .bl b
  | _, _, .int i => .int i
  | _, _, .str x => .str x
  | _, _, .lst h a => .lst (e _ _ h) (DenAll.mono e a)
  | _, _, .tup h a => .tup (e _ _ h) (DenAll.mono e a)
  | _, _, .dct h a => .dct (e _ _ h) (DenKv.mono e a)
  | _, _, .obj h a => .obj (e _ _ h) (DenFs.mono e a)
theorem DenAll.mono (e : Ex F F') : ∀ {vs : List V} {ds : List D}, DenAll F vs ds → DenAll F' vs ds
  | _, _, .nil => .nil
  | _, _, .cons h t => .cons (Den.mono e h) (DenAll.mono e t)
theorem DenKv.mono (e : Ex F F') : ∀ {vs : List (Key × V)} {ds : List (Key × D)}, DenKv F vs ds → DenKv F' vs ds
  | _, _, .nil => .nil
  | _, _, .cons h t => .cons (Den.mono e h) (DenKv.mono e t)
theorem DenFs.mono (e : Ex F F') : ∀ {vs : List (Str × V)} {ds : List (Str × D)}, DenFs F vs ds → DenFs F' vs ds
  | _, _, .nil => .nil
  | _, _, .cons h t => .cons (Den.mono e h) (DenFs.mono e t)
end
theorem DenAll.length {vs : List V} {ds : List D} (h : DenAll F vs ds) : vs.length = ds.length := by
  induction vs generalizing ds with
  | nil => cases h; rfl
  | cons v vs ih =>
    cases h with
    | cons h t => simp [ih t]
theorem DenAll.get {vs : List V} {ds : List D} (h : DenAll F vs ds) : ∀ {i : Nat} {d : D}, ds[i]? = some d → ∃ v, vs[i]? = some v ∧ Den F v d := by
  induction vs generalizing ds with
  | nil => cases h; intro i d e; simp at e
  | cons v vs ih =>
    cases h with
    | cons h t =>
      intro i d e
      cases i with
      | zero => simp at e; subst e; exact ⟨v, by simp, h⟩
      | succ i => simp at e; obtain ⟨w, e1, e2⟩ := ih t e; exact ⟨w, by simpa using e1, e2⟩
theorem DenAll.append {vs ws : List V} {ds es : List D} (h : DenAll F vs ds) (k : DenAll F ws es) : DenAll F (vs ++ ws) (ds ++ es) := by
  induction vs generalizing ds with
  | nil => cases h; exact k
  | cons v vs ih =>
    cases h with
    | cons h t => exact .cons h (ih t)
theorem DenAll.take {vs : List V} {ds : List D} (h : DenAll F vs ds) (n : Nat) : DenAll F (vs.take n) (ds.take n) := by
  induction vs generalizing ds n with
  | nil => cases h; cases n <;> exact .nil
  | cons v vs ih =>
    cases h with
    | cons h t =>
      cases n with
      | zero => exact .nil
      | succ n => exact .cons h (ih t n)
theorem DenAll.drop {vs : List V} {ds : List D} (h : DenAll F vs ds) (n : Nat) : DenAll F (vs.drop n) (ds.drop n) := by
  induction vs generalizing ds n with
  | nil => cases h; cases n <;> exact .nil
  | cons v vs ih =>
    cases h with
    | cons h t =>
      cases n with
      | zero => exact .cons h t
      | succ n => exact ih t n
theorem DenAll.set {vs : List V} {ds : List D} (h : DenAll F vs ds) {v : V} {d : D} (k : Den F v d) (n : Nat) : DenAll F (vs.set n v) (ds.set n d) := by
  induction vs generalizing ds n with
  | nil => cases h; cases n <;> exact .nil
  | cons w vs ih =>
    cases h with
    | cons h t =>
      cases n with
      | zero => exact .cons k t
      | succ n => exact .cons h (ih t n)
theorem DenAll.dropLast {vs : List V} {ds : List D} (h : DenAll F vs ds) : DenAll F vs.dropLast ds.dropLast := by
  rw [List.dropLast_eq_take, List.dropLast_eq_take, h.length]
  exact h.take _
end

/-- what a mutable object holds -/
inductive CO where
  | lst (xs : List D) | dct (kvs : List (Key × D)) | obj (C : Addr) (fs : List (Str × D))
def CO.D : CO → D
  | .lst xs => .lst xs
  | .dct k => .dct k
  | .obj C fs => .obj C fs
def COk (F : Hp) : HO → CO → Prop
  | .lst vs, .lst ds => DenAll F vs ds
  | .dK vs, .dct ds => DenKv F vs ds
  | .ins C _ vs, .obj C' ds => C = C' ∧ DenFs F vs ds
  | _, _ => False
theorem COk.mono {F F' : Hp} (e : Ex F F') {o : HO} {c : CO} (h : COk F o c) : COk F' o c := by
  cases o <;> cases c <;> first | exact h.elim | skip
  · exact DenAll.mono e (show DenAll F _ _ from h)
  · exact DenKv.mono e (show DenKv F _ _ from h)
  · exact ⟨h.1, DenFs.mono e h.2⟩
/-- frozen, it denotes -/
theorem COk.den {F : Hp} {p : Addr} {o : HO} {c : CO} (e : F p = some o) (h : COk F o c) : Den F (.ref p) c.D := by
  cases o <;> cases c <;> first | exact h.elim | skip
  · exact .lst e h
  · exact .dct e h
  · obtain ⟨rfl, h⟩ := h; exact .obj e h

/-- a slot's abstract content -/
inductive SV where
  | un | dat (d : D) | own (c : CO) | cell (i : Nat) | scr (ns : List Int)
/-- an expression's outcome -/
inductive RV where
  | dat (d : D) | new (c : CO) | own (c : CO) | cell (i : Nat) | scr (ns : List Int)

/-- the cells stand -/
structure Wok (F H : Hp) (μ : List Addr) (cs : List CO) : Prop where
  ex : Ex F H
  len : μ.length = cs.length
  nd : ∀ (i j : Nat) (p : Addr), μ[i]? = some p → μ[j]? = some p → i = j
  at_ : ∀ (i : Nat) (p : Addr) (c : CO), μ[i]? = some p → cs[i]? = some c → F p = none ∧ ∃ o, H p = some o ∧ COk F o c
/-- a mutable object of one's own -/
def Live (F H : Hp) (μ : List Addr) (p : Addr) (c : CO) : Prop := F p = none ∧ p ∉ μ ∧ ∃ o, H p = some o ∧ COk F o c
def RvOk (K : PySem.W.Frag) (F H : Hp) (μ : List Addr) (v : V) : RV → Prop
  | .dat d => Den F v d
  | .new c => ∃ p, v = .ref p ∧ Live F H μ p c
  | .own c => ∃ p, v = .ref p ∧ Live F H μ p c
  | .cell i => ∃ p, v = .ref p ∧ μ[i]? = some p
  | .scr ns => ∃ a, v = .ref a ∧ SqL K F a (ns.map V.int)
def SvOk (K : PySem.W.Frag) (H0 F H : Hp) (μ : List Addr) (v : Option (Option V)) : SV → Prop
  | .un => True
  | .dat d => ∃ x, v = some (some x) ∧ Den F x d
  | .own c => ∃ p, v = some (some (.ref p)) ∧ H0 p = none ∧ Live F H μ p c
  | .cell i => ∃ p, v = some (some (.ref p)) ∧ μ[i]? = some p
  | .scr ns => ∃ a, v = some (some (.ref a)) ∧ SqL K F a (ns.map V.int)
/-- a step of an expression -/
structure Nx (μ : List Addr) (F H F' H' : Hp) : Prop where
  ex : Ex F F'
  gro : ∀ b o, F' b = some o → F b = some o ∨ H b = none
  st : ∀ b o, H b = some o → b ∉ μ → H' b = some o
/-- from a def's entry (F0, H0) -/
structure Fr (μ : List Addr) (F0 H0 F H : Hp) : Prop where
  ex : Ex F0 F
  gro : ∀ b o, F b = some o → F0 b = some o ∨ H0 b = none
  st : ∀ b o, H0 b = some o → b ∉ μ → H b = some o
structure Rel (K : PySem.W.Frag) (μ : List Addr) (F0 H0 F H : Hp) (sl : List SV) (cs : List CO) (σ : L2.St) : Prop where
  w : Wok F H μ cs
  fr : Fr μ F0 H0 F H
  len : σ.length = sl.length
  at_ : ∀ (i : Nat) (sv : SV), sl[i]? = some sv → SvOk K H0 F H μ σ[i]? sv
  ds : ∀ (i j : Nat) (c d : CO) (p : Addr), sl[i]? = some (.own c) → sl[j]? = some (.own d) → σ[i]? = some (some (.ref p)) → σ[j]? = some (some (.ref p)) → i = j

section
variable {K : PySem.W.Frag} {μ : List Addr} {F0 H0 F H F' H' F2 H2 : Hp} {sl : List SV} {cs cs' cs2 : List CO} {σ : L2.St} {v : V} {r : RV}
theorem Wok.there (w : Wok F H μ cs) {p : Addr} (h : p ∈ μ) : F p = none ∧ ∃ o, H p = some o := by
  obtain ⟨i, hi, e⟩ := List.mem_iff_getElem.mp h
  have hc : i < cs.length := by rw [← w.len]; exact hi
  obtain ⟨a, o, b, _⟩ := w.at_ i p cs[i] (by rw [List.getElem?_eq_getElem hi, e]) (List.getElem?_eq_getElem hc)
  exact ⟨a, o, b⟩
theorem Nx.refl : Nx μ F H F H := ⟨Ex.refl _, fun _ _ h => .inl h, fun _ _ h _ => h⟩
theorem Nx.none (n : Nx μ F H F' H') (w : Wok F' H' μ cs') {p : Addr} (h : H' p = none) : H p = none := by
  cases e : H p with
  | none => rfl
  | some o =>
    by_cases hm : p ∈ μ
    · obtain ⟨_, o', e'⟩ := w.there hm
      rw [h] at e'; cases e'
    · have := n.st p o e hm
      rw [h] at this; cases this
theorem Nx.trans (a : Nx μ F H F' H') (w : Wok F' H' μ cs') (b : Nx μ F' H' F2 H2) : Nx μ F H F2 H2 where
  ex := a.ex.trans b.ex
  gro := fun c o h => by
    rcases b.gro c o h with h1 | h1
    · exact a.gro c o h1
    · exact .inr (a.none w h1)
  st := fun c o h hm => b.st c o (a.st c o h hm) hm
theorem Fr.refl : Fr μ F H F H := ⟨Ex.refl _, fun _ _ h => .inl h, fun _ _ h _ => h⟩
theorem Fr.none (n : Fr μ F0 H0 F H) (w : Wok F H μ cs') {p : Addr} (h : H p = none) : H0 p = none := by
  cases e : H0 p with
  | none => rfl
  | some o =>
    by_cases hm : p ∈ μ
    · obtain ⟨_, o', e'⟩ := w.there hm
      rw [h] at e'; cases e'
    · have := n.st p o e hm
      rw [h] at this; cases this
theorem Fr.step (a : Fr μ F0 H0 F H) (w : Wok F H μ cs) (b : Nx μ F H F' H') : Fr μ F0 H0 F' H' where
  ex := a.ex.trans b.ex
  gro := fun c o h => by
    rcases b.gro c o h with h1 | h1
    · exact a.gro c o h1
    · exact .inr (a.none w h1)
  st := fun c o h hm => b.st c o (a.st c o h hm) hm
theorem Fr.nx (a : Fr μ F H F' H') : Nx μ F H F' H' := ⟨a.ex, a.gro, a.st⟩
theorem Live.step {p : Addr} {c : CO} (l : Live F H μ p c) (n : Nx μ F H F' H') : Live F' H' μ p c := by
  obtain ⟨a, b, o, d, e⟩ := l
  refine ⟨?_, b, o, n.st p o d b, e.mono n.ex⟩
  cases z : F' p with
  | none => rfl
  | some u =>
    rcases n.gro p u z with q | q
    · rw [a] at q; cases q
    · rw [d] at q; cases q
theorem sqL_ex {K : PySem.W.Frag} {a : Addr} {xs : List V} (e : Ex F F') (h : SqL K F a xs) : SqL K F' a xs := by
  rcases h with (h | ⟨o, h⟩) | h
  · exact .inl (.inl (e _ _ h))
  · exact .inl (.inr ⟨o, e _ _ h⟩)
  · exact .inr h
theorem RvOk.step (h : RvOk K F H μ v r) (n : Nx μ F H F' H') : RvOk K F' H' μ v r := by
  cases r with
  | dat d => exact Den.mono n.ex (show Den F v d from h)
  | new c => obtain ⟨p, e, l⟩ := h; exact ⟨p, e, l.step n⟩
  | own c => obtain ⟨p, e, l⟩ := h; exact ⟨p, e, l.step n⟩
  | cell i => exact h
  | scr ns => obtain ⟨a, e, s⟩ := h; exact ⟨a, e, sqL_ex n.ex s⟩
theorem Rel.step (R : Rel K μ F0 H0 F H sl cs σ) (n : Nx μ F H F' H') (w : Wok F' H' μ cs') : Rel K μ F0 H0 F' H' sl cs' σ where
  w := w
  fr := R.fr.step R.w n
  len := R.len
  at_ := fun i sv e => by
    have h := R.at_ i sv e
    cases sv with
    | un => trivial
    | dat d => obtain ⟨x, a, b⟩ := h; exact ⟨x, a, b.mono n.ex⟩
    | own c => obtain ⟨p, a, b, l⟩ := h; exact ⟨p, a, b, l.step n⟩
    | cell i => exact h
    | scr ns => obtain ⟨a, e, s⟩ := h; exact ⟨a, e, sqL_ex n.ex s⟩
  ds := R.ds
/-- a new object laid, untouched by F -/
theorem Wok.laid (w : Wok F H μ cs) {p : Addr} {o : HO} (hp : H p = none) : Wok F (upd H p o) μ cs ∧ Nx μ F H F (upd H p o) := by
  have ne : ∀ b u, H b = .some u → b ≠ p := fun b u h => ne_of_none h hp
  refine ⟨⟨fun a u h => ?_, w.len, w.nd, fun i q c h1 h2 => ?_⟩, ⟨Ex.refl _, fun _ _ h => .inl h, fun b u h _ => ?_⟩⟩
  · rw [upd_ne (ne a u (w.ex a u h))]; exact w.ex a u h
  · obtain ⟨a, u, b, d⟩ := w.at_ i q c h1 h2
    exact ⟨a, u, by rw [upd_ne (ne q u b)]; exact b, d⟩
  · rw [upd_ne (ne b u h)]; exact h
/-- freezing an object of one's own -/
theorem Wok.freeze (w : Wok F H μ cs) {p : Addr} {c : CO} (l : Live F H μ p c) : ∃ o, Wok (upd F p o) H μ cs ∧ Ex F (upd F p o) ∧ Den (upd F p o) (.ref p) c.D ∧ H p = some o := by
  obtain ⟨a, b, o, d, e⟩ := l
  have x : Ex F (upd F p o) := fun q u h => by rw [upd_ne (ne_of_none h a)]; exact h
  refine ⟨o, ⟨fun q u h => ?_, w.len, w.nd, fun i q k h1 h2 => ?_⟩, x, COk.den upd_same (e.mono x), d⟩
  · by_cases hq : q = p
    · subst hq; rw [upd_same] at h; cases h; exact d
    · rw [upd_ne hq] at h; exact w.ex q u h
  · obtain ⟨a1, u, b1, d1⟩ := w.at_ i q k h1 h2
    have hq : q ≠ p := fun z => b (z ▸ List.mem_of_getElem? h1)
    exact ⟨by rw [upd_ne hq]; exact a1, u, b1, d1.mono x⟩
end

/-! ### outcomes -/
inductive Res (α : Type) where
  | ok (a : α) | exc (C : Addr) (fs : List (Str × D)) (cs : List CO) | bad
inductive Flw where
  | nx (sl : List SV) (cs : List CO) | rt (r : RV) (cs : List CO) | bk (sl : List SV) (cs : List CO) | ct (sl : List SV) (cs : List CO)
  | exc (C : Addr) (fs : List (Str × D)) (cs : List CO) | bad
abbrev FE := List SV → List CO → Res (RV × List CO)
abbrev FT := List SV → List CO → Res (Bool × List CO)
abbrev FA := List SV → List CO → Res (List RV × List CO)
abbrev FS := List SV → List CO → Flw

/-- the exception is met by the wish -/
def Raised (μ : List Addr) (F H : Hp) (W : XK) (C : Addr) (fs : List (Str × D)) (cs : List CO) : Prop :=
  ∀ F' H' dx fv, Nx μ F H F' H' → Wok F' H' μ cs → H' dx = some (.xd fv) → DenFs F' fv fs → W (.ref C) (some dx) H'
def FreshV (H : Hp) (r : RV) (v : V) : Prop := match r with
  | .new _ => ∀ p, v = .ref p → H p = none
  | _ => True
def OutE (K : PySem.W.Frag) (W : XK) (μ : List Addr) (F H : Hp) (Q : VK) : Res (RV × List CO) → Prop
  | .ok (r, cs') => ∀ v F' H', Nx μ F H F' H' → Wok F' H' μ cs' → RvOk K F' H' μ v r → FreshV H r v → Q v H'
  | .exc C fs cs' => Raised μ F H W C fs cs'
  | .bad => False
def OutT (W : XK) (μ : List Addr) (F H : Hp) (Q : Bool → Hp → Prop) : Res (Bool × List CO) → Prop
  | .ok (b, cs') => ∀ F' H', Nx μ F H F' H' → Wok F' H' μ cs' → Q b H'
  | .exc C fs cs' => Raised μ F H W C fs cs'
  | .bad => False
inductive RvAll (K : PySem.W.Frag) (F H : Hp) (μ : List Addr) : List V → List RV → Prop
  | nil : RvAll K F H μ [] []
  | cons {v : V} {vs : List V} {r : RV} {rs : List RV} : RvOk K F H μ v r → RvAll K F H μ vs rs → RvAll K F H μ (v :: vs) (r :: rs)
def OutA (K : PySem.W.Frag) (W : XK) (μ : List Addr) (F H : Hp) (Q : List V → Hp → Prop) : Res (List RV × List CO) → Prop
  | .ok (rs, cs') => ∀ vs F' H', Nx μ F H F' H' → Wok F' H' μ cs' → RvAll K F' H' μ vs rs → Q vs H'
  | .exc C fs cs' => Raised μ F H W C fs cs'
  | .bad => False
def rdE (K : PySem.W.Frag) (W : XK) (f : FE) : TE := fun σ H Q => ∃ μ F0 H0 F sl cs, Rel K μ F0 H0 F H sl cs σ ∧ OutE K W μ F H Q (f sl cs)
def rdT (K : PySem.W.Frag) (W : XK) (f : FT) : TT := fun σ H Q => ∃ μ F0 H0 F sl cs, Rel K μ F0 H0 F H sl cs σ ∧ OutT W μ F H Q (f sl cs)
def rdA (K : PySem.W.Frag) (W : XK) (f : FA) : TA := fun σ H Q => ∃ μ F0 H0 F sl cs, Rel K μ F0 H0 F H sl cs σ ∧ OutA K W μ F H Q (f sl cs)
def OutS (K : PySem.W.Frag) (W : XK) (μ : List Addr) (F0 H0 : Hp) (D : Ends) : Flw → Prop
  | .nx sl cs => ∀ σ F H, Rel K μ F0 H0 F H sl cs σ → D.nx σ H
  | .bk sl cs => ∀ σ F H, Rel K μ F0 H0 F H sl cs σ → D.bk σ H
  | .ct sl cs => ∀ σ F H, Rel K μ F0 H0 F H sl cs σ → D.ct σ H
  | .rt r cs => ∀ v F H, Fr μ F0 H0 F H → Wok F H μ cs → RvOk K F H μ v r → FreshV H0 r v → D.rt v H
  | .exc C fs cs => Raised μ F0 H0 W C fs cs
  | .bad => False
def rdS (K : PySem.W.Frag) (W : XK) (f : FS) : TS := fun D σ H => ∃ μ F0 H0 F sl cs, Rel K μ F0 H0 F H sl cs σ ∧ OutS K W μ F0 H0 D (f sl cs)

/-! ### the judgements -/
abbrev DE (X : Cx) (W : XK) (e : Expr) (f : FE) : Prop := PE X e (rdE X.K W f)
abbrev DT (X : Cx) (W : XK) (e : Expr) (f : FT) : Prop := PT X e (rdT X.K W f)
abbrev DW (X : Cx) (W : XK) (e : Expr) (f : FT) : Prop := PW X e (rdT X.K W f)
abbrev DA (X : Cx) (W : XK) (es : List Expr) (f : FA) : Prop := PA X es (rdA X.K W f)
abbrev DS (X : Cx) (W : XK) (st : Stmt) (f : FS) : Prop := PS X st (rdS X.K W f)
abbrev DSs (X : Cx) (W : XK) (st : List Stmt) (f : FS) : Prop := PSs X st (rdS X.K W f)
theorem PE.imp {X : Cx} {e : Expr} {t t' : TE} (h : PE X e t) (i : ∀ σ H Q, t' σ H Q → t σ H Q) : PE X e t' := ⟨fun p s σ H Q I q => h.run p s σ H Q I (i σ H Q q)⟩
theorem PT.imp {X : Cx} {e : Expr} {t t' : TT} (h : PT X e t) (i : ∀ σ H Q, t' σ H Q → t σ H Q) : PT X e t' := ⟨fun p s σ H Q I q => h.run p s σ H Q I (i σ H Q q)⟩
theorem PW.imp {X : Cx} {e : Expr} {t t' : TT} (h : PW X e t) (i : ∀ σ H Q, t' σ H Q → t σ H Q) : PW X e t' := ⟨fun wh p s σ H Q I q => h.run wh p s σ H Q I (i σ H Q q)⟩
theorem PA.imp {X : Cx} {e : List Expr} {t t' : TA} (h : PA X e t) (i : ∀ σ H Q, t' σ H Q → t σ H Q) : PA X e t' := ⟨fun ps p s σ H Q I q => h.run ps p s σ H Q I (i σ H Q q)⟩
theorem PS.imp {X : Cx} {e : Stmt} {t t' : TS} (h : PS X e t) (i : ∀ D σ H, t' D σ H → t D σ H) : PS X e t' := ⟨fun p s σ H D I q => h.run p s σ H D I (i D σ H q)⟩
theorem PSs.imp {X : Cx} {e : List Stmt} {t t' : TS} (h : PSs X e t) (i : ∀ D σ H, t' D σ H → t D σ H) : PSs X e t' := ⟨fun p s σ H D I q => h.run p s σ H D I (i D σ H q)⟩

section
variable {K : PySem.W.Frag} {W : XK} {μ : List Addr} {F0 H0 F H F' H' : Hp} {cs cs' : List CO}
theorem Raised.back {C : Addr} {fs : List (Str × D)} (h : Raised μ F H W C fs cs) (n : Nx μ F H F' H') (w : Wok F' H' μ cs') : Raised μ F' H' W C fs cs :=
  fun F2 H2 dx fv n2 w2 e d => h F2 H2 dx fv (n.trans w n2) w2 e d
theorem OutE.back {Q : VK} {o : Res (RV × List CO)} (h : OutE K W μ F H Q o) (n : Nx μ F H F' H') (w : Wok F' H' μ cs') : OutE K W μ F' H' Q o := by
  cases o with
  | ok a =>
    obtain ⟨r, c⟩ := a
    intro v F2 H2 n2 w2 k fv
    refine h v F2 H2 (n.trans w n2) w2 k ?_
    cases r with
    | new c => exact fun p e => n.none w (fv p e)
    | _ => trivial
  | exc C fs c => exact Raised.back h n w
  | bad => exact h
theorem OutT.back {Q : Bool → Hp → Prop} {o : Res (Bool × List CO)} (h : OutT W μ F H Q o) (n : Nx μ F H F' H') (w : Wok F' H' μ cs') : OutT W μ F' H' Q o := by
  cases o with
  | ok a => intro F2 H2 n2 w2; exact h F2 H2 (n.trans w n2) w2
  | exc C fs c => exact Raised.back h n w
  | bad => exact h
theorem OutA.back {Q : List V → Hp → Prop} {o : Res (List RV × List CO)} (h : OutA K W μ F H Q o) (n : Nx μ F H F' H') (w : Wok F' H' μ cs') : OutA K W μ F' H' Q o := by
  cases o with
  | ok a => intro vs F2 H2 n2 w2 k; exact h vs F2 H2 (n.trans w n2) w2 k
  | exc C fs c => exact Raised.back h n w
  | bad => exact h
/-- to the entry -/
theorem Raised.entry {C : Addr} {fs : List (Str × D)} (h : Raised μ F0 H0 W C fs cs) (n : Fr μ F0 H0 F H) (w : Wok F H μ cs') : Raised μ F H W C fs cs :=
  fun F2 H2 dx fv n2 w2 e d => h F2 H2 dx fv (n.nx.trans w n2) w2 e d
end
end DL

/-! DLb: rules for expressions. -/
namespace DL
open PySem L2

/-! ### views -/
def RV.view (cs : List CO) : RV → Option D
  | .dat d => some d
  | .new c => some c.D
  | .own c => some c.D
  | .cell i => cs[i]?.map CO.D
  | .scr _ => none
/-- what may be read now -/
def Vw (F H : Hp) (v : V) (d : D) : Prop := Den F v d ∨ ∃ p o c, v = .ref p ∧ H p = some o ∧ COk F o c ∧ d = c.D
section
variable {K : PySem.W.Frag} {W : XK} {μ : List Addr} {F H F' H' : Hp} {cs cs' : List CO} {v : V} {r : RV} {d : D}
theorem RvOk.vw (h : RvOk K F H μ v r) (w : Wok F H μ cs) (e : r.view cs = some d) : Vw F H v d := by
  cases r with
  | dat x => cases e; exact .inl h
  | new c => cases e; obtain ⟨p, e, _, _, o, h1, h2⟩ := h; exact .inr ⟨p, o, c, e, h1, h2, rfl⟩
  | own c => cases e; obtain ⟨p, e, _, _, o, h1, h2⟩ := h; exact .inr ⟨p, o, c, e, h1, h2, rfl⟩
  | cell i =>
    obtain ⟨p, e1, e2⟩ := h
    cases z : cs[i]? with
    | none => simp [RV.view, z] at e
    | some c =>
      simp only [RV.view, z, Option.map_some, Option.some.injEq] at e
      obtain ⟨_, o, h1, h2⟩ := w.at_ i p c e2 z
      exact .inr ⟨p, o, c, e1, h1, h2, e.symm⟩
  | scr _ => cases e
theorem Vw.int {i : Int} (h : Vw F H v (.int i)) : v = .int i := by
  rcases h with h | ⟨_, _, c, _, _, _, e⟩
  · cases h; rfl
  · cases c <;> cases e
theorem Vw.bl {i : Bool} (h : Vw F H v (.bl i)) : v = .bl i := by
  rcases h with h | ⟨_, _, c, _, _, _, e⟩
  · cases h; rfl
  · cases c <;> cases e
theorem Vw.str {i : Str} (h : Vw F H v (.str i)) : v = .str i := by
  rcases h with h | ⟨_, _, c, _, _, _, e⟩
  · cases h; rfl
  · cases c <;> cases e
theorem Vw.non (h : Vw F H v .non) : v = .non := by
  rcases h with h | ⟨_, _, c, _, _, _, e⟩
  · cases h; rfl
  · cases c <;> cases e
theorem Vw.lst {ds : List D} (h : Vw F H v (.lst ds)) (e : Ex F H) : ∃ p vs, v = .ref p ∧ H p = some (.lst vs) ∧ DenAll F vs ds := by
  rcases h with h | ⟨p, o, c, rfl, h1, h2, e2⟩
  · cases h with
    | lst a b => exact ⟨_, _, rfl, e _ _ a, b⟩
  · cases c <;> cases e2
    cases o <;> first | exact h2.elim | skip
    exact ⟨_, _, rfl, h1, h2⟩
theorem Vw.tup {ds : List D} (h : Vw F H v (.tup ds)) (e : Ex F H) : ∃ p vs, v = .ref p ∧ H p = some (.tup vs) ∧ DenAll F vs ds := by
  rcases h with h | ⟨p, o, c, rfl, h1, h2, e2⟩
  · cases h with
    | tup a b => exact ⟨_, _, rfl, e _ _ a, b⟩
  · cases c <;> cases e2
theorem Vw.dct {ds : List (Key × D)} (h : Vw F H v (.dct ds)) (e : Ex F H) : ∃ p vs, v = .ref p ∧ H p = some (.dK vs) ∧ DenKv F vs ds := by
  rcases h with h | ⟨p, o, c, rfl, h1, h2, e2⟩
  · cases h with
    | dct a b => exact ⟨_, _, rfl, e _ _ a, b⟩
  · cases c <;> cases e2
    cases o <;> first | exact h2.elim | skip
    exact ⟨_, _, rfl, h1, h2⟩
end

/-! ### names, constants -/
def dVar (i : Nat) : FE := fun sl cs => match sl[i]? with
  | some (.dat d) => .ok (.dat d, cs)
  | some (.own c) => .ok (.own c, cs)
  | some (.cell k) => .ok (.cell k, cs)
  | some (.scr ns) => .ok (.scr ns, cs)
  | _ => .bad
def dCon (d : D) : FE := fun _ cs => .ok (.dat d, cs)
section
variable {X : Cx} {W : XK} {pos : Pos}
theorem de_var {i : Nat} {x : Str} (h : PE X (.Name x pos) (tVar i)) : DE X W (.Name x pos) (dVar i) := PE.imp h fun σ H Q q => by
  obtain ⟨μ, F0, H0, F, sl, cs, R, o⟩ := q
  unfold dVar at o
  cases e : sl[i]? with
  | none => rw [e] at o; exact o.elim
  | some sv =>
    rw [e] at o
    have z := R.at_ i sv e
    cases sv with
    | un => exact o.elim
    | dat d => obtain ⟨x, e1, e2⟩ := z; exact ⟨x, e1, o x F H .refl R.w e2 trivial⟩
    | own c => obtain ⟨p, e1, _, e2⟩ := z; exact ⟨_, e1, o _ F H .refl R.w ⟨p, rfl, e2⟩ trivial⟩
    | cell k => obtain ⟨p, e1, e2⟩ := z; exact ⟨_, e1, o _ F H .refl R.w ⟨p, rfl, e2⟩ trivial⟩
    | scr ns => obtain ⟨p, e1, e2⟩ := z; exact ⟨_, e1, o _ F H .refl R.w ⟨p, rfl, e2⟩ trivial⟩
theorem de_con {e : Expr} {v : V} {d : D} (h : PE X e (tC v)) (k : ∀ F, Den F v d) : DE X W e (dCon d) := PE.imp h fun σ H Q q => by
  obtain ⟨μ, F0, H0, F, sl, cs, R, o⟩ := q
  exact o v F H .refl R.w (k F) trivial
theorem de_int {i : Int} {j : Nat} : DE X W (.Constant (.int i) j pos) (dCon (.int i)) := de_con pe_int fun _ => .int _
theorem de_bl {i : Bool} {j : Nat} : DE X W (.Constant (.bool i) j pos) (dCon (.bl i)) := de_con pe_bl fun _ => .bl _
theorem de_str {i : Str} {j : Nat} : DE X W (.Constant (.str i) j pos) (dCon (.str i)) := de_con pe_str fun _ => .str _
theorem de_non {j : Nat} : DE X W (.Constant .none j pos) (dCon .non) := de_con pe_non fun _ => .non
/-- a module's constant -/
theorem de_glob {x : Str} {v : V} {u : Value} {d : D} (hg : Gl X x) (hm : X.mg x = some u) (r : RelV v u) (k : ∀ F, Den F v d) (hd : (x == ("__debug__" : Str)) = false := by decide) : DE X W (.Name x pos) (dCon d) := de_con (pe_glob hg hm r hd) k
end

/-! ### operators by values -/
abbrev G1 := D → Option RV
abbrev G2 := D → D → Option RV
abbrev GN := List D → Option RV
/-- what is wanted behind an operator that changes nothing -/
def Aft (K : PySem.W.Frag) (μ : List Addr) (F H : Hp) (cs : List CO) (Q : VK) (r : RV) : Prop := ∀ v F' H', Nx μ F H F' H' → Wok F' H' μ cs → RvOk K F' H' μ v r → FreshV H r v → Q v H'
def rd2 (K : PySem.W.Frag) (g : G2) : R2 := fun x y H Q => ∃ μ F cs a b r, Wok F H μ cs ∧ Vw F H x a ∧ Vw F H y b ∧ g a b = some r ∧ Aft K μ F H cs Q r
def rd1 (K : PySem.W.Frag) (g : G1) : V → Hp → VK → Prop := fun x H Q => ∃ μ F cs a r, Wok F H μ cs ∧ Vw F H x a ∧ g a = some r ∧ Aft K μ F H cs Q r
inductive VwAll (F H : Hp) : List V → List D → Prop
  | nil : VwAll F H [] []
  | cons {v : V} {vs : List V} {d : D} {ds : List D} : Vw F H v d → VwAll F H vs ds → VwAll F H (v :: vs) (d :: ds)
def rdN (K : PySem.W.Frag) (g : GN) : List V → Hp → VK → Prop := fun xs H Q => ∃ μ F cs as r, Wok F H μ cs ∧ VwAll F H xs as ∧ g as = some r ∧ Aft K μ F H cs Q r
def OpD (X : Cx) (f : Value → Value → Sem Value) (g : G2) : Prop := OpR X f (rd2 X.K g)
def UnD (X : Cx) (f : Value → Sem Value) (g : G1) : Prop := UnR X f (rd1 X.K g)
def CallD (X : Cx) (f : Value) (g : GN) : Prop := CallR X f (rdN X.K g)
theorem OpR.imp {X : Cx} {f : Value → Value → Sem Value} {r r' : R2} (h : OpR X f r) (i : ∀ x y H Q, r' x y H Q → r x y H Q) : OpR X f r' := fun p s σ H x y v u Q I rx ry q => h p s σ H x y v u Q I rx ry (i x y H Q q)
theorem UnR.imp {X : Cx} {f : Value → Sem Value} {r r' : V → Hp → VK → Prop} (h : UnR X f r) (i : ∀ x H Q, r' x H Q → r x H Q) : UnR X f r' := fun p s σ H x v Q I rx q => h p s σ H x v Q I rx (i x H Q q)
theorem CallR.imp {X : Cx} {f : Value} {r r' : List V → Hp → VK → Prop} (h : CallR X f r) (i : ∀ x H Q, r' x H Q → r x H Q) : CallR X f r' := fun p s σ H x v Q I rx q => h p s σ H x v Q I rx (i x H Q q)
section
variable {K : PySem.W.Frag} {μ : List Addr} {F H : Hp} {cs : List CO} {Q : VK}
theorem Aft.dat {d : D} {v : V} (a : Aft K μ F H cs Q (.dat d)) (w : Wok F H μ cs) (h : Den F v d) : Q v H := a v F H .refl w h trivial
theorem Aft.int {i : Int} (a : Aft K μ F H cs Q (.dat (.int i))) (w : Wok F H μ cs) : Q (.int i) H := a.dat w (.int i)
theorem Aft.bl {i : Bool} (a : Aft K μ F H cs Q (.dat (.bl i))) (w : Wok F H μ cs) : Q (.bl i) H := a.dat w (.bl i)
theorem Aft.str {i : Str} (a : Aft K μ F H cs Q (.dat (.str i))) (w : Wok F H μ cs) : Q (.str i) H := a.dat w (.str i)
/-- a new mutable object laid at p -/
theorem Aft.new {c : CO} {o : HO} {p : Addr} (a : Aft K μ F H cs Q (.new c)) (w : Wok F H μ cs) (hp : H p = none) (h : COk F o c) : Q (.ref p) (upd H p o) := by
  obtain ⟨w2, n⟩ := w.laid (o := o) hp
  have nf : F p = none := by
    cases e : F p with
    | none => rfl
    | some u => have := w.ex p u e; rw [hp] at this; cases this
  have nm : p ∉ μ := fun z => by obtain ⟨_, o, e⟩ := w.there z; rw [hp] at e; cases e
  exact a _ F _ n w2 ⟨p, rfl, nf, nm, o, upd_same, h⟩ fun q e => by cases e; exact hp
/-- a new frozen object (a tuple) laid at p -/
theorem Aft.tup {d : D} {o : HO} {p : Addr} (a : Aft K μ F H cs Q (.dat d)) (w : Wok F H μ cs) (hp : H p = none) (h : Den (upd F p o) (.ref p) d) : Q (.ref p) (upd H p o) := by
  have nf : F p = none := by
    cases e : F p with
    | none => rfl
    | some u => have := w.ex p u e; rw [hp] at this; cases this
  have nm : p ∉ μ := fun z => by obtain ⟨_, o, e⟩ := w.there z; rw [hp] at e; cases e
  have x : Ex F (upd F p o) := fun q u h => by rw [upd_ne (ne_of_none h nf)]; exact h
  refine a _ (upd F p o) _ ⟨x, fun b u h => ?_, fun b u h _ => ?_⟩ ⟨fun b u h => ?_, w.len, w.nd, fun i q c h1 h2 => ?_⟩ h trivial
  · by_cases hb : b = p
    · subst hb; exact .inr hp
    · rw [upd_ne hb] at h; exact .inl h
  · rw [upd_ne (ne_of_none h hp)]; exact h
  · by_cases hb : b = p
    · subst hb; rw [upd_same] at h; rw [upd_same]; exact h
    · rw [upd_ne hb] at h; rw [upd_ne hb]; exact w.ex b u h
  · obtain ⟨a1, u, b1, d1⟩ := w.at_ i q c h1 h2
    have hq : q ≠ p := fun z => nm (z ▸ List.mem_of_getElem? h1)
    exact ⟨by rw [upd_ne hq]; exact a1, u, by rw [upd_ne hq]; exact b1, d1.mono x⟩
end

def optE (o : Option RV) (cs : List CO) : Res (RV × List CO) := match o with
  | some r => .ok (r, cs)
  | none => .bad
def Res.then {α β : Type} (r : Res α) (k : α → Res β) : Res β := match r with
  | .ok a => k a
  | .exc C fs cs => .exc C fs cs
  | .bad => .bad
def dOp (g : G2) (fa fb : FE) : FE := fun sl cs => (fa sl cs).then fun a => (fb sl a.2).then fun b => match a.1.view b.2, b.1.view b.2 with
  | some x, some y => optE (g x y) b.2
  | _, _ => .bad
def dUn (g : G1) (fa : FE) : FE := fun sl cs => (fa sl cs).then fun a => match a.1.view a.2 with
  | some x => optE (g x) a.2
  | _ => .bad
section
variable {K : PySem.W.Frag} {W : XK} {μ : List Addr} {F0 H0 F H : Hp} {sl : List SV} {cs : List CO} {σ : L2.St}
/-- run the first, then on -/
theorem OutE.then_run {f : FE} {k : RV × List CO → Res (RV × List CO)} {Q Q' : VK} (R : Rel K μ F0 H0 F H sl cs σ) (o : OutE K W μ F H Q ((f sl cs).then k))
    (h : ∀ r c v F' H', f sl cs = .ok (r, c) → Nx μ F H F' H' → Wok F' H' μ c → RvOk K F' H' μ v r → FreshV H r v → Rel K μ F0 H0 F' H' sl c σ → OutE K W μ F' H' Q (k (r, c)) → Q' v H') : rdE K W f σ H Q' := by
  refine ⟨μ, F0, H0, F, sl, cs, R, ?_⟩
  cases e : f sl cs with
  | ok a =>
    obtain ⟨r, c⟩ := a
    rw [e] at o
    intro v F' H' n w k fv
    exact h r c v F' H' e n w k fv (R.step n w) (OutE.back o n w)
  | exc C fs c => rw [e] at o; exact o
  | bad => rw [e] at o; exact o.elim
theorem OutE.aft {Q : VK} {o : Option RV} (h : OutE K W μ F H Q (optE o cs)) : ∃ r, o = some r ∧ Aft K μ F H cs Q r := by
  cases o with
  | none => exact h.elim
  | some r => exact ⟨r, rfl, h⟩
theorem dOp_run {g : G2} {fa fb : FE} {Q : VK} (q : rdE K W (dOp g fa fb) σ H Q) : rdE K W fa σ H fun x H1 => rdE K W fb σ H1 fun y H2 => rd2 K g x y H2 Q := by
  obtain ⟨μ, F0, H0, F, sl, cs, R, o⟩ := q
  refine OutE.then_run R o fun r c v F1 H1 e n w k fv R1 o1 => ?_
  refine OutE.then_run R1 o1 fun r2 c2 v2 F2 H2 e2 n2 w2 k2 fv2 R2 o2 => ?_
  dsimp only at o2
  split at o2
  · rename_i x y ex ey
    obtain ⟨z, ez, az⟩ := OutE.aft o2
    exact ⟨μ, F2, c2, x, y, z, w2, (k.step n2).vw w2 ex, k2.vw w2 ey, ez, az⟩
  · exact o2.elim
theorem dUn_run {g : G1} {fa : FE} {Q : VK} (q : rdE K W (dUn g fa) σ H Q) : rdE K W fa σ H fun x H1 => rd1 K g x H1 Q := by
  obtain ⟨μ, F0, H0, F, sl, cs, R, o⟩ := q
  refine OutE.then_run R o fun r c v F1 H1 e n w k fv R1 o1 => ?_
  dsimp only at o1
  split at o1
  · rename_i x ex
    obtain ⟨z, ez, az⟩ := OutE.aft o1
    exact ⟨μ, F1, c, x, z, w, k.vw w ex, ez, az⟩
  · exact o1.elim
end
section
variable {X : Cx} {W : XK} {pos : Pos} {a b c : Expr} {fa fb fc : FE} {g g' : G2}
theorem de_op {op : Operator} (ho : OpD X (binaryOp op) g) (ha : DE X W a fa) (hb : DE X W b fb) : DE X W (.BinOp a op b pos) (dOp g fa fb) :=
  PE.imp (pe_op ho ha hb) fun _ _ _ q => dOp_run q
theorem de_un {op : UnaryOp} {g : G1} (ho : UnD X (unaryOp op) g) (ha : DE X W a fa) : DE X W (.UnaryOp op a pos) (dUn g fa) :=
  PE.imp (pe_un ho ha) fun _ _ _ q => dUn_run q
theorem de_cmp {op : CmpOp} (ho : OpD X (compareOp op) g) (ha : DE X W a fa) (hb : DE X W b fb) (hm : behindInMarks op b = false) : DE X W (.Compare a [op] [b] pos) (dOp g fa fb) :=
  PE.imp (pe_cmpR ho ha hb hm) fun _ _ _ q => dOp_run q
/-- a truth value as a test -/
def toT (f : FE) : FT := fun sl cs => (f sl cs).then fun a => match a.1 with
  | .dat (.bl b) => .ok (b, a.2)
  | _ => .bad
theorem toT_run {K : PySem.W.Frag} {f : FE} {σ : L2.St} {H : Hp} {Q : Bool → Hp → Prop} (q : rdT K W (toT f) σ H Q) : rdE K W f σ H fun x H1 => ∃ k, x = .bl k ∧ Q k H1 := by
  obtain ⟨μ, F0, H0, F, sl, cs, R, o⟩ := q
  refine ⟨μ, F0, H0, F, sl, cs, R, ?_⟩
  unfold toT at o
  cases e : f sl cs with
  | ok a =>
    obtain ⟨r, c⟩ := a
    rw [e] at o
    intro v F' H' n w k fv
    simp only [Res.then] at o
    split at o
    · rename_i b
      have k' : Den F' v (.bl b) := k
      cases k'
      exact ⟨b, rfl, o F' H' n w⟩
    · exact o.elim
  | exc C fs c => rw [e] at o; exact o
  | bad => rw [e] at o; exact o.elim
theorem dt_cmp {op : CmpOp} (ho : OpD X (compareOp op) g) (ha : DE X W a fa) (hb : DE X W b fb) (hm : behindInMarks op b = false) : DT X W (.Compare a [op] [b] pos) (toT (dOp g fa fb)) :=
  PT.imp (pt_cmpR ho ha hb hm) fun _ _ _ q => dOp_run (toT_run q)
theorem dt_val {e : Expr} {f : FE} (h : DE X W e f) (he : ∀ whole, isTrue e X.env whole = (do let v ← whole; standAt e.pos; holding [v] (truthy v)) := by intro _; rfl) : DT X W e (toT f) :=
  PT.imp (pt_val h he) fun _ _ _ q => toT_run q
/-- a op1 b op2 c -/
def dChain (g g' : G2) (fa fb fc : FE) : FE := fun sl cs => (fa sl cs).then fun a => (fb sl a.2).then fun b => match a.1.view b.2, b.1.view b.2 with
  | some x, some y => match g x y with
    | some (.dat (.bl true)) => (fc sl b.2).then fun c => match b.1.view c.2, c.1.view c.2 with
      | some y, some z => optE (g' y z) c.2
      | _, _ => .bad
    | some (.dat (.bl false)) => .ok (.dat (.bl false), b.2)
    | _ => .bad
  | _, _ => .bad
theorem dChain_run {K : PySem.W.Frag} {σ : L2.St} {H : Hp} {Q : VK} (q : rdE K W (dChain g g' fa fb fc) σ H Q) : tChain (rd2 K g) (rd2 K g') (rdE K W fa) (rdE K W fb) (rdE K W fc) σ H Q := by
  obtain ⟨μ, F0, H0, F, sl, cs, R, o⟩ := q
  refine OutE.then_run R o fun r c v F1 H1 e n w k fv R1 o1 => ?_
  refine OutE.then_run R1 o1 fun r2 c2 v2 F2 H2 e2 n2 w2 k2 fv2 R2 o2 => ?_
  dsimp only at o2
  split at o2
  · rename_i x y ex ey
    split at o2
    · rename_i eg
      refine ⟨μ, F2, c2, x, y, _, w2, (k.step n2).vw w2 ex, k2.vw w2 ey, eg, fun v3 F3 H3 n3 w3 k3 _ => ?_⟩
      have k3' : Den F3 v3 (.bl true) := k3
      cases k3'
      refine ⟨true, rfl, ?_⟩
      rw [if_pos rfl]
      refine OutE.then_run (R2.step n3 w3) (OutE.back o2 n3 w3) fun r4 c4 v4 F4 H4 e4 n4 w4 k4 fv4 R4 o4 => ?_
      dsimp only at o4
      split at o4
      · rename_i y' z' ey' ez'
        obtain ⟨r5, e5, a5⟩ := OutE.aft o4
        exact ⟨μ, F4, c4, y', z', r5, w4, ((k2.step n3).step n4).vw w4 ey', k4.vw w4 ez', e5, a5⟩
      · exact o4.elim
    · rename_i eg
      refine ⟨μ, F2, c2, x, y, _, w2, (k.step n2).vw w2 ex, k2.vw w2 ey, eg, fun v3 F3 H3 n3 w3 k3 _ => ?_⟩
      have k3' : Den F3 v3 (.bl false) := k3
      cases k3'
      refine ⟨false, rfl, ?_⟩
      rw [if_neg Bool.false_ne_true]
      exact o2 _ F3 H3 n3 w3 k3 trivial
    · exact o2.elim
  · exact o2.elim
theorem de_chain {op op' : CmpOp} (ho : OpD X (compareOp op) g) (ho' : OpD X (compareOp op') g') (ha : DE X W a fa) (hb : DE X W b fb) (hc : DE X W c fc)
    (hm : lastMarks [op, op'] [b, c] = false := by with_unfolding_all rfl) : DE X W (.Compare a [op, op'] [b, c] pos) (dChain g g' fa fb fc) := PE.imp (pe_chain ho ho' ha hb hc hm) fun _ _ _ q => dChain_run q
theorem dt_chain {op op' : CmpOp} (ho : OpD X (compareOp op) g) (ho' : OpD X (compareOp op') g') (ha : DE X W a fa) (hb : DE X W b fb) (hc : DE X W c fc)
    (hm : lastMarks [op, op'] [b, c] = false := by with_unfolding_all rfl) : DT X W (.Compare a [op, op'] [b, c] pos) (toT (dChain g g' fa fb fc)) := PT.imp (pt_chain ho ho' ha hb hc hm) fun _ _ _ q => dChain_run (toT_run q)
end
end DL

/-! DLc: operators, displays, places, built-ins. -/
namespace DL
open PySem L2

/-! ### as the library's data -/
mutual
def D.py : D → PyData
  | .non => .none
  | .bl b => .bool b
  | .int i => .int i
  | .str x => .str x
  | .lst xs => .list (pyAll xs)
  | .tup xs => .tuple (pyAll xs)
  | .dct _ => .none
  | .obj _ _ => .none
def pyAll : List D → List PyData
  | [] => []
  | x :: xs => D.py x :: pyAll xs
end
mutual
/-- no dict, no instance in it -/
def D.plain : D → Bool
  | .non => true
  | .bl _ => true
  | .int _ => true
  | .str _ => true
  | .lst xs => plainAll xs
  | .tup xs => plainAll xs
  | .dct _ => false
  | .obj _ _ => false
def plainAll : List D → Bool
  | [] => true
  | x :: xs => D.plain x && plainAll xs
end
section
variable {K : PySem.W.Frag} {F H : Hp}
mutual
theorem Den.dp (e : Ex F H) : ∀ {d : D} {v : V}, Den F v d → d.plain = true → Dp K H v d.py
  | .non, _, .non, _ => .non
  | .bl b, _, .bl _, _ => .bl b
  | .int i, _, .int _, _ => .int i
  | .str x, _, .str _, _ => .str x
  | .lst xs, _, .lst h a, p => .lst (SqL.of (e _ _ h)) (DenAll.dp e a p)
  | .tup xs, _, .tup h a, p => .tup (SqT.of (e _ _ h)) (DenAll.dp e a p)
  | .dct _, _, _, p => nomatch p
  | .obj _ _, _, _, p => nomatch p
theorem DenAll.dp (e : Ex F H) : ∀ {ds : List D} {vs : List V}, DenAll F vs ds → plainAll ds = true → DpAll K H vs (pyAll ds)
  | [], _, .nil, _ => .nil
  | d :: ds, _, .cons h t, p => by
    have q := Bool.and_eq_true_iff.mp (show (D.plain d && plainAll ds) = true from p)
    exact .cons (Den.dp e h q.1) (DenAll.dp e t q.2)
end
theorem Vw.dp {v : V} {d : D} (h : Vw F H v d) (e : Ex F H) (p : d.plain = true) : Dp K H v d.py := by
  rcases h with h | ⟨q, o, c, rfl, h1, h2, rfl⟩
  · exact h.dp e p
  · cases c with
    | lst ds =>
      cases o <;> first | exact h2.elim | skip
      exact .lst (SqL.of h1) (DenAll.dp e h2 p)
    | dct _ => exact nomatch p
    | obj _ _ => exact nomatch p
end

/-! ### operators -/
def gI2 (C : Int → Int → Bool) (f : Int → Int → D) : G2 := fun a b => match a, b with
  | .int i, .int j => if C i j then some (.dat (f i j)) else none
  | _, _ => none
def gSub : G2 := gI2 (fun _ _ => true) fun i j => .int (i - j)
def gAdd : G2 := fun a b => match a, b with
  | .int i, .int j => some (.dat (.int (i + j)))
  | .str i, .str j => if i.length + j.length ≤ sizeLine then some (.dat (.str (i ++ j))) else none
  | .lst i, .lst j => if i.length + j.length ≤ sizeLine then some (.new (.lst (i ++ j))) else none
  | _, _ => none
def mulB (i j : Int) : Bool := (decide (-(2 ^ 64) < i) && decide (i < 2 ^ 64)) || (decide (-(2 ^ 64) < j) && decide (j < 2 ^ 64))
def gMul : G2 := fun a b => match a, b with
  | .int i, .int j => if mulB i j then some (.dat (.int (i * j))) else none
  | .lst xs, .int k => if -(2 ^ 63) ≤ k ∧ k < 2 ^ 63 ∧ xs.length * k.toNat ≤ sizeLine then some (.new (.lst (List.replicate k.toNat xs).flatten)) else none
  | _, _ => none
def gFdiv : G2 := gI2 (fun _ j => decide (0 < j) && decide (j < 1073741824)) fun i j => .int (i / j)
def gMod : G2 := gI2 (fun _ j => decide (0 < j)) fun i j => .int (i % j)
def gPow : G2 := gI2 (fun i j => decide (0 ≤ j) && (decide (j ≤ 1000000) && decide (i.natAbs < 2 ^ 64))) fun i j => .int (i ^ j.toNat)
def gLt : G2 := gI2 (fun _ _ => true) fun i j => .bl (decide (i < j))
def gLe : G2 := gI2 (fun _ _ => true) fun i j => .bl (decide (i ≤ j))
def gGt : G2 := gI2 (fun _ _ => true) fun i j => .bl (decide (j < i))
def gGe : G2 := gI2 (fun _ _ => true) fun i j => .bl (decide (j ≤ i))
def eqD (a b : D) : Bool := PyData.eqv a.py b.py
def eqOk (a b : D) : Bool := (a.plain && b.plain) && (SeqAt.shaped a.py && SeqAt.shaped b.py)
/-- == of flat things -/
def scalD : D → D → Option Bool
  | .non, .non => some true
  | .int i, .int j => some (decide (i = j))
  | .bl i, .bl j => some (decide (i = j))
  | .str i, .str j => some (decide (i = j))
  | .non, .int _ => some false
  | .int _, .non => some false
  | .non, .bl _ => some false
  | .bl _, .non => some false
  | .non, .str _ => some false
  | .str _, .non => some false
  | .int _, .str _ => some false
  | .str _, .int _ => some false
  | .bl _, .str _ => some false
  | .str _, .bl _ => some false
  | _, _ => none
def eqB (a b : D) : Option Bool := match scalD a b with
  | some k => some k
  | none => if eqOk a b then some (eqD a b) else none
def gEq : G2 := fun a b => match eqB a b with
  | some k => some (.dat (.bl k))
  | none => none
def gNe : G2 := fun a b => match eqB a b with
  | some k => some (.dat (.bl (!k)))
  | none => none
def isNon : D → Bool
  | .non => true
  | _ => false
def gIsN : G2 := fun a b => match b with
  | .non => some (.dat (.bl (isNon a)))
  | _ => none
def gNotN : G2 := fun a b => match b with
  | .non => some (.dat (.bl (!isNon a)))
  | _ => none

section
variable {X : Cx} {W : XK} {pos : Pos}
theorem gI2_inv {C : Int → Int → Bool} {f : Int → Int → D} {a b : D} {r : RV} (h : gI2 C f a b = some r) : ∃ i j, a = .int i ∧ b = .int j ∧ C i j = true ∧ r = .dat (f i j) := by
  unfold gI2 at h
  split at h
  · split at h
    · rename_i c; cases h; exact ⟨_, _, rfl, rfl, c, rfl⟩
    · cases h
  · cases h
theorem opI {f : Value → Value → Sem Value} {C : Int → Int → Prop} {g : Int → Int → V} {Cb : Int → Int → Bool} {gd : Int → Int → D} (h : OpR X f (rI C g)) (hC : ∀ i j, Cb i j = true → C i j) (hg : ∀ F i j, Den F (g i j) (gd i j)) : OpD X f (gI2 Cb gd) :=
  OpR.imp h fun x y H Q ⟨μ, F, cs, a, b, r, w, va, vb, e, k⟩ => by
    obtain ⟨i, j, rfl, rfl, c, rfl⟩ := gI2_inv e
    exact ⟨i, j, va.int, vb.int, hC i j c, k.dat w (hg F i j)⟩
theorem opI0 {f : Value → Value → Sem Value} {g : Int → Int → V} {gd : Int → Int → D} (h : OpR X f (rI0 g)) (hg : ∀ F i j, Den F (g i j) (gd i j)) : OpD X f (gI2 (fun _ _ => true) gd) :=
  OpR.imp h fun x y H Q ⟨μ, F, cs, a, b, r, w, va, vb, e, k⟩ => by
    obtain ⟨i, j, rfl, rfl, c, rfl⟩ := gI2_inv e
    exact ⟨i, j, va.int, vb.int, k.dat w (hg F i j)⟩
theorem o_sub : OpD X (binaryOp .Sub) gSub := opI0 op_sub fun _ _ _ => .int _
theorem o_fdiv : OpD X (binaryOp .FloorDiv) gFdiv := opI op_fdiv (fun i j h => by have q := Bool.and_eq_true_iff.mp h; exact ⟨of_decide_eq_true q.1, of_decide_eq_true q.2⟩) fun _ _ _ => .int _
theorem o_mod : OpD X (binaryOp .Mod) gMod := opI op_mod (fun i j h => of_decide_eq_true h) fun _ _ _ => .int _
theorem o_pow : OpD X (binaryOp .Pow) gPow := opI op_pow (fun i j h => by have q := Bool.and_eq_true_iff.mp h; have q2 := Bool.and_eq_true_iff.mp q.2; exact ⟨of_decide_eq_true q.1, of_decide_eq_true q2.1, of_decide_eq_true q2.2⟩) fun _ _ _ => .int _
theorem o_lt : OpD X (compareOp .Lt) gLt := opI0 op_lt fun _ _ _ => .bl _
theorem o_le : OpD X (compareOp .LtE) gLe := opI0 op_le fun _ _ _ => .bl _
theorem o_gt : OpD X (compareOp .Gt) gGt := opI0 op_gt fun _ _ _ => .bl _
theorem o_ge : OpD X (compareOp .GtE) gGe := opI0 op_ge fun _ _ _ => .bl _
theorem o_add : OpD X (binaryOp .Add) gAdd :=
  OpR.imp (OpR.or op_add (OpR.or op_add_str op_cat)) fun x y H Q ⟨μ, F, cs, a, b, r, w, va, vb, e, k⟩ => by
    unfold gAdd at e
    split at e
    · cases e; exact .inl ⟨_, _, va.int, vb.int, k.int w⟩
    · split at e
      · rename_i hl; cases e; exact .inr (.inl ⟨_, _, va.str, vb.str, hl, k.str w⟩)
      · cases e
    · split at e
      · rename_i hl; cases e
        obtain ⟨p, vs, rfl, hp, d1⟩ := va.lst w.ex
        obtain ⟨q, ws, rfl, hq, d2⟩ := vb.lst w.ex
        refine .inr (.inr ⟨p, q, vs, ws, rfl, rfl, hp, hq, by rw [d1.length, d2.length]; exact hl, fun n hn => ?_⟩)
        exact k.new w hn (d1.append d2)
      · cases e
    · cases e
theorem DenAll.rep {F : Hp} {vs : List V} {ds : List D} (h : DenAll F vs ds) : ∀ n : Nat, DenAll F (List.replicate n vs).flatten (List.replicate n ds).flatten
  | 0 => .nil
  | n + 1 => by
    rw [List.replicate_succ, List.replicate_succ, List.flatten_cons, List.flatten_cons]
    exact h.append (DenAll.rep h n)
theorem o_mul : OpD X (binaryOp .Mult) gMul :=
  OpR.imp (OpR.or op_mul op_rep) fun x y H Q ⟨μ, F, cs, a, b, r, w, va, vb, e, k⟩ => by
    unfold gMul at e
    split at e
    · split at e
      · rename_i i j c; cases e
        refine .inl ⟨i, j, va.int, vb.int, ?_, k.int w⟩
        rcases Bool.or_eq_true_iff.mp c with q | q
        · have z := Bool.and_eq_true_iff.mp q; exact .inl ⟨of_decide_eq_true z.1, of_decide_eq_true z.2⟩
        · have z := Bool.and_eq_true_iff.mp q; exact .inr ⟨of_decide_eq_true z.1, of_decide_eq_true z.2⟩
      · cases e
    · split at e
      · rename_i xs j c; cases e
        obtain ⟨p, vs, rfl, hp, d1⟩ := va.lst w.ex
        refine .inr ⟨p, j, vs, rfl, vb.int, hp, c.1, c.2.1, by rw [d1.length]; exact c.2.2, fun n hn => ?_⟩
        exact k.new w hn (d1.rep _)
      · cases e
    · cases e
theorem eqOk_inv {a b : D} (h : eqOk a b = true) : a.plain = true ∧ b.plain = true ∧ SeqAt.shaped a.py = true ∧ SeqAt.shaped b.py = true := by
  have q := Bool.and_eq_true_iff.mp h
  have q1 := Bool.and_eq_true_iff.mp q.1
  have q2 := Bool.and_eq_true_iff.mp q.2
  exact ⟨q1.1, q1.2, q2.1, q2.2⟩
theorem scalD_ok {F H : Hp} {a b : D} {x y : V} {k : Bool} (h : scalD a b = some k) (va : Vw F H x a) (vb : Vw F H y b) : scal x y = true ∧ decide (x = y) = k := by
  cases a <;> cases b <;> first | (cases h; done) | skip
  all_goals
    first
    | (rw [va.non, vb.non]; cases h; exact ⟨rfl, by simp⟩)
    | (rw [va.int, vb.int]; cases h; exact ⟨rfl, by simp⟩)
    | (rw [va.bl, vb.bl]; cases h; exact ⟨rfl, by simp⟩)
    | (rw [va.str, vb.str]; cases h; exact ⟨rfl, by simp⟩)
    | (rw [va.non, vb.int]; cases h; exact ⟨rfl, by simp⟩)
    | (rw [va.int, vb.non]; cases h; exact ⟨rfl, by simp⟩)
    | (rw [va.non, vb.bl]; cases h; exact ⟨rfl, by simp⟩)
    | (rw [va.bl, vb.non]; cases h; exact ⟨rfl, by simp⟩)
    | (rw [va.non, vb.str]; cases h; exact ⟨rfl, by simp⟩)
    | (rw [va.str, vb.non]; cases h; exact ⟨rfl, by simp⟩)
    | (rw [va.int, vb.str]; cases h; exact ⟨rfl, by simp⟩)
    | (rw [va.str, vb.int]; cases h; exact ⟨rfl, by simp⟩)
    | (rw [va.bl, vb.str]; cases h; exact ⟨rfl, by simp⟩)
    | (rw [va.str, vb.bl]; cases h; exact ⟨rfl, by simp⟩)
theorem eqB_inv {a b : D} {k : Bool} (h : eqB a b = some k) : scalD a b = some k ∨ (eqOk a b = true ∧ eqD a b = k) := by
  unfold eqB at h
  split at h
  · rename_i j e; cases h; exact .inl e
  · split at h
    · rename_i c; cases h; exact .inr ⟨c, rfl⟩
    · cases h
theorem o_eq (hu : X.A.units + 64 < cLine) : OpD X (compareOp .Eq) gEq :=
  OpR.imp (OpR.or op_eq (op_eqD hu)) fun x y H Q ⟨μ, F, cs, a, b, r, w, va, vb, e, k⟩ => by
    unfold gEq at e
    split at e
    · rename_i c ec; cases e
      rcases eqB_inv ec with h | ⟨h, h2⟩
      · obtain ⟨s1, s2⟩ := scalD_ok h va vb
        exact .inl ⟨s1, by rw [s2]; exact k.bl w⟩
      · obtain ⟨c1, c2, c3, c4⟩ := eqOk_inv h
        refine .inr ⟨a.py, b.py, va.dp w.ex c1, vb.dp w.ex c2, c3, c4, ?_⟩
        have h3 : PyData.eqv a.py b.py = c := h2
        rw [h3]; exact k.bl w
    · cases e
theorem o_ne (hu : X.A.units + 64 < cLine) : OpD X (compareOp .NotEq) gNe :=
  OpR.imp (OpR.or op_ne (op_neD hu)) fun x y H Q ⟨μ, F, cs, a, b, r, w, va, vb, e, k⟩ => by
    unfold gNe at e
    split at e
    · rename_i c ec; cases e
      rcases eqB_inv ec with h | ⟨h, h2⟩
      · obtain ⟨s1, s2⟩ := scalD_ok h va vb
        exact .inl ⟨s1, by rw [s2]; exact k.bl w⟩
      · obtain ⟨c1, c2, c3, c4⟩ := eqOk_inv h
        refine .inr ⟨a.py, b.py, va.dp w.ex c1, vb.dp w.ex c2, c3, c4, ?_⟩
        have h3 : PyData.eqv a.py b.py = c := h2
        rw [h3]; exact k.bl w
    · cases e
theorem Vw.isNon {F H : Hp} {v : V} {d : D} (h : Vw F H v d) : decide (v = .non) = DL.isNon d := by
  rcases h with h | ⟨p, o, c, rfl, _, _, rfl⟩
  · cases h <;> rfl
  · cases c <;> rfl
theorem o_isN : OpD X (compareOp .Is) gIsN :=
  OpR.imp op_isN fun x y H Q ⟨μ, F, cs, a, b, r, w, va, vb, e, k⟩ => by
    unfold gIsN at e
    split at e
    · cases e
      exact ⟨vb.non, by rw [va.isNon]; exact k.bl w⟩
    · cases e
theorem o_notN : OpD X (compareOp .IsNot) gNotN :=
  OpR.imp op_notN fun x y H Q ⟨μ, F, cs, a, b, r, w, va, vb, e, k⟩ => by
    unfold gNotN at e
    split at e
    · cases e
      exact ⟨vb.non, by rw [va.isNon]; exact k.bl w⟩
    · cases e
end

/-! ### and, or, not, if -/
def dAnd (fa fb : FE) : FE := fun sl cs => (fa sl cs).then fun a => match a.1 with
  | .dat (.bl true) => fb sl a.2
  | .dat (.bl false) => .ok (.dat (.bl false), a.2)
  | _ => .bad
def dOr (fa fb : FE) : FE := fun sl cs => (fa sl cs).then fun a => match a.1 with
  | .dat (.bl true) => .ok (.dat (.bl true), a.2)
  | .dat (.bl false) => fb sl a.2
  | _ => .bad
def dNot (fa : FE) : FE := fun sl cs => (fa sl cs).then fun a => match a.1 with
  | .dat (.bl b) => .ok (.dat (.bl (!b)), a.2)
  | _ => .bad
def tAnd' (fa fb : FT) : FT := fun sl cs => (fa sl cs).then fun a => if a.1 then fb sl a.2 else .ok (false, a.2)
def tOr' (fa fb : FT) : FT := fun sl cs => (fa sl cs).then fun a => if a.1 then .ok (true, a.2) else fb sl a.2
def tNot' (fa : FT) : FT := fun sl cs => (fa sl cs).then fun a => .ok (!a.1, a.2)
def dIf (ft : FT) (fa fb : FE) : FE := fun sl cs => (ft sl cs).then fun a => if a.1 then fa sl a.2 else fb sl a.2
section
variable {K : PySem.W.Frag} {W : XK} {μ : List Addr} {F0 H0 F H : Hp} {sl : List SV} {cs : List CO} {σ : L2.St}
theorem OutT.run_E {f : FT} {k : Bool × List CO → Res (RV × List CO)} {Q : VK} {Q' : Bool → Hp → Prop} (R : Rel K μ F0 H0 F H sl cs σ) (o : OutE K W μ F H Q ((f sl cs).then k))
    (h : ∀ b c F' H', f sl cs = .ok (b, c) → Nx μ F H F' H' → Wok F' H' μ c → Rel K μ F0 H0 F' H' sl c σ → OutE K W μ F' H' Q (k (b, c)) → Q' b H') : rdT K W f σ H Q' := by
  refine ⟨μ, F0, H0, F, sl, cs, R, ?_⟩
  cases e : f sl cs with
  | ok a =>
    obtain ⟨r, c⟩ := a
    rw [e] at o
    intro F' H' n w
    exact h r c F' H' e n w (R.step n w) (OutE.back o n w)
  | exc C fs c => rw [e] at o; exact o
  | bad => rw [e] at o; exact o.elim
theorem OutT.run_T {f : FT} {k : Bool × List CO → Res (Bool × List CO)} {Q : Bool → Hp → Prop} {Q' : Bool → Hp → Prop} (R : Rel K μ F0 H0 F H sl cs σ) (o : OutT W μ F H Q ((f sl cs).then k))
    (h : ∀ b c F' H', f sl cs = .ok (b, c) → Nx μ F H F' H' → Wok F' H' μ c → Rel K μ F0 H0 F' H' sl c σ → OutT W μ F' H' Q (k (b, c)) → Q' b H') : rdT K W f σ H Q' := by
  refine ⟨μ, F0, H0, F, sl, cs, R, ?_⟩
  cases e : f sl cs with
  | ok a =>
    obtain ⟨r, c⟩ := a
    rw [e] at o
    intro F' H' n w
    exact h r c F' H' e n w (R.step n w) (OutT.back o n w)
  | exc C fs c => rw [e] at o; exact o
  | bad => rw [e] at o; exact o.elim
end
section
variable {X : Cx} {W : XK} {pos : Pos} {a b c : Expr} {fa fb fc : FE} {ta tb : FT} {rest : List Expr}
theorem de_one {op : BoolOp} (h : DE X W a fa) : DE X W (.BoolOp op [a] pos) fa := pe_one h
theorem de_and (ha : DE X W a fa) (hb : DE X W (.BoolOp .And (b :: rest) pos) fb) : DE X W (.BoolOp .And (a :: b :: rest) pos) (dAnd fa fb) := PE.imp (pe_and ha hb) fun σ H Q q => by
  obtain ⟨μ, F0, H0, F, sl, cs, R, o⟩ := q
  refine OutE.then_run R o fun r c v F1 H1 e n w k fv R1 o1 => ?_
  dsimp only at o1
  split at o1
  · have k' : Den F1 v (.bl true) := k
    cases k'
    refine ⟨true, rfl, ?_⟩
    rw [if_pos rfl]
    exact ⟨μ, F0, H0, F1, sl, c, R1, o1⟩
  · have k' : Den F1 v (.bl false) := k
    cases k'
    refine ⟨false, rfl, ?_⟩
    rw [if_neg Bool.false_ne_true]
    exact o1 _ F1 H1 .refl w (.bl false) trivial
  · exact o1.elim
theorem de_or (ha : DE X W a fa) (hb : DE X W (.BoolOp .Or (b :: rest) pos) fb) : DE X W (.BoolOp .Or (a :: b :: rest) pos) (dOr fa fb) := PE.imp (pe_or ha hb) fun σ H Q q => by
  obtain ⟨μ, F0, H0, F, sl, cs, R, o⟩ := q
  refine OutE.then_run R o fun r c v F1 H1 e n w k fv R1 o1 => ?_
  dsimp only at o1
  split at o1
  · have k' : Den F1 v (.bl true) := k
    cases k'
    refine ⟨true, rfl, ?_⟩
    rw [if_pos rfl]
    exact o1 _ F1 H1 .refl w (.bl true) trivial
  · have k' : Den F1 v (.bl false) := k
    cases k'
    refine ⟨false, rfl, ?_⟩
    rw [if_neg Bool.false_ne_true]
    exact ⟨μ, F0, H0, F1, sl, c, R1, o1⟩
  · exact o1.elim
theorem de_not (ha : DE X W a fa) : DE X W (.UnaryOp .Not a pos) (dNot fa) := PE.imp (pe_not ha) fun σ H Q q => by
  obtain ⟨μ, F0, H0, F, sl, cs, R, o⟩ := q
  refine OutE.then_run R o fun r c v F1 H1 e n w k fv R1 o1 => ?_
  dsimp only at o1
  split at o1
  · rename_i b
    have k' : Den F1 v (.bl b) := k
    cases k'
    exact ⟨b, rfl, o1 _ F1 H1 .refl w (.bl _) trivial⟩
  · exact o1.elim
theorem de_if (hc : DT X W c ta) (ha : DE X W a fa) (hb : DE X W b fb) : DE X W (.IfExp c a b pos) (dIf ta fa fb) := PE.imp (pe_ifExp hc ha hb) fun σ H Q q => by
  obtain ⟨μ, F0, H0, F, sl, cs, R, o⟩ := q
  refine OutT.run_E R o fun t c F1 H1 e n w R1 o1 => ?_
  cases t with
  | true => rw [if_pos rfl]; exact ⟨μ, F0, H0, F1, sl, c, R1, o1⟩
  | false => rw [if_neg Bool.false_ne_true]; exact ⟨μ, F0, H0, F1, sl, c, R1, o1⟩
theorem dw_and1 (ha : DT X W a ta) : DW X W (.BoolOp .And [a] pos) ta := pw_and1 ha
theorem dw_or1 (ha : DT X W a ta) : DW X W (.BoolOp .Or [a] pos) ta := pw_or1 ha
theorem dw_and (ha : DT X W a ta) (hb : DW X W (.BoolOp .And (b :: rest) pos) tb) : DW X W (.BoolOp .And (a :: b :: rest) pos) (tAnd' ta tb) := PW.imp (pw_and ha hb) fun σ H Q q => by
  obtain ⟨μ, F0, H0, F, sl, cs, R, o⟩ := q
  refine OutT.run_T R o fun t c F1 H1 e n w R1 o1 => ?_
  cases t with
  | true => rw [if_pos rfl]; exact ⟨μ, F0, H0, F1, sl, c, R1, o1⟩
  | false => rw [if_neg Bool.false_ne_true]; exact o1 F1 H1 .refl w
theorem dw_or (ha : DT X W a ta) (hb : DW X W (.BoolOp .Or (b :: rest) pos) tb) : DW X W (.BoolOp .Or (a :: b :: rest) pos) (tOr' ta tb) := PW.imp (pw_or ha hb) fun σ H Q q => by
  obtain ⟨μ, F0, H0, F, sl, cs, R, o⟩ := q
  refine OutT.run_T R o fun t c F1 H1 e n w R1 o1 => ?_
  cases t with
  | true => rw [if_pos rfl]; exact o1 F1 H1 .refl w
  | false => rw [if_neg Bool.false_ne_true]; exact ⟨μ, F0, H0, F1, sl, c, R1, o1⟩
theorem dt_not (ha : DT X W a ta) : DT X W (.UnaryOp .Not a pos) (tNot' ta) := PT.imp (pt_not ha) fun σ H Q q => by
  obtain ⟨μ, F0, H0, F, sl, cs, R, o⟩ := q
  exact OutT.run_T R o fun t c F1 H1 e n w R1 o1 => o1 F1 H1 .refl w
end

/-! ### arguments, displays -/
/-- a new object is frozen -/
def dFrz (f : FE) : FE := fun sl cs => (f sl cs).then fun a => match a.1 with
  | .new c => .ok (.dat c.D, a.2)
  | .own _ => .bad
  | r => .ok (r, a.2)
section
variable {X : Cx} {W : XK} {pos : Pos} {e : Expr} {f : FE}
theorem de_frz (h : DE X W e f) : DE X W e (dFrz f) := PE.imp h fun σ H Q q => by
  obtain ⟨μ, F0, H0, F, sl, cs, R, o⟩ := q
  refine ⟨μ, F0, H0, F, sl, cs, R, ?_⟩
  unfold dFrz at o
  cases e : f sl cs with
  | ok a =>
    obtain ⟨r, c⟩ := a
    rw [e] at o
    intro v F1 H1 n w k fv
    cases r with
    | new co =>
      obtain ⟨p, rfl, l⟩ := k
      obtain ⟨ho, w2, x, d, hp⟩ := w.freeze l
      have hpn : H p = none := fv p rfl
      refine o _ (upd F1 p ho) H1 ⟨n.ex.trans x, fun b u hb => ?_, n.st⟩ w2 d trivial
      by_cases hq : b = p
      · subst hq; exact .inr hpn
      · rw [upd_ne hq] at hb; exact n.gro b u hb
    | own co => exact o.elim
    | dat d => exact o v F1 H1 n w k trivial
    | cell i => exact o v F1 H1 n w k trivial
    | scr ns => exact o v F1 H1 n w k trivial
  | exc C fs c => rw [e] at o; exact o
  | bad => rw [e] at o; exact o.elim
def dNil : FA := fun _ cs => .ok ([], cs)
def dCons (f : FE) (r : FA) : FA := fun sl cs => (dFrz f sl cs).then fun a => (r sl a.2).then fun b => .ok (a.1 :: b.1, b.2)
theorem OutE.run_A {K : PySem.W.Frag} {μ : List Addr} {F0 H0 F H : Hp} {sl : List SV} {cs : List CO} {σ : L2.St} {f : FE} {k : RV × List CO → Res (List RV × List CO)} {Q : List V → Hp → Prop} {Q' : VK} (R : Rel K μ F0 H0 F H sl cs σ) (o : OutA K W μ F H Q ((f sl cs).then k))
    (h : ∀ r c v F' H', f sl cs = .ok (r, c) → Nx μ F H F' H' → Wok F' H' μ c → RvOk K F' H' μ v r → FreshV H r v → Rel K μ F0 H0 F' H' sl c σ → OutA K W μ F' H' Q (k (r, c)) → Q' v H') : rdE K W f σ H Q' := by
  refine ⟨μ, F0, H0, F, sl, cs, R, ?_⟩
  cases e : f sl cs with
  | ok a =>
    obtain ⟨r, c⟩ := a
    rw [e] at o
    intro v F' H' n w k fv
    exact h r c v F' H' e n w k fv (R.step n w) (OutA.back o n w)
  | exc C fs c => rw [e] at o; exact o
  | bad => rw [e] at o; exact o.elim
theorem RvAll.step {K : PySem.W.Frag} {μ : List Addr} {F H F' H' : Hp} {vs : List V} {rs : List RV} (h : RvAll K F H μ vs rs) (n : Nx μ F H F' H') : RvAll K F' H' μ vs rs := by
  induction h with
  | nil => exact .nil
  | cons h _ t => exact .cons (h.step n) t
theorem da_nil : DA X W [] dNil := PA.imp pa_nil fun σ H Q q => by
  obtain ⟨μ, F0, H0, F, sl, cs, R, o⟩ := q
  exact o [] F H .refl R.w .nil
theorem da_cons {es : List Expr} {fr : FA} (h : DE X W e f) (k : DA X W es fr) (hs : starEach (e :: es) X.env = (false, eval e X.env) :: starEach es X.env := by rfl) : DA X W (e :: es) (dCons f fr) := PA.imp (pa_cons (de_frz h) k hs) fun σ H Q q => by
  obtain ⟨μ, F0, H0, F, sl, cs, R, o⟩ := q
  refine OutE.run_A R o fun r c v F1 H1 e1 n w k fv R1 o1 => ?_
  refine ⟨μ, F0, H0, F1, sl, c, R1, ?_⟩
  dsimp only at o1
  cases e2 : fr sl c with
  | ok b =>
    obtain ⟨rs, c2⟩ := b
    rw [e2] at o1
    intro vs F2 H2 n2 w2 k2
    exact o1 _ F2 H2 n2 w2 (.cons (k.step n2) k2)
  | exc C fs c2 => rw [e2] at o1; exact o1
  | bad => rw [e2] at o1; exact o1.elim
end
/-- all of them data -/
def datAll : List RV → Option (List D)
  | [] => some []
  | .dat d :: r => (datAll r).map (d :: ·)
  | _ :: _ => none
theorem datAll_ok {K : PySem.W.Frag} {F H : Hp} {μ : List Addr} {vs : List V} {rs : List RV} (h : RvAll K F H μ vs rs) : ∀ {ds : List D}, datAll rs = some ds → DenAll F vs ds := by
  induction h with
  | nil => intro ds e; cases e; exact .nil
  | @cons v vs r rs h t ih =>
    intro ds e
    cases r with
    | dat d =>
      unfold datAll at e
      cases q : datAll rs with
      | none => rw [q] at e; cases e
      | some l => rw [q] at e; cases e; exact .cons h (ih q)
    | _ => cases e
def dTup (fa : FA) : FE := fun sl cs => (fa sl cs).then fun a => match datAll a.1 with
  | some ds => if ds.length ≤ sizeLine then .ok (.dat (.tup ds), a.2) else .bad
  | none => .bad
def dLst (fa : FA) : FE := fun sl cs => (fa sl cs).then fun a => match datAll a.1 with
  | some ds => if ds.length ≤ sizeLine then .ok (.new (.lst ds), a.2) else .bad
  | none => .bad
section
variable {X : Cx} {W : XK} {pos : Pos} {e : Expr} {es : List Expr} {f : FE} {fa : FA}
theorem OutA.run_E {K : PySem.W.Frag} {μ : List Addr} {F0 H0 F H : Hp} {sl : List SV} {cs : List CO} {σ : L2.St} {f : FA} {k : List RV × List CO → Res (RV × List CO)} {Q : VK} {Q' : List V → Hp → Prop} (R : Rel K μ F0 H0 F H sl cs σ) (o : OutE K W μ F H Q ((f sl cs).then k))
    (h : ∀ r c v F' H', f sl cs = .ok (r, c) → Nx μ F H F' H' → Wok F' H' μ c → RvAll K F' H' μ v r → Rel K μ F0 H0 F' H' sl c σ → OutE K W μ F' H' Q (k (r, c)) → Q' v H') : rdA K W f σ H Q' := by
  refine ⟨μ, F0, H0, F, sl, cs, R, ?_⟩
  cases e : f sl cs with
  | ok a =>
    obtain ⟨r, c⟩ := a
    rw [e] at o
    intro v F' H' n w k
    exact h r c v F' H' e n w k (R.step n w) (OutE.back o n w)
  | exc C fs c => rw [e] at o; exact o
  | bad => rw [e] at o; exact o.elim
theorem de_tup {k : Nat} (h : DA X W es fa) : DE X W (.Tuple es k pos) (dTup fa) := PE.imp (pe_tup h) fun σ H Q q => by
  obtain ⟨μ, F0, H0, F, sl, cs, R, o⟩ := q
  refine OutA.run_E R o fun rs c vs F1 H1 e1 n w k R1 o1 => ?_
  dsimp only at o1
  split at o1
  · rename_i ds ed
    have dn := datAll_ok k ed
    split at o1
    · rename_i hl
      refine ⟨by rw [dn.length]; exact hl, fun p hp => ?_⟩
      refine Aft.tup (cs := c) o1 w hp (.tup upd_same (dn.mono fun q u h => ?_))
      rw [upd_ne]
      · exact h
      · rintro rfl; have := w.ex _ u h; rw [hp] at this; cases this
    · exact o1.elim
  · exact o1.elim
theorem de_lst (h : DA X W es fa) : DE X W (.List es pos) (dLst fa) := PE.imp (pe_lst h) fun σ H Q q => by
  obtain ⟨μ, F0, H0, F, sl, cs, R, o⟩ := q
  refine OutA.run_E R o fun rs c vs F1 H1 e1 n w k R1 o1 => ?_
  dsimp only at o1
  split at o1
  · rename_i ds ed
    have dn := datAll_ok k ed
    split at o1
    · rename_i hl
      refine ⟨by rw [dn.length]; exact hl, fun p hp => ?_⟩
      exact Aft.new (cs := c) o1 w hp dn
    · exact o1.elim
  · exact o1.elim
end

/-! ### places -/
def gIx : G2 := fun a b => match a, b with
  | .lst xs, .int i => (atI xs i).map .dat
  | .tup xs, .int i => (atI xs i).map .dat
  | .str z, .int i => if z.length ≤ sizeLine then (atI z.cps.toList i).map fun c => .dat (.str ⟨#[c]⟩) else none
  | _, _ => none
theorem DenAll.atI {F : Hp} {vs : List V} {ds : List D} (h : DenAll F vs ds) {i : Int} {d : D} (e : L2.atI ds i = some d) : ∃ v, L2.atI vs i = some v ∧ Den F v d := by
  unfold L2.atI at e ⊢
  rw [h.length]
  cases q : ixN ds.length i with
  | none => rw [q] at e; cases e
  | some j => rw [q] at e; exact h.get e
section
variable {X : Cx} {W : XK} {pos : Pos} {a b : Expr} {fa fb : FE}
theorem de_ix (ha : DE X W a fa) (hb : DE X W b fb) (hs : PlainIx b) : DE X W (.Subscript a b pos) (dOp gIx fa fb) := PE.imp (pe_ix ix_seq ha hb hs) fun σ H Q q =>
  (rdE_imp (dOp_run q)) fun x H1 q1 => (rdE_imp q1) fun y H2 ⟨μ, F, cs, a, b, r, w, va, vb, e, k⟩ => by
    unfold gIx at e
    split at e
    · rename_i xs i
      cases z : L2.atI xs i with
      | none => rw [z] at e; cases e
      | some d =>
        rw [z] at e; cases e
        obtain ⟨p, vs, rfl, hp, d1⟩ := va.lst w.ex
        obtain ⟨v, e1, e2⟩ := d1.atI z
        exact .inl ⟨p, vs, i, v, rfl, vb.int, SqL.of hp, e1, k.dat w e2⟩
    · rename_i xs i
      cases z : L2.atI xs i with
      | none => rw [z] at e; cases e
      | some d =>
        rw [z] at e; cases e
        obtain ⟨p, vs, rfl, hp, d1⟩ := va.tup w.ex
        obtain ⟨v, e1, e2⟩ := d1.atI z
        exact .inr (.inl ⟨p, vs, i, v, rfl, vb.int, SqT.of hp, e1, k.dat w e2⟩)
    · rename_i z i
      split at e
      · rename_i hl
        cases q : L2.atI z.cps.toList i with
        | none => rw [q] at e; cases e
        | some c =>
          rw [q] at e; cases e
          exact .inr (.inr ⟨z, i, c, va.str, vb.int, hl, q, k.str w⟩)
      · cases e
    · cases e
where
  rdE_imp {K : PySem.W.Frag} {f : FE} {σ : L2.St} {H : Hp} {Q Q' : VK} (q : rdE K W f σ H Q) (h : ∀ v H', Q v H' → Q' v H') : rdE K W f σ H Q' := by
    obtain ⟨μ, F0, H0, F, sl, cs, R, o⟩ := q
    refine ⟨μ, F0, H0, F, sl, cs, R, ?_⟩
    cases e : f sl cs with
    | ok a => rw [e] at o; exact fun v F' H' n w k fv => h _ _ (o v F' H' n w k fv)
    | exc C fs c => rw [e] at o; exact o
    | bad => rw [e] at o; exact o
end

/-! ### built-ins by name -/
def dCB (g : GN) (fa : FA) : FE := fun sl cs => (fa sl cs).then fun a => match viewAll a.2 a.1 with
  | some ds => optE (g ds) a.2
  | none => .bad
where
  viewAll (cs : List CO) : List RV → Option (List D)
    | [] => some []
    | r :: rs => match r.view cs, viewAll cs rs with
      | some d, some ds => some (d :: ds)
      | _, _ => none
end DL

/-! DLd: built-ins by name, defs and their calls. -/
namespace DL
open PySem L2

/-! ### arguments that are only looked at -/
def dConsV (f : FE) (r : FA) : FA := fun sl cs => (f sl cs).then fun a => (r sl a.2).then fun b => .ok (a.1 :: b.1, b.2)
section
variable {X : Cx} {W : XK} {pos : Pos} {e : Expr} {es : List Expr} {f : FE} {fr fa : FA}
theorem daV_cons (h : DE X W e f) (k : DA X W es fr) (hs : starEach (e :: es) X.env = (false, eval e X.env) :: starEach es X.env := by rfl) : DA X W (e :: es) (dConsV f fr) := PA.imp (pa_cons h k hs) fun σ H Q q => by
  obtain ⟨μ, F0, H0, F, sl, cs, R, o⟩ := q
  refine OutE.run_A R o fun r c v F1 H1 e1 n w k fv R1 o1 => ?_
  refine ⟨μ, F0, H0, F1, sl, c, R1, ?_⟩
  dsimp only at o1
  cases e2 : fr sl c with
  | ok b =>
    obtain ⟨rs, c2⟩ := b
    rw [e2] at o1
    intro vs F2 H2 n2 w2 k2
    exact o1 _ F2 H2 n2 w2 (.cons (k.step n2) k2)
  | exc C fs c2 => rw [e2] at o1; exact o1
  | bad => rw [e2] at o1; exact o1.elim
theorem viewAll_ok {K : PySem.W.Frag} {F H : Hp} {μ : List Addr} {cs : List CO} (w : Wok F H μ cs) {vs : List V} {rs : List RV} (h : RvAll K F H μ vs rs) : ∀ {ds : List D}, dCB.viewAll cs rs = some ds → VwAll F H vs ds := by
  induction h with
  | nil => intro ds e; cases e; exact .nil
  | @cons v vs r rs h t ih =>
    intro ds e
    unfold dCB.viewAll at e
    split at e
    · rename_i d l e1 e2
      cases e
      exact .cons (h.vw w e1) (ih e2)
    · cases e
theorem dCB_run {K : PySem.W.Frag} {σ : L2.St} {H : Hp} {Q : VK} {g : GN} (q : rdE K W (dCB g fa) σ H Q) : tCB (rdN K g) (rdA K W fa) σ H Q := by
  obtain ⟨μ, F0, H0, F, sl, cs, R, o⟩ := q
  refine OutA.run_E R o fun rs c vs F1 H1 e1 n w k R1 o1 => ?_
  dsimp only at o1
  split at o1
  · rename_i ds ed
    obtain ⟨r, er, ar⟩ := OutE.aft o1
    exact ⟨μ, F1, c, ds, r, w, viewAll_ok w k ed, er, ar⟩
  · exact o1.elim
theorem de_callB {id : String} {x : Str} {g : GN} {p : Pos} (hc : CallD X (.builtin id) g) (hg : Gl X x) (hm : X.mg x = none) (hv : bootBuiltins x = some (.builtin id)) (ha : DA X W (e :: es) fa) (hn : x ≠ "__name__" := by decide) (hdb : (x == ("__debug__" : Str)) = false := by decide)
    (he : starEach (e :: es) X.env = (false, eval e X.env) :: starEach es X.env := by rfl) (hpl : (backTo pos (starEach es X.env)).any (·.1) = false := by rfl) : DE X W (.Call (.Name x p) (e :: es) [] pos) (dCB g fa) :=
  PE.imp (pe_callB hc hg hm hv ha hn hdb he hpl) fun _ _ _ q => dCB_run q
theorem de_callTy {T : String} {x : Str} {g : GN} {p : Pos} (hc : CallD X (.type T) g) (hg : Gl X x) (hm : X.mg x = none) (hv : bootBuiltins x = some (.type T)) (ha : DA X W (e :: es) fa) (hn : x ≠ "__name__" := by decide) (hdb : (x == ("__debug__" : Str)) = false := by decide)
    (he : starEach (e :: es) X.env = (false, eval e X.env) :: starEach es X.env := by rfl) (hpl : (backTo pos (starEach es X.env)).any (·.1) = false := by rfl) : DE X W (.Call (.Name x p) (e :: es) [] pos) (dCB g fa) :=
  PE.imp (pe_callTy hc hg hm hv ha hn hdb he hpl) fun _ _ _ q => dCB_run q
end
theorem VwAll.one {F H : Hp} {vs : List V} {d : D} (h : VwAll F H vs [d]) : ∃ v, vs = [v] ∧ Vw F H v d := by
  cases h with
  | cons a b => cases b; exact ⟨_, rfl, a⟩
theorem VwAll.two {F H : Hp} {vs : List V} {d e : D} (h : VwAll F H vs [d, e]) : ∃ v u, vs = [v, u] ∧ Vw F H v d ∧ Vw F H u e := by
  cases h with
  | cons a b => obtain ⟨u, rfl, c⟩ := b.one; exact ⟨_, _, rfl, a, c⟩

def gLen : GN := fun as => match as with
  | [.lst xs] => some (.dat (.int xs.length))
  | [.tup xs] => some (.dat (.int xs.length))
  | [.str z] => if z.length ≤ sizeLine then some (.dat (.int z.length)) else none
  | _ => none
def gMax : GN := fun as => match as with
  | [.int i, .int j] => some (.dat (.int (if j > i then j else i)))
  | _ => none
def gMin : GN := fun as => match as with
  | [.int i, .int j] => some (.dat (.int (if j < i then j else i)))
  | _ => none
def gAbs : GN := fun as => match as with
  | [.int i] => some (.dat (.int (if i < 0 then -i else i)))
  | _ => none
def gInt : GN := fun as => match as with
  | [.int i] => some (.dat (.int i))
  | [.bl k] => some (.dat (.int (if k then 1 else 0)))
  | _ => none
def gList : GN := fun as => match as with
  | [.lst xs] => some (.new (.lst xs))
  | [.tup xs] => some (.new (.lst xs))
  | _ => none
/-- repr of data -/
def reprOk (d : D) : Bool := (d.plain && PyData.showable d.py) && (decide (PyData.depth d.py ≤ 60) && decide ((PyData.shown d.py).length ≤ sizeLine))
def gRepr : GN := fun as => match as with
  | [d] => if reprOk d then some (.dat (.str (PyData.shown d.py))) else none
  | _ => none
section
variable {X : Cx}
theorem c_len : CallD X (.builtin "len") gLen := CallR.imp call_len fun vs H Q ⟨μ, F, cs, as, r, w, va, e, k⟩ => by
  unfold gLen at e
  split at e
  · cases e
    obtain ⟨v, rfl, a⟩ := va.one
    obtain ⟨p, xs, rfl, hp, d⟩ := a.lst w.ex
    exact ⟨_, xs.length, rfl, .inl ⟨xs, SqL.of hp, rfl⟩, by rw [d.length]; exact k.int w⟩
  · cases e
    obtain ⟨v, rfl, a⟩ := va.one
    obtain ⟨p, xs, rfl, hp, d⟩ := a.tup w.ex
    exact ⟨_, xs.length, rfl, .inr ⟨xs, SqT.of hp, rfl⟩, by rw [d.length]; exact k.int w⟩
  · split at e
    · rename_i hl; cases e
      obtain ⟨v, rfl, a⟩ := va.one
      rw [a.str]
      exact ⟨_, _, rfl, ⟨hl, rfl⟩, k.int w⟩
    · cases e
  · cases e
theorem c_max (hc : X.calm = true) : CallD X (.builtin "max") gMax := CallR.imp (call_max2 hc) fun vs H Q ⟨μ, F, cs, as, r, w, va, e, k⟩ => by
  unfold gMax at e
  split at e
  · cases e
    obtain ⟨v, u, rfl, a, b⟩ := va.two
    rw [a.int, b.int]
    exact ⟨_, _, rfl, k.int w⟩
  · cases e
theorem c_min (hc : X.calm = true) : CallD X (.builtin "min") gMin := CallR.imp (call_min2 hc) fun vs H Q ⟨μ, F, cs, as, r, w, va, e, k⟩ => by
  unfold gMin at e
  split at e
  · cases e
    obtain ⟨v, u, rfl, a, b⟩ := va.two
    rw [a.int, b.int]
    exact ⟨_, _, rfl, k.int w⟩
  · cases e
theorem c_abs : CallD X (.builtin "abs") gAbs := CallR.imp call_abs fun vs H Q ⟨μ, F, cs, as, r, w, va, e, k⟩ => by
  unfold gAbs at e
  split at e
  · cases e
    obtain ⟨v, rfl, a⟩ := va.one
    rw [a.int]
    exact ⟨_, rfl, k.int w⟩
  · cases e
theorem c_int : CallD X (.type "int") gInt := CallR.imp call_int1 fun vs H Q ⟨μ, F, cs, as, r, w, va, e, k⟩ => by
  unfold gInt at e
  split at e
  · cases e
    obtain ⟨v, rfl, a⟩ := va.one
    rw [a.int]
    exact .inl ⟨_, rfl, k.int w⟩
  · cases e
    obtain ⟨v, rfl, a⟩ := va.one
    rw [a.bl]
    exact .inr ⟨_, rfl, k.int w⟩
  · cases e
theorem c_list : CallD X (.type "list") gList := CallR.imp call_list_of fun vs H Q ⟨μ, F, cs, as, r, w, va, e, k⟩ => by
  unfold gList at e
  split at e
  · cases e
    obtain ⟨v, rfl, a⟩ := va.one
    obtain ⟨p, xs, rfl, hp, d⟩ := a.lst w.ex
    exact ⟨p, xs, rfl, .inl (SqL.of hp), fun l hl => k.new w hl d⟩
  · cases e
    obtain ⟨v, rfl, a⟩ := va.one
    obtain ⟨p, xs, rfl, hp, d⟩ := a.tup w.ex
    exact ⟨p, xs, rfl, .inr (SqT.of hp), fun l hl => k.new w hl d⟩
  · cases e
mutual
theorem noDict_py : ∀ d : D, d.plain = true → PyData.hasDict d.py = false
  | .non, _ => by simp [D.py, PyData.hasDict]
  | .bl _, _ => by simp [D.py, PyData.hasDict]
  | .int _, _ => by simp [D.py, PyData.hasDict]
  | .str _, _ => by simp [D.py, PyData.hasDict]
  | .lst xs, h => by simp only [D.py, PyData.hasDict]; exact noDict_all xs h
  | .tup xs, h => by simp only [D.py, PyData.hasDict]; exact noDict_all xs h
  | .dct _, h => nomatch h
  | .obj _ _, h => nomatch h
theorem noDict_all : ∀ ds : List D, plainAll ds = true → PyData.hasDictAll (pyAll ds) = false
  | [], _ => by simp [pyAll, PyData.hasDictAll]
  | d :: ds, h => by
    have q := Bool.and_eq_true_iff.mp (show (D.plain d && plainAll ds) = true from h)
    simp only [pyAll, PyData.hasDictAll, noDict_py d q.1, noDict_all ds q.2, Bool.or_false]
end
theorem c_repr (hu : X.A.units + 64 < cLine) (hg : X.A.guards = some []) : CallD X (.builtin "repr") gRepr := by
  intro pins s σ H vs us Q I rv h
  obtain ⟨μ, F, cs, as, r, w, va, e, k⟩ := h
  unfold gRepr at e
  split at e
  · rename_i d
    split at e
    · rename_i ok; cases e
      have q := Bool.and_eq_true_iff.mp ok
      have q1 := Bool.and_eq_true_iff.mp q.1
      have q2 := Bool.and_eq_true_iff.mp q.2
      have hsz : (PyData.shown d.py).length ≤ sizeLine := of_decide_eq_true q2.2
      have hdp : PyData.depth d.py ≤ 60 := of_decide_eq_true q2.1
      have hnd : PyData.hasDict d.py = false := noDict_py d q1.1
      obtain ⟨v, rfl, a⟩ := va.one
      obtain ⟨u, rfl, ru⟩ := vals1 rv
      have dp : Dp X.K H v d.py := a.dp w.ex q1.1
      obtain ⟨adr, rd⟩ := Dp.reads I _ v u dp ru
      have fin : ∀ h' tk t, (∀ b o, s.heap.get? b = some o → h'.get? b = some o) → EP X pins σ Q (.str (PyData.shown d.py) t) { s with heap := h', toks := tk } := fun h' tk t hk => ⟨.str _, H, I.kept hk, ⟨_, rfl⟩, k.str w⟩
      have fin0 : EP X pins σ Q (.str (PyData.shown d.py) s.toks) { s with toks := s.toks + 1 } := ⟨.str _, H, I.tok _, ⟨_, rfl⟩, k.str w⟩
      generalize hd : d.py = pd at *
      cases rd with
      | none => simp only [PyData.shown] at fin0 ⊢; exact PySem.P.repr_of_none fin0
      | bool b => simp only [PyData.shown] at fin0 ⊢; exact PySem.P.repr_of_bool fin0
      | int i t =>
        simp only [PyData.shown] at fin0 ⊢
        refine PySem.P.repr_of_int ?_ fin0
        have z := q1.2
        simp only [PyData.showable, decide_eq_true_eq] at z
        exact z
      | str x t => simp only [PyData.shown] at fin0 hsz ⊢; exact PySem.P.repr_of_str fin0 hsz
      | list h1 h2 h3 h4 => exact repr_of_reads' (.list h1 h2 h3 h4) q1.2 (fun e => by rw [hnd] at e; cases e) hg (by omega) (fun _ _ e => e) (fun h' u tk hk => fin h' tk u hk) hsz
      | tuple h1 h2 h3 h4 => exact repr_of_reads' (.tuple h1 h2 h3 h4) q1.2 (fun e => by rw [hnd] at e; cases e) hg (by omega) (fun _ _ e => e) (fun h' u tk hk => fin h' tk u hk) hsz
      | dict h1 h2 h3 h4 h5 => simp [PyData.hasDict] at hnd
    · cases e
  · cases e
end

/-! ### isinstance -/
def kindS : D → Option String
  | .non => some "NoneType"
  | .bl _ => some "bool"
  | .int _ => some "int"
  | .str _ => some "str"
  | .lst _ => some "list"
  | .tup _ => some "tuple"
  | .dct _ => some "dict"
  | .obj _ _ => none
def dIsi (T : String) (f : FE) : FE := fun sl cs => (f sl cs).then fun a => match a.1.view a.2 with
  | some d => match kindS d with
    | some s => match kitB s T with
      | some b => .ok (.dat (.bl b), a.2)
      | none => .bad
    | none => .bad
  | none => .bad
theorem Vw.ty {K : PySem.W.Frag} {F H : Hp} {v : V} {d : D} (h : Vw F H v d) (e : Ex F H) {s : String} (k : kindS d = some s) : TyOf K H v (.type s) := by
  cases d with
  | non => cases k; rw [h.non]; exact .non
  | bl b => cases k; rw [h.bl]; exact .bl b
  | int i => cases k; rw [h.int]; exact .int i
  | str x => cases k; rw [h.str]; exact .str x
  | lst xs => cases k; obtain ⟨p, vs, rfl, hp, _⟩ := h.lst e; exact .lst hp
  | tup xs => cases k; obtain ⟨p, vs, rfl, hp, _⟩ := h.tup e; exact .tup hp
  | dct xs => cases k; obtain ⟨p, vs, rfl, hp, _⟩ := h.dct e; exact .dK hp
  | obj _ _ => cases k
section
variable {X : Cx} {W : XK} {pos : Pos} {e : Expr} {f : FE}
theorem de_isi {T : String} {y : Str} {p p2 : Pos} (h : DE X W e f) (hg : Gl X "isinstance") (hm : X.mg "isinstance" = none) (hgT : Gl X y) (hmT : X.mg y = none) (hvT : bootBuiltins y = some (.type T)) (hn : y ≠ "__name__" := by decide) (hdb : (y == ("__debug__" : Str)) = false := by decide)
    (he : starEach [e, .Name y p2] X.env = (false, eval e X.env) :: starEach [.Name y p2] X.env := by rfl) (hpl : (backTo pos (starEach [.Name y p2] X.env)).any (·.1) = false := by rfl) (he2 : starEach [.Name y p2] X.env = (false, eval (.Name y p2) X.env) :: starEach [] X.env := by rfl) :
    DE X W (.Call (.Name "isinstance" p) [e, .Name y p2] [] pos) (dIsi T f) :=
  PE.imp (pe_callB call_isi hg hm (by decide +kernel) (pa_cons h (pa_cons (pe_bltn (v := .ty T) hgT hmT hvT rfl hn hdb) pa_nil he2) he) (by decide) (by decide) he hpl) fun σ H Q q => by
    obtain ⟨μ, F0, H0, F, sl, cs, R, o⟩ := q
    refine OutE.then_run R o fun r c v F1 H1 e n w k fv R1 o1 => ?_
    dsimp only at o1
    split at o1
    · rename_i d ed
      split at o1
      · rename_i s es
        split at o1
        · rename_i b eb
          exact ⟨v, .ty T, .type s, .type T, b, rfl, .ty T, .base ((k.vw w ed).ty w.ex es), kit_ty eb, o1 _ F1 H1 .refl w (.bl b) trivial⟩
        · exact o1.elim
      · exact o1.elim
    · exact o1.elim
end
end DL

/-! DLe: a def's promise by data, where nothing is being shown; its calls. -/
namespace DL
open PySem L2
open PyProof.Rows (envOfC)

/-- the promise of a def: phi tells the outcome, by its arguments and the cells -/
abbrev Phi := List RV → List CO → Res (RV × List CO)
def spF (K : PySem.W.Frag) (φ : Phi) : Sp := fun vs H Q E => ∃ μ F cs rs, Wok F H μ cs ∧ RvAll K F H μ vs rs ∧ OutE K E μ F H Q (φ rs cs)
/-- a def that keeps a promise, wherever no object is being shown (repr) around it -/
structure FnG (P : Program) (w : World) (K : PySem.W.Frag) (mg : Str → Option Value) (base : Heap) (k : Nat) (f : Addr) (fd : FuncData) (ps : List Str) (sp : Sp) : Prop where
  go : ∀ (A : Around) (outer : List Env) (s : Shared) (H : Hp) (args : Args) (us : List Value) (vs : List V) (Q : VK) (E : XK), A.guards = some [] → Room k A → vs.length = ps.length →
    Env0 P w K mg base A outer s H → BindsTo s fd args (ps.zip us) → Vals vs us → sp vs H Q E → codeAny (model P w) A (.call (.ref f) args) (CR (L2.CX P w) outer P w H s Q E) s

section
variable {P : Program} {w : World} {K : PySem.W.Frag} {mg : Str → Option Value} {base : Heap} {k : Nat} {f : Addr} {fd : FuncData} {ps : List Str} {sp : Sp}
theorem FnG.mono {j : Nat} (h : FnG P w K mg base j f fd ps sp) (l : j ≤ k) : FnG P w K mg base k f fd ps sp :=
  ⟨fun A o s H a us vs Q E g r n e b v q => h.go A o s H a us vs Q E g (r.mono l) n e b v q⟩
/-- a body that is walked -/
theorem FnG.mk' {x qual : Str} {params : Arguments} {body : List Stmt} {scope : Scope} {dvs : List V} {kws : List (Str × V)} {N : List Str} (FD : FunD K x qual params body scope dvs kws f fd) (S : FnScope N ps scope)
    (walk : ∀ (cdv : Value) (A : Around) (outer : List Env) (s : Shared) (H : Hp) (vs : List V) (Q : VK) (E : XK), vs.length = ps.length → A.guards = some [] → Room k (A.deeper (envOfC qual scope s.heap.objs.size f cdv)) → sp vs H Q E →
      ∃ t, PSs (cxOf (L2.CX P w) P w K mg base N qual scope f cdv A outer s H E) body t ∧ t { nx := fun _ H' => Q .non H', rt := Q } (L2.start N vs) H) : FnG P w K mg base (k + 1) f fd ps sp := by
  obtain ⟨oc, od, dV, kV, doc, pm, an, cdv, ct, osl, e0, lk, code, _, _⟩ := FD.ex
  subst e0
  constructor
  intro A outer s H args us vs Q E gd room vl env bind rel prom
  have stays : ∀ b o, base.get? b = some o → s.heap.get? b = some o := fun b o z => (env.bs b o z).1
  have inK : K.In s.heap := env.mod.kin.keeps stays
  have kinds : ∀ y ∈ ps.zip us, scope.names.lookup y.1 = some .local ∨ (scope.names.lookup y.1 = some .cell ∧ ((cellsFrom (s.heap.objs.size + 1) scope.names []).lookup y.1).isSome = true) := by
    intro y hy
    obtain ⟨n, v⟩ := y
    cases S.par n (List.of_mem_zip hy).1 with
    | inl z => exact Or.inl z
    | inr z => exact Or.inr ⟨z, PySem.W.cellsFrom_some _ _ _ (Or.inl z)⟩
  apply codeAny_call_function room.depth (inK _ _ lk) rfl S.co S.gen rfl (PySem.W.codeRec_of inK code)
  apply bind
  refine wpAny_newFunctionEnv_cells S.kind kinds ?_
  intro en hen s1 hs1
  subst hen
  refine ⟨(env.mod.nolimit.keeps stays).keeps hs1.toInCall.keep, codeAny_func ?_⟩
  obtain ⟨t, pt, qt⟩ := walk cdv A outer s H vs Q E vl gd (room.deeper _) prom
  have inv := inv_start (CX := L2.CX P w) (E := E) (w := w) (cd := cdv) (f := f) S room.hd env vl rel hs1
  refine wpAny_mono (pt.run [] s1 (L2.start N vs) H _ inv qt) ?_ fun _ _ z => z
  intro fl s' out
  match fl, out with
  | .ret u, ⟨v, _, H', J, rv, q⟩ => exact ⟨v, H', J.os, J.bare, J.base, J.hok, rv, q⟩
  | .next, ⟨_, H', J, q⟩ => exact ⟨.non, H', J.os, J.bare, J.base, J.hok, rfl, q⟩
  | .brk, ⟨_, _, _, q⟩ => exact q.elim
  | .cont, ⟨_, _, _, q⟩ => exact q.elim
end

/-! ### the body -/
def svOf : RV → Option SV
  | .dat d => some (.dat d)
  | .cell i => some (.cell i)
  | .scr ns => some (.scr ns)
  | _ => none
def svAll : List RV → Option (List SV)
  | [] => some []
  | r :: rs => match svOf r, svAll rs with
    | some s, some l => some (s :: l)
    | _, _ => none
/-- what a body tells: n locals behind the parameters -/
def runB (n : Nat) (f : FS) : Phi := fun rs cs => match svAll rs with
  | some sl => match f (sl ++ List.replicate n .un) cs with
    | .nx _ cs' => .ok (.dat .non, cs')
    | .rt (.own _) _ => .bad
    | .rt r cs' => .ok (r, cs')
    | .exc C fs cs' => .exc C fs cs'
    | _ => .bad
  | none => .bad
section
variable {K : PySem.W.Frag} {μ : List Addr} {F H : Hp} {cs : List CO}
theorem RvAll.length {vs : List V} {rs : List RV} (h : RvAll K F H μ vs rs) : vs.length = rs.length := by
  induction h with
  | nil => rfl
  | cons _ _ t => simp [t]
theorem svAll_len : ∀ {rs : List RV} {sl : List SV}, svAll rs = some sl → sl.length = rs.length
  | [], sl, e => by cases e; rfl
  | r :: rs, sl, e => by
    unfold svAll at e
    split at e
    · rename_i s l e1 e2; cases e; simp [svAll_len e2]
    · cases e
theorem svAll_ok {vs : List V} {rs : List RV} (h : RvAll K F H μ vs rs) : ∀ {sl : List SV}, svAll rs = some sl → ∀ (i : Nat) (sv : SV), sl[i]? = some sv → (∃ x, vs[i]? = some x) ∧ SvOk K H F H μ (vs.map some)[i]? sv ∧ ∀ c, sv ≠ .own c := by
  induction h with
  | nil => intro sl e i sv h; cases e; simp at h
  | @cons v vs r rs h t ih =>
    intro sl e i sv hi
    unfold svAll at e
    split at e
    · rename_i s l e1 e2
      cases e
      cases i with
      | zero =>
        simp only [List.getElem?_cons_zero, Option.some.injEq] at hi
        subst hi
        refine ⟨⟨v, by simp⟩, ?_, ?_⟩
        · cases r with
          | dat d => cases e1; exact ⟨v, by simp, h⟩
          | cell j => cases e1; obtain ⟨p, rfl, h⟩ := h; exact ⟨p, by simp, h⟩
          | scr ns => cases e1; obtain ⟨p, rfl, h⟩ := h; exact ⟨p, by simp, h⟩
          | new c => cases e1
          | own c => cases e1
        · intro c z; subst z; cases r <;> cases e1
      | succ i =>
        simp only [List.getElem?_cons_succ] at hi
        obtain ⟨⟨x, a⟩, b, c⟩ := ih e2 i sv hi
        exact ⟨⟨x, by simpa using a⟩, by simpa using b, c⟩
    · cases e
/-- the state at a def's begin -/
theorem rel_start {N : List Str} {vs : List V} {rs : List RV} {sl : List SV} (w : Wok F H μ cs) (h : RvAll K F H μ vs rs) (e : svAll rs = some sl) : Rel K μ F H F H (sl ++ List.replicate (N.length - vs.length) .un) cs (L2.start N vs) := by
  have hl : sl.length = vs.length := (svAll_len e).trans h.length.symm
  have own : ∀ (i : Nat) (c : CO), (sl ++ List.replicate (N.length - vs.length) SV.un)[i]? ≠ some (.own c) := fun i c z => by
    by_cases hi : i < sl.length
    · rw [List.getElem?_append_left hi] at z
      exact (svAll_ok h e i _ z).2.2 c rfl
    · rw [List.getElem?_append_right (by omega), List.getElem?_replicate] at z
      split at z <;> cases z
  refine ⟨w, .refl, by simp [L2.start, hl], fun i sv z => ?_, fun i j c d p z => absurd z (own i c)⟩
  by_cases hi : i < sl.length
  · rw [List.getElem?_append_left hi] at z
    have q := (svAll_ok h e i _ z).2.1
    unfold L2.start
    rw [List.getElem?_append_left (by simp; omega)]
    exact q
  · rw [List.getElem?_append_right (by omega), List.getElem?_replicate] at z
    split at z <;> cases z
    trivial
/-- a body's reading from its walk -/
theorem body_run {N : List Str} {W : XK} {n : Nat} {f : FS} {vs : List V} {Q : VK} (hn : N.length - vs.length = n) (h : spF K (runB n f) vs H Q W) : rdS K W f { nx := fun _ H' => Q .non H', rt := Q } (L2.start N vs) H := by
  obtain ⟨μ, F, cs, rs, w, ra, o⟩ := h
  unfold runB at o
  split at o
  · rename_i sl e
    have R := rel_start (N := N) w ra e
    rw [hn] at R
    refine ⟨μ, F, H, F, _, cs, R, ?_⟩
    split at o
    · rename_i sl' cs' z
      rw [z]
      intro σ' F' H' R'
      exact o .non F' H' R'.fr.nx R'.w .non trivial
    · exact o.elim
    · rename_i r cs' nn z
      rw [z]
      intro v F' H' fr w' k fv
      refine o v F' H' fr.nx w' k ?_
      cases r with
      | new c => exact fv
      | _ => trivial
    · rename_i C fs cs' z
      rw [z]
      exact o
    · exact o.elim
  · exact o.elim
end
end DL

/-! DLf: calls; statements. -/
namespace DL
open PySem L2

section
variable {K : PySem.W.Frag} {F H : Hp} {μ : List Addr}
theorem RvAll.append {vs us : List V} {rs qs : List RV} (h : RvAll K F H μ vs rs) (k : RvAll K F H μ us qs) : RvAll K F H μ (vs ++ us) (rs ++ qs) := by
  induction h with
  | nil => exact k
  | cons a _ t => exact .cons a t
theorem RvAll.take {vs : List V} {rs : List RV} (h : RvAll K F H μ vs rs) (n : Nat) : RvAll K F H μ (vs.take n) (rs.take n) := by
  induction h generalizing n with
  | nil => cases n <;> exact .nil
  | cons a _ t => cases n with
    | zero => exact .nil
    | succ n => exact .cons a (t n)
theorem RvAll.drop {vs : List V} {rs : List RV} (h : RvAll K F H μ vs rs) (n : Nat) : RvAll K F H μ (vs.drop n) (rs.drop n) := by
  induction h generalizing n with
  | nil => cases n <;> exact .nil
  | cons a b t => cases n with
    | zero => exact .cons a b
    | succ n => exact t n
end
/-- defaults: data that need no heap -/
def Flat (dvs : List V) (drs : List RV) : Prop := ∀ K F H μ, RvAll K F H μ dvs drs
theorem flat_nil : Flat [] [] := fun _ _ _ _ => .nil
theorem flat_cons {v : V} {d : D} {vs : List V} {rs : List RV} (h : ∀ F, Den F v d) (t : Flat vs rs) : Flat (v :: vs) (.dat d :: rs) := fun K F H μ => .cons (h F) (t K F H μ)
def dCall (n : Nat) (φ : Phi) (drs : List RV) (fa : FA) : FE := fun sl cs => (fa sl cs).then fun a => if (a.1 ++ drs).length = n then φ (a.1 ++ drs) a.2 else .bad
def dCallK (n m : Nat) (φ : Phi) (g : List RV → List RV → List RV) (fa fk : FA) : FE := fun sl cs => (fa sl cs).then fun a => (fk sl a.2).then fun b => if a.1.length = n ∧ b.1.length = m then φ (g a.1 b.1) b.2 else .bad
section
variable {X : Cx} {W : XK} {k n : Nat} {f : Addr} {fd : FuncData} {ps ks : List Str} {φ : Phi} {x : Str} {p pos : Pos} {e : Expr} {es : List Expr} {kws : List Keyword} {fa fk : FA} {ds : List Value} {dvs : List V} {drs : List RV}
theorem runG {pins : List (Addr × Obj)} {σ : L2.St} {H : Hp} {s : Shared} {Q : VK} {pa : List Value} {kw : List (Str × Value)} {us : List Value} {vs : List V} {sp : Sp} (FK : FnG X.prog X.w X.K X.mg X.base k f fd ps sp) (hr : Room k X.A) (hg : X.A.guards = some []) (hx : Passes (L2.CX X.prog X.w) X W)
    (I : Inv X pins σ H s) (hb : BindsTo s fd ⟨pa, kw⟩ (ps.zip us)) (r : Vals vs us) (hl : vs.length = ps.length) (h : sp vs H Q W) : wpAny (model X.prog X.w) X.A (call (.ref f) pa kw) (EP X pins σ Q) X.xe s := by
  apply wpAny_call
  refine codeAny_mono (FK.go X.A X.stack s H _ us vs Q W hg hr hl I.env0 hb r h) ?_
  intro out s' ho
  match out, ho with
  | .error e, z => exact hx pins σ H s e s' I z
  | .ok (.ret u), z => exact I.after z
  | .ok .next, z => exact False.elim z
  | .ok .brk, z => exact False.elim z
  | .ok .cont, z => exact False.elim z
/-- f(e, ..), the lacking parameters' defaults behind -/
theorem de_call (FK : FnG X.prog X.w X.K X.mg X.base k f fd ps (spF X.K φ)) (hr : Room k X.A) (hg : X.A.guards = some []) (hgl : Gl X x) (hm : X.mg x = some (.ref f)) (hk : PySem.W.keepIn X.K (.ref f) = true) (hb : Binds X.K fd ps ds) (hd : Vals dvs ds) (hf : Flat dvs drs) (hn : ps.length = n)
    (hx : Passes (L2.CX X.prog X.w) X W) (ha : DA X W (e :: es) fa) (hdb : (x == ("__debug__" : Str)) = false := by decide) (he : starEach (e :: es) X.env = (false, eval e X.env) :: starEach es X.env := by rfl) (hpl : (backTo pos (starEach es X.env)).any (·.1) = false := by rfl) :
    DE X W (.Call (.Name x p) (e :: es) [] pos) (dCall n φ drs fa) := by
  constructor
  intro pins s σ H Q I q
  obtain ⟨μ, F0, H0, F, sl, cs, R, o⟩ := q
  have rd : rdA X.K W fa σ H fun vs H1 => (vs ++ dvs).length = n ∧ spF X.K φ (vs ++ dvs) H1 Q W := by
    refine OutA.run_E R o fun rs c vs F1 H1 e1 nx w k1 R1 o1 => ?_
    dsimp only at o1
    have kk := k1.append (hf X.K F1 H1 μ)
    split at o1
    · rename_i hl
      exact ⟨kk.length.trans hl, μ, F1, c, rs ++ drs, w, kk, o1⟩
    · exact o1.elim
  refine wpAny_Call_Name_kw (ld_glob I hgl hm ?_ hdb)
  refine PySem.W.callWith_K (h₀ := X.base) I.ok.mod.kin hk (thn (ha.run pos pins s σ H _ I rd) ?_) he hpl
  rintro us s1 ⟨vs, H1, I1, r, hl, q1⟩
  have rr : Vals (vs ++ dvs) (us ++ ds) := r.append hd
  exact ⟨I1.kIn, runG FK hr hg hx I1 (hb s1 us I1.kIn (by rw [← rr.length, hl, hn])) rr (by rw [hl, hn]) q1⟩
theorem de_call0 (FK : FnG X.prog X.w X.K X.mg X.base k f fd ps (spF X.K φ)) (hr : Room k X.A) (hg : X.A.guards = some []) (hgl : Gl X x) (hm : X.mg x = some (.ref f)) (hk : PySem.W.keepIn X.K (.ref f) = true) (hb : Binds X.K fd ps ds) (hd : Vals dvs ds) (hf : Flat dvs drs) (hn : ps.length = n)
    (hx : Passes (L2.CX X.prog X.w) X W) (hdb : (x == ("__debug__" : Str)) = false := by decide) : DE X W (.Call (.Name x p) [] [] pos) (dCall n φ drs dNil) := by
  constructor
  intro pins s σ H Q I q
  obtain ⟨μ, F0, H0, F, sl, cs, R, o⟩ := q
  have kk := hf X.K F H μ
  have o1 : OutE X.K W μ F H Q (if ([] ++ drs).length = n then φ ([] ++ drs) cs else .bad) := o
  split at o1
  · rename_i hl
    have rr : Vals ([] ++ dvs) ([] ++ ds) := hd
    refine wpAny_Call_Name_kw (ld_glob I hgl hm ?_ hdb)
    have l2 : dvs.length = n := by rw [kk.length]; simpa using hl
    exact PySem.W.callWith_K0 I.kIn hk (runG FK hr hg hx I (hb s [] I.kIn (by rw [← rr.length, List.nil_append, l2, hn])) rr (by rw [List.nil_append, l2, hn]) ⟨μ, F, cs, _, R.w, kk, o1⟩)
  · exact o1.elim

/-- keywords -/
structure KB (K : PySem.W.Frag) (fd : FuncData) (ps : List Str) (n : Nat) (ks : List Str) (g : List RV → List RV → List RV) : Prop where
  ex : ∃ (gu : List Value → List Value → List Value) (gv : List V → List V → List V), (∀ (s : Shared) (us ws : List Value), K.In s.heap → us.length = n → ws.length = ks.length → BindsTo s fd ⟨us, ks.zip ws⟩ (ps.zip (gu us ws))) ∧
    (∀ {vs : List V} {us : List Value} {zs : List V} {ws : List Value}, Vals vs us → Vals zs ws → Vals (gv vs zs) (gu us ws)) ∧
    (∀ {K F H μ} {vs zs : List V} {rs qs : List RV}, RvAll K F H μ vs rs → RvAll K F H μ zs qs → RvAll K F H μ (gv vs zs) (g rs qs)) ∧
    (∀ {vs zs : List V}, vs.length = n → zs.length = ks.length → (gv vs zs).length = ps.length)
abbrev DK (X : Cx) (W : XK) (kws : List Keyword) (f : FA) : Prop := PK X kws (rdA X.K W f)
theorem PK.imp {X : Cx} {e : List Keyword} {t t' : TA} (h : PK X e t) (i : ∀ σ H Q, t' σ H Q → t σ H Q) : PK X e t' := ⟨fun ps p s σ H Q I q => h.run ps p s σ H Q I (i σ H Q q)⟩
theorem dk_nil : DK X W [] dNil := PK.imp pk_nil fun σ H Q q => by
  obtain ⟨μ, F0, H0, F, sl, cs, R, o⟩ := q
  exact o [] F H .refl R.w .nil
theorem dk_cons {nm : Option Str} {kpos : Pos} {f1 : FE} {fr : FA} (h : DE X W e f1) (k : DK X W kws fr) : DK X W (⟨nm, e, kpos⟩ :: kws) (dCons f1 fr) := PK.imp (pk_cons (de_frz h) k) fun σ H Q q => by
  obtain ⟨μ, F0, H0, F, sl, cs, R, o⟩ := q
  refine OutE.run_A R o fun r c v F1 H1 e1 n w k fv R1 o1 => ?_
  refine ⟨μ, F0, H0, F1, sl, c, R1, ?_⟩
  dsimp only at o1
  cases e2 : fr sl c with
  | ok b =>
    obtain ⟨rs, c2⟩ := b
    rw [e2] at o1
    intro vs F2 H2 n2 w2 k2
    exact o1 _ F2 H2 n2 w2 (.cons (k.step n2) k2)
  | exc C fs c2 => rw [e2] at o1; exact o1
  | bad => rw [e2] at o1; exact o1.elim
variable {g : List RV → List RV → List RV} {m : Nat}
theorem dCallK_run {σ : L2.St} {H : Hp} {Q : VK} (q : rdE X.K W (dCallK n m φ g fa fk) σ H Q) : rdA X.K W fa σ H fun vs H1 => rdA X.K W fk σ H1 fun zs H2 => vs.length = n ∧ zs.length = m ∧ ∃ μ F c rs qs, Wok F H2 μ c ∧ RvAll X.K F H2 μ vs rs ∧ RvAll X.K F H2 μ zs qs ∧ OutE X.K W μ F H2 Q (φ (g rs qs) c) := by
  obtain ⟨μ, F0, H0, F, sl, cs, R, o⟩ := q
  refine OutA.run_E R o fun rs c vs F1 H1 e1 n1 w k1 R1 o1 => ?_
  refine OutA.run_E R1 o1 fun qs c2 zs F2 H2 e2 n2 w2 k2 R2 o2 => ?_
  dsimp only at o2
  split at o2
  · rename_i hl
    exact ⟨k1.length.trans hl.1, k2.length.trans hl.2, μ, F2, c2, rs, qs, w2, k1.step n2, k2, o2⟩
  · exact o2.elim
theorem de_callK (FK : FnG X.prog X.w X.K X.mg X.base k f fd ps (spF X.K φ)) (hr : Room k X.A) (hg : X.A.guards = some []) (hgl : Gl X x) (hm : X.mg x = some (.ref f)) (hk : PySem.W.keepIn X.K (.ref f) = true) (hb : KB X.K fd ps n ks g) (hmk : ks.length = m)
    (hx : Passes (L2.CX X.prog X.w) X W) (ha : DA X W (e :: es) fa) (hkw : DK X W kws fk) (hall : (backToKw pos (keywordEach kws X.env)).all (·.1.isSome) = true := by rfl) (hks : (backToKw pos (keywordEach kws X.env)).filterMap (·.1) = ks := by rfl)
    (hdb : (x == ("__debug__" : Str)) = false := by decide) (he : starEach (e :: es) X.env = (false, eval e X.env) :: starEach es X.env := by rfl)
    (hpl : ((backTo pos (starEach (e :: es) X.env)).any (·.1) || (backToKw pos (keywordEach kws X.env)).any (·.1.isNone)) = false := by rfl) : DE X W (.Call (.Name x p) (e :: es) kws pos) (dCallK n m φ g fa fk) := by
  obtain ⟨gu, gv, b1, b2, b3, b4⟩ := hb.ex
  constructor
  intro pins s σ H Q I q
  refine wpAny_Call_Name_kw (ld_glob I hgl hm ?_ hdb)
  refine PySem.W.callWith_KW (h₀ := X.base) I.ok.mod.kin hk hall (thn (ha.run pos pins s σ H _ I (dCallK_run q)) ?_) hpl he
  rintro us s1 ⟨vs, H1, I1, r1, q1⟩
  refine thn (hkw.run pos pins s1 σ H1 _ I1 q1) ?_
  rintro ws s2 ⟨zs, H2, I2, r2, l1, l2, μ, F, c, rs, qs, w, k1, k2, o⟩
  rw [hks]
  exact ⟨I2.kIn, runG FK hr hg hx I2 (b1 s2 us ws I2.kIn (by rw [← r1.length, l1]) (by rw [← r2.length, l2, hmk])) (b2 r1 r2) (b4 l1 (by rw [l2, hmk])) ⟨μ, F, c, _, w, b3 k1 k2, o⟩⟩
/-- keywords alone -/
theorem de_callK0 (FK : FnG X.prog X.w X.K X.mg X.base k f fd ps (spF X.K φ)) (hr : Room k X.A) (hg : X.A.guards = some []) (hgl : Gl X x) (hm : X.mg x = some (.ref f)) (hk : PySem.W.keepIn X.K (.ref f) = true) (hb : KB X.K fd ps 0 ks g) (hmk : ks.length = m)
    (hx : Passes (L2.CX X.prog X.w) X W) (hkw : DK X W kws fk) (hall : (backToKw pos (keywordEach kws X.env)).all (·.1.isSome) = true := by rfl) (hks : (backToKw pos (keywordEach kws X.env)).filterMap (·.1) = ks := by rfl)
    (hdb : (x == ("__debug__" : Str)) = false := by decide)
    (hpl : ((backTo pos (starEach [] X.env)).any (·.1) || (backToKw pos (keywordEach kws X.env)).any (·.1.isNone)) = false := by rfl) : DE X W (.Call (.Name x p) [] kws pos) (dCallK 0 m φ g dNil fk) := by
  obtain ⟨gu, gv, b1, b2, b3, b4⟩ := hb.ex
  constructor
  intro pins s σ H Q I q
  have q0 : rdA X.K W fk σ H fun zs H2 => zs.length = m ∧ ∃ μ F c qs, Wok F H2 μ c ∧ RvAll X.K F H2 μ zs qs ∧ OutE X.K W μ F H2 Q (φ (g [] qs) c) := by
    obtain ⟨μ, F0, H0, F, sl, cs, R, o⟩ := q
    refine OutA.run_E (f := fk) R (k := fun b => if ([] : List RV).length = 0 ∧ b.1.length = m then φ (g [] b.1) b.2 else .bad) o fun qs c2 zs F2 H2 e2 n2 w2 k2 R2 o2 => ?_
    dsimp only at o2
    split at o2
    · rename_i hl
      exact ⟨k2.length.trans hl.2, μ, F2, c2, qs, w2, k2, o2⟩
    · exact o2.elim
  refine wpAny_Call_Name_kw (ld_glob I hgl hm ?_ hdb)
  refine PySem.W.callWith_KW0 (h₀ := X.base) I.ok.mod.kin hk hall (thn (hkw.run pos pins s σ H _ I q0) ?_) hpl
  rintro ws s2 ⟨zs, H2, I2, r2, l2, μ, F, c, qs, w, k2, o⟩
  rw [hks]
  exact ⟨I2.kIn, runG FK hr hg hx I2 (b1 s2 [] ws I2.kIn rfl (by rw [← r2.length, l2, hmk])) (b2 .nil r2) (b4 rfl (by rw [l2, hmk])) ⟨μ, F, c, _, w, b3 .nil k2, o⟩⟩
end
end DL

/-! DLg: statements, loops. -/
namespace DL
open PySem L2

def Res.toF {α : Type} (r : Res α) (k : α → Flw) : Flw := match r with
  | .ok a => k a
  | .exc C fs cs => .exc C fs cs
  | .bad => .bad
section
variable {K : PySem.W.Frag} {W : XK} {μ : List Addr} {F0 H0 F H F1 H1 : Hp} {sl : List SV} {cs : List CO} {σ : L2.St} {D : Ends}
theorem OutS.run_E {f : FE} {k : RV × List CO → Flw} {Q' : VK} (R : Rel K μ F0 H0 F H sl cs σ) (o : OutS K W μ F0 H0 D ((f sl cs).toF k))
    (h : ∀ r c v F' H', f sl cs = .ok (r, c) → Nx μ F H F' H' → Wok F' H' μ c → RvOk K F' H' μ v r → FreshV H r v → Rel K μ F0 H0 F' H' sl c σ → OutS K W μ F0 H0 D (k (r, c)) → Q' v H') : rdE K W f σ H Q' := by
  refine ⟨μ, F0, H0, F, sl, cs, R, ?_⟩
  cases e : f sl cs with
  | ok a => obtain ⟨r, c⟩ := a; rw [e] at o; exact fun v F' H' n w k fv => h r c v F' H' e n w k fv (R.step n w) o
  | exc C fs c => rw [e] at o; exact Raised.entry o R.fr R.w
  | bad => rw [e] at o; exact o.elim
theorem OutS.run_T {f : FT} {k : Bool × List CO → Flw} {Q' : Bool → Hp → Prop} (R : Rel K μ F0 H0 F H sl cs σ) (o : OutS K W μ F0 H0 D ((f sl cs).toF k))
    (h : ∀ r c F' H', f sl cs = .ok (r, c) → Nx μ F H F' H' → Wok F' H' μ c → Rel K μ F0 H0 F' H' sl c σ → OutS K W μ F0 H0 D (k (r, c)) → Q' r H') : rdT K W f σ H Q' := by
  refine ⟨μ, F0, H0, F, sl, cs, R, ?_⟩
  cases e : f sl cs with
  | ok a => obtain ⟨r, c⟩ := a; rw [e] at o; exact fun F' H' n w => h r c F' H' e n w (R.step n w) o
  | exc C fs c => rw [e] at o; exact Raised.entry o R.fr R.w
  | bad => rw [e] at o; exact o.elim
theorem OutS.run_A {f : FA} {k : List RV × List CO → Flw} {Q' : List V → Hp → Prop} (R : Rel K μ F0 H0 F H sl cs σ) (o : OutS K W μ F0 H0 D ((f sl cs).toF k))
    (h : ∀ r c v F' H', f sl cs = .ok (r, c) → Nx μ F H F' H' → Wok F' H' μ c → RvAll K F' H' μ v r → Rel K μ F0 H0 F' H' sl c σ → OutS K W μ F0 H0 D (k (r, c)) → Q' v H') : rdA K W f σ H Q' := by
  refine ⟨μ, F0, H0, F, sl, cs, R, ?_⟩
  cases e : f sl cs with
  | ok a => obtain ⟨r, c⟩ := a; rw [e] at o; exact fun v F' H' n w k => h r c v F' H' e n w k (R.step n w) o
  | exc C fs c => rw [e] at o; exact Raised.entry o R.fr R.w
  | bad => rw [e] at o; exact o.elim
/-- another ghost -/
theorem Fr.gh (h : Fr μ F0 H0 F H) : Fr μ F H0 F H := ⟨Ex.refl _, fun _ _ z => .inl z, h.st⟩
theorem Fr.ungh (a : Fr μ F0 H0 F1 H1) (h : Fr μ F1 H0 F H) : Fr μ F0 H0 F H := ⟨a.ex.trans h.ex, fun b o z => (h.gro b o z).elim (fun y => a.gro b o y) .inr, h.st⟩
theorem Rel.gh (h : Rel K μ F0 H0 F H sl cs σ) : Rel K μ F H0 F H sl cs σ := ⟨h.w, h.fr.gh, h.len, h.at_, h.ds⟩
theorem Rel.ungh (a : Fr μ F0 H0 F1 H1) (h : Rel K μ F1 H0 F H sl cs σ) : Rel K μ F0 H0 F H sl cs σ := ⟨h.w, a.ungh h.fr, h.len, h.at_, h.ds⟩
theorem OutS.gh {o : Flw} (a : Fr μ F0 H0 F1 H1) (h : OutS K W μ F0 H0 D o) : OutS K W μ F1 H0 D o := by
  cases o with
  | nx sl cs => exact fun σ F H R => h σ F H (R.ungh a)
  | bk sl cs => exact fun σ F H R => h σ F H (R.ungh a)
  | ct sl cs => exact fun σ F H R => h σ F H (R.ungh a)
  | rt r cs => exact fun v F H f => h v F H (a.ungh f)
  | exc C fs cs => exact fun F' H' dx fv n => h F' H' dx fv (a.ungh ⟨n.ex, n.gro, n.st⟩).nx
  | bad => exact h
/-- a slot is stored -/
theorem Rel.set {i : Nat} {v : V} {sv : SV} (R : Rel K μ F0 H0 F H sl cs σ) (hi : i < sl.length) (h : SvOk K H0 F H μ (some (some v)) sv)
    (dj : ∀ c, sv = .own c → ∀ j p d, v = .ref p → sl[j]? = some (.own d) → σ[j]? = some (some (.ref p)) → j = i) : Rel K μ F0 H0 F H (sl.set i sv) cs (σ.set i (some v)) := by
  have hσ : i < σ.length := by rw [R.len]; exact hi
  refine ⟨R.w, R.fr, by simp [R.len], fun j s e => ?_, fun j k c d p e1 e2 e3 e4 => ?_⟩
  · by_cases hj : i = j
    · subst hj
      rw [List.getElem?_set_self hi] at e; cases e
      rw [List.getElem?_set_self hσ]; exact h
    · rw [List.getElem?_set_ne hj] at e
      rw [List.getElem?_set_ne hj]; exact R.at_ j s e
  · by_cases hj : i = j
    · subst hj
      rw [List.getElem?_set_self hi] at e1; cases e1
      rw [List.getElem?_set_self hσ] at e3
      have e3' := Option.some.inj (Option.some.inj e3)
      by_cases hk : i = k
      · exact hk
      · rw [List.getElem?_set_ne hk] at e2 e4
        exact (dj c rfl k p d e3' e2 e4).symm
    · rw [List.getElem?_set_ne hj] at e1 e3
      by_cases hk : i = k
      · subst hk
        rw [List.getElem?_set_self hi] at e2; cases e2
        rw [List.getElem?_set_self hσ] at e4
        exact dj d rfl j p c (Option.some.inj (Option.some.inj e4)) e1 e3
      · rw [List.getElem?_set_ne hk] at e2 e4
        exact R.ds j k c d p e1 e2 e3 e4
/-- an object of a slot's own is changed -/
theorem Rel.mut {i : Nat} {p : Addr} {c c' : CO} {o' : HO} (R : Rel K μ F0 H0 F H sl cs σ) (e : sl[i]? = some (.own c)) (ev : σ[i]? = some (some (.ref p))) (k : COk F o' c') : Rel K μ F0 H0 F (upd H p o') (sl.set i (.own c')) cs σ := by
  have hi : i < sl.length := (List.getElem?_eq_some_iff.mp e).1
  obtain ⟨q, a, b, l⟩ := R.at_ i _ e
  rw [ev] at a
  have a' := Option.some.inj (Option.some.inj a)
  cases a'
  have ne : ∀ b u, F b = some u → b ≠ p := fun b u h z => by subst z; rw [l.1] at h; cases h
  refine ⟨⟨fun b u h => by rw [upd_ne (ne b u h)]; exact R.w.ex b u h, R.w.len, R.w.nd, fun j q d h1 h2 => ?_⟩, ⟨R.fr.ex, R.fr.gro, fun x u h hm => ?_⟩, by simp [R.len], fun j s z => ?_, fun j k d d' q z1 z2 z3 z4 => ?_⟩
  · obtain ⟨a1, u, b1, d1⟩ := R.w.at_ j q d h1 h2
    have hq : q ≠ p := fun z => l.2.1 (z ▸ List.mem_of_getElem? h1)
    exact ⟨a1, u, by rw [upd_ne hq]; exact b1, d1⟩
  · have hq : x ≠ p := fun z => by subst z; rw [b] at h; cases h
    rw [upd_ne hq]; exact R.fr.st x u h hm
  · by_cases hj : i = j
    · subst hj
      rw [List.getElem?_set_self hi] at z; cases z
      exact ⟨p, ev, b, l.1, l.2.1, o', upd_same, k⟩
    · rw [List.getElem?_set_ne hj] at z
      have y := R.at_ j s z
      cases s with
      | own d =>
        obtain ⟨q, y1, y2, y3, y4, u, y5, y6⟩ := y
        have hq : q ≠ p := fun w => by subst w; exact hj (R.ds i j c d q e z ev y1)
        exact ⟨q, y1, y2, y3, y4, u, by rw [upd_ne hq]; exact y5, y6⟩
      | _ => exact y
  · by_cases hj : i = j
    · subst hj
      by_cases hk : i = k
      · exact hk
      · rw [List.getElem?_set_ne hk] at z2
        exact R.ds i k c d' q e z2 z3 z4
    · rw [List.getElem?_set_ne hj] at z1
      by_cases hk : i = k
      · subst hk; exact R.ds j i d c q z1 e z3 z4
      · rw [List.getElem?_set_ne hk] at z2
        exact R.ds j k d d' q z1 z2 z3 z4
/-- a cell is changed -/
theorem Rel.mutCell {i : Nat} {p : Addr} {c' : CO} {o' : HO} (R : Rel K μ F0 H0 F H sl cs σ) (ep : μ[i]? = some p) (k : COk F o' c') : Rel K μ F0 H0 F (upd H p o') sl (cs.set i c') σ := by
  have hm : p ∈ μ := List.mem_of_getElem? ep
  have hi : i < cs.length := by rw [← R.w.len]; exact (List.getElem?_eq_some_iff.mp ep).1
  have np : F p = none := (R.w.there hm).1
  have ne : ∀ b u, F b = some u → b ≠ p := fun b u h z => by subst z; rw [np] at h; cases h
  refine ⟨⟨fun b u h => by rw [upd_ne (ne b u h)]; exact R.w.ex b u h, by simp [R.w.len], R.w.nd, fun j q d h1 h2 => ?_⟩, ⟨R.fr.ex, R.fr.gro, fun x u h hx => ?_⟩, R.len, fun j s z => ?_, R.ds⟩
  · by_cases hj : i = j
    · subst hj
      rw [List.getElem?_set_self hi] at h2; cases h2
      rw [ep] at h1; cases h1
      exact ⟨np, o', upd_same, k⟩
    · rw [List.getElem?_set_ne hj] at h2
      obtain ⟨a1, u, b1, d1⟩ := R.w.at_ j q d h1 h2
      have hq : q ≠ p := fun z => by subst z; exact hj (R.w.nd i j q ep h1)
      exact ⟨a1, u, by rw [upd_ne hq]; exact b1, d1⟩
  · have hq : x ≠ p := fun z => hx (z ▸ hm)
    rw [upd_ne hq]; exact R.fr.st x u h hx
  · have y := R.at_ j s z
    cases s with
    | own d =>
      obtain ⟨q, y1, y2, y3, y4, u, y5, y6⟩ := y
      have hq : q ≠ p := fun w => y4 (w ▸ hm)
      exact ⟨q, y1, y2, y3, y4, u, by rw [upd_ne hq]; exact y5, y6⟩
    | _ => exact y
/-- a slot's own object is frozen -/
def frzS (i : Nat) (sl : List SV) : List SV := match sl[i]? with
  | some (.own c) => sl.set i (.dat c.D)
  | _ => sl
theorem Rel.frz {i : Nat} (R : Rel K μ F0 H0 F H sl cs σ) : ∃ F', Rel K μ F0 H0 F' H (frzS i sl) cs σ := by
  unfold frzS
  split
  · rename_i c e
    obtain ⟨p, a, b, l⟩ := R.at_ i _ e
    obtain ⟨o, w, x, dn, hp⟩ := R.w.freeze l
    have hi : i < sl.length := (List.getElem?_eq_some_iff.mp e).1
    refine ⟨upd F p o, w, ⟨R.fr.ex.trans x, fun q u h => ?_, R.fr.st⟩, by simp [R.len], fun j s z => ?_, fun j k d d' q z1 z2 z3 z4 => ?_⟩
    · by_cases hq : q = p
      · subst hq; exact .inr b
      · rw [upd_ne hq] at h; exact R.fr.gro q u h
    · by_cases hj : i = j
      · subst hj
        rw [List.getElem?_set_self hi] at z; cases z
        exact ⟨_, a, dn⟩
      · rw [List.getElem?_set_ne hj] at z
        have y := R.at_ j s z
        cases s with
        | un => trivial
        | dat d => obtain ⟨v, y1, y2⟩ := y; exact ⟨v, y1, y2.mono x⟩
        | own d =>
          obtain ⟨q, y1, y2, y3, y4, u, y5, y6⟩ := y
          have hq : q ≠ p := fun w => by subst w; exact hj (R.ds i j c d q e z a y1)
          exact ⟨q, y1, y2, by rw [upd_ne hq]; exact y3, y4, u, y5, y6.mono x⟩
        | cell k => exact y
        | scr ns => obtain ⟨q, y1, y2⟩ := y; exact ⟨q, y1, sqL_ex x y2⟩
    · by_cases hj : i = j
      · subst hj; rw [List.getElem?_set_self hi] at z1; cases z1
      · rw [List.getElem?_set_ne hj] at z1
        by_cases hk : i = k
        · subst hk; rw [List.getElem?_set_self hi] at z2; cases z2
        · rw [List.getElem?_set_ne hk] at z2
          exact R.ds j k _ d' q z1 z2 z3 z4
  · exact ⟨F, R⟩
end

/-! ### statements -/
def dNx : FS := fun sl cs => .nx sl cs
def dBk : FS := fun sl cs => .bk sl cs
def dCt : FS := fun sl cs => .ct sl cs
def dBad : FS := fun _ _ => .bad
def dSeq (f g : FS) : FS := fun sl cs => match f sl cs with
  | .nx sl' cs' => g sl' cs'
  | r => r
def dDrop (f : FE) : FS := fun sl cs => (f sl cs).toF fun a => .nx sl a.2
def dRet (f : FE) : FS := fun sl cs => (f sl cs).toF fun a => .rt a.1 a.2
def dRetN : FS := fun _ cs => .rt (.dat .non) cs
def dRetV (i : Nat) : FS := fun sl cs => match sl[i]? with
  | some (.dat d) => .rt (.dat d) cs
  | some (.own c) => .rt (.new c) cs
  | some (.cell k) => .rt (.cell k) cs
  | some (.scr ns) => .rt (.scr ns) cs
  | _ => .bad
def dIfS (t : FT) (f g : FS) : FS := fun sl cs => (t sl cs).toF fun a => if a.1 then f sl a.2 else g sl a.2
def setS (i : Nat) (r : RV) (sl : List SV) : Option (List SV) := if i < sl.length then match r with
  | .dat d => some (sl.set i (.dat d))
  | .new c => some (sl.set i (.own c))
  | .cell k => some (sl.set i (.cell k))
  | .scr ns => some (sl.set i (.scr ns))
  | .own _ => none
  else none
def nxO (o : Option (List SV)) (cs : List CO) : Flw := match o with
  | some sl => .nx sl cs
  | none => .bad
def dAsg (i : Nat) (f : FE) : FS := fun sl cs => (f sl cs).toF fun a => nxO (setS i a.1 sl) a.2
def dPar (i j : Nat) (fa : FA) : FS := fun sl cs => (fa sl cs).toF fun a => match a.1 with
  | [.dat x, .dat y] => match setS i (.dat x) sl with
    | some s1 => nxO (setS j (.dat y) s1) a.2
    | none => .bad
  | _ => .bad
def dFz (i : Nat) (f : FS) : FS := fun sl cs => f (frzS i sl) cs
section
variable {X : Cx} {W : XK} {st : Stmt} {sts : List Stmt} {f g : FS} {fe : FE} {ft : FT} {fa : FA}
theorem ds_nx (h : PS X st tNext) : DS X W st dNx := PS.imp h fun D σ H q => by
  obtain ⟨μ, F0, H0, F, sl, cs, R, o⟩ := q; exact o σ F H R
theorem ds_bk (h : PS X st tBreak) : DS X W st dBk := PS.imp h fun D σ H q => by
  obtain ⟨μ, F0, H0, F, sl, cs, R, o⟩ := q; exact o σ F H R
theorem ds_ct (h : PS X st tCont) : DS X W st dCt := PS.imp h fun D σ H q => by
  obtain ⟨μ, F0, H0, F, sl, cs, R, o⟩ := q; exact o σ F H R
theorem ds_never : DS X W st dBad := PS.imp ps_never fun D σ H q => by
  obtain ⟨μ, F0, H0, F, sl, cs, R, o⟩ := q; exact o
theorem dss_never : DSs X W sts dBad := PSs.imp pss_never fun D σ H q => by
  obtain ⟨μ, F0, H0, F, sl, cs, R, o⟩ := q; exact o
theorem dss_nil : DSs X W [] dNx := PSs.imp pss_nil fun D σ H q => by
  obtain ⟨μ, F0, H0, F, sl, cs, R, o⟩ := q; exact o σ F H R
theorem dss_one (h : DS X W st f) : DSs X W [st] f := pss_one h
theorem dss_cons (h : DS X W st f) (k : DSs X W sts g) : DSs X W (st :: sts) (dSeq f g) := PSs.imp (pss_cons h k) fun D σ H q => by
  obtain ⟨μ, F0, H0, F, sl, cs, R, o⟩ := q
  refine ⟨μ, F0, H0, F, sl, cs, R, ?_⟩
  unfold dSeq at o
  cases e : f sl cs with
  | nx sl' cs' => rw [e] at o; exact fun σ' F' H' R' => ⟨μ, F0, H0, F', sl', cs', R', o⟩
  | rt r c => rw [e] at o; exact o
  | bk a b => rw [e] at o; exact o
  | ct a b => rw [e] at o; exact o
  | exc C fs c => rw [e] at o; exact o
  | bad => rw [e] at o; exact o
theorem dss_frz (i : Nat) (h : DSs X W sts f) : DSs X W sts (dFz i f) := PSs.imp h fun D σ H q => by
  obtain ⟨μ, F0, H0, F, sl, cs, R, o⟩ := q
  obtain ⟨F', R'⟩ := R.frz (i := i)
  exact ⟨μ, F0, H0, F', _, cs, R', o⟩
theorem ds_drop (h : PS X st (tDrop (rdE X.K W fe))) : DS X W st (dDrop fe) := PS.imp h fun D σ H q => by
  obtain ⟨μ, F0, H0, F, sl, cs, R, o⟩ := q
  exact OutS.run_E R o fun r c v F' H' e n w k fv R' o' => o' σ F' H' R'
theorem ds_ret (h : PS X st (tRet (rdE X.K W fe))) : DS X W st (dRet fe) := PS.imp h fun D σ H q => by
  obtain ⟨μ, F0, H0, F, sl, cs, R, o⟩ := q
  refine OutS.run_E R o fun r c v F' H' e n w k fv R' o' => o' v F' H' R'.fr w k ?_
  cases r with
  | new c => exact fun p ep => R.fr.none R.w (fv p ep)
  | _ => trivial
theorem ds_retN (h : PS X st tRetN) : DS X W st dRetN := PS.imp h fun D σ H q => by
  obtain ⟨μ, F0, H0, F, sl, cs, R, o⟩ := q; exact o .non F H R.fr R.w .non trivial
theorem ds_retV {i : Nat} (h : PS X st (tRet (tVar i))) : DS X W st (dRetV i) := PS.imp h fun D σ H q => by
  obtain ⟨μ, F0, H0, F, sl, cs, R, o⟩ := q
  unfold dRetV at o
  cases e : sl[i]? with
  | none => rw [e] at o; exact o.elim
  | some sv =>
    rw [e] at o
    have z := R.at_ i sv e
    cases sv with
    | un => exact o.elim
    | dat d => obtain ⟨x, e1, e2⟩ := z; exact ⟨x, e1, o x F H R.fr R.w e2 trivial⟩
    | own c => obtain ⟨p, e1, h0, e2⟩ := z; exact ⟨_, e1, o _ F H R.fr R.w ⟨p, rfl, e2⟩ fun q z => by cases z; exact h0⟩
    | cell k => obtain ⟨p, e1, e2⟩ := z; exact ⟨_, e1, o _ F H R.fr R.w ⟨p, rfl, e2⟩ trivial⟩
    | scr ns => obtain ⟨p, e1, e2⟩ := z; exact ⟨_, e1, o _ F H R.fr R.w ⟨p, rfl, e2⟩ trivial⟩
theorem ds_if (h : PS X st (tIfS (rdT X.K W ft) (rdS X.K W f) (rdS X.K W g))) : DS X W st (dIfS ft f g) := PS.imp h fun D σ H q => by
  obtain ⟨μ, F0, H0, F, sl, cs, R, o⟩ := q
  refine OutS.run_T R o fun b c F' H' e n w R' o' => ?_
  cases b with
  | true => rw [if_pos rfl]; exact ⟨μ, F0, H0, F', sl, c, R', o'⟩
  | false => rw [if_neg Bool.false_ne_true]; exact ⟨μ, F0, H0, F', sl, c, R', o'⟩
theorem Rel.setS {K : PySem.W.Frag} {μ : List Addr} {F0 H0 F H Hb : Hp} {sl s1 : List SV} {cs : List CO} {σ : L2.St} {i : Nat} {r : RV} {v : V} (R : Rel K μ F0 H0 F H sl cs σ) (k : RvOk K F H μ v r) (fv : ∀ c, r = .new c → ∀ p, v = .ref p → H0 p = none ∧ ∀ (j : Nat) d, sl[j]? = some (.own d) → σ[j]? ≠ some (some (.ref p)))
    (e : DL.setS i r sl = some s1) : Rel K μ F0 H0 F H s1 cs (σ.set i (some v)) := by
  unfold DL.setS at e
  split at e
  · rename_i hi
    cases r with
    | dat d => cases e; exact R.set hi ⟨v, rfl, k⟩ fun c z => by cases z
    | cell j => cases e; obtain ⟨p, rfl, k⟩ := k; exact R.set hi ⟨p, rfl, k⟩ fun c z => by cases z
    | scr ns => cases e; obtain ⟨p, rfl, k⟩ := k; exact R.set hi ⟨p, rfl, k⟩ fun c z => by cases z
    | new c =>
      cases e
      obtain ⟨p, rfl, l⟩ := k
      obtain ⟨h0, hd⟩ := fv c rfl p rfl
      refine R.set hi ⟨p, rfl, h0, l⟩ fun c' z j q d ev e1 e2 => ?_
      cases ev
      exact absurd e2 (hd j d e1)
    | own c => cases e
  · cases e
/-- a new object is none of the slots' own -/
theorem Rel.apart {K : PySem.W.Frag} {μ : List Addr} {F0 H0 F H : Hp} {sl : List SV} {cs : List CO} {σ : L2.St} (R : Rel K μ F0 H0 F H sl cs σ) {p : Addr} (hp : H p = none) : H0 p = none ∧ ∀ (j : Nat) d, sl[j]? = some (.own d) → σ[j]? ≠ some (some (.ref p)) := by
  refine ⟨R.fr.none R.w hp, fun j d e ev => ?_⟩
  obtain ⟨q, a, _, _, _, o, b, _⟩ := R.at_ j _ e
  rw [ev] at a; cases a
  rw [hp] at b; cases b
theorem ds_asg {i : Nat} (h : PS X st (tAsg (rdE X.K W fe) (gName i))) : DS X W st (dAsg i fe) := PS.imp h fun D σ H q => by
  obtain ⟨μ, F0, H0, F, sl, cs, R, o⟩ := q
  refine OutS.run_E R o fun r c v F' H' e n w k fv R' o' => ?_
  dsimp only at o'
  cases z : DL.setS i r sl with
  | none => rw [z] at o'; exact o'.elim
  | some s1 =>
    rw [z] at o'
    refine o' _ F' H' (Rel.setS (Hb := H) R' k (fun c ec p ep => ?_) z)
    subst ec
    exact R.apart (fv p ep)
theorem ds_par {i j : Nat} (h : PS X st (tPar i j (rdA X.K W fa))) : DS X W st (dPar i j fa) := PS.imp h fun D σ H q => by
  obtain ⟨μ, F0, H0, F, sl, cs, R, o⟩ := q
  refine OutS.run_A R o fun rs c vs F' H' e n w k R' o' => ?_
  dsimp only at o'
  split at o'
  · rename_i x y
    cases k with
    | cons k1 k =>
      cases k with
      | cons k2 k =>
        cases k
        refine ⟨_, _, rfl, ?_⟩
        split at o'
        · rename_i s1 z1
          cases z2 : DL.setS j (.dat y) s1 with
          | none => rw [z2] at o'; exact o'.elim
          | some s2 =>
            rw [z2] at o'
            have R1 := Rel.setS (Hb := H) R' k1 (fun c ec => by cases ec) z1
            exact o' _ F' H' (Rel.setS (Hb := H) R1 k2 (fun c ec => by cases ec) z2)
        · exact o'.elim
  · exact o'.elim
end

/-! ### changing one's own list -/
/-- the object that slot i names, changed by g -/
def putO (i : Nat) (c : CO) (sl : List SV) (cs : List CO) : Flw := match sl[i]? with
  | some (.own _) => .nx (sl.set i (.own c)) cs
  | some (.cell k) => .nx sl (cs.set k c)
  | _ => .bad
def getO (i : Nat) (sl : List SV) (cs : List CO) : Option CO := match sl[i]? with
  | some (.own c) => some c
  | some (.cell k) => cs[k]?
  | _ => none
section
variable {K : PySem.W.Frag} {W : XK} {μ : List Addr} {F0 H0 F H : Hp} {sl : List SV} {cs : List CO} {σ : L2.St} {D : Ends}
theorem Rel.getO {i : Nat} {c : CO} (R : Rel K μ F0 H0 F H sl cs σ) (e : DL.getO i sl cs = some c) : ∃ p o, σ[i]? = some (some (.ref p)) ∧ H p = some o ∧ COk F o c := by
  unfold DL.getO at e
  split at e
  · rename_i z; cases e
    obtain ⟨p, a, _, _, _, o, b, k⟩ := R.at_ i _ z
    exact ⟨p, o, a, b, k⟩
  · rename_i k z
    obtain ⟨p, a, b⟩ := R.at_ i _ z
    obtain ⟨_, o, d, k⟩ := R.w.at_ _ p c b e
    exact ⟨p, o, a, d, k⟩
  · cases e
theorem Rel.putO {i : Nat} {p : Addr} {c : CO} {o' : HO} (R : Rel K μ F0 H0 F H sl cs σ) (ev : σ[i]? = some (some (.ref p))) (k : COk F o' c) (o : OutS K W μ F0 H0 D (DL.putO i c sl cs)) : D.nx σ (upd H p o') := by
  unfold DL.putO at o
  split at o
  · rename_i z; exact o σ F _ (R.mut z ev k)
  · rename_i j z
    obtain ⟨q, a, b⟩ := R.at_ i _ z
    rw [ev] at a; cases a
    exact o σ F _ (R.mutCell b k)
  · exact o.elim
end
def dApp (i : Nat) (fa : FA) : FS := fun sl cs => match getO i sl cs with
  | some (.lst _) => (fa sl cs).toF fun a => match a.1, getO i sl a.2 with
    | [.dat d], some (.lst xs) => if xs.length < sizeLine then putO i (.lst (xs ++ [d])) sl a.2 else .bad
    | _, _ => .bad
  | _ => .bad
/-- xs.extend(ys) -/
def dExt (i : Nat) (fa : FA) : FS := fun sl cs => match getO i sl cs with
  | some (.lst _) => (fa sl cs).toF fun a => match a.1, getO i sl a.2 with
    | [.dat (.lst ys)], some (.lst xs) => if xs.length + ys.length ≤ sizeLine then putO i (.lst (xs ++ ys)) sl a.2 else .bad
    | _, _ => .bad
  | _ => .bad
/-- xs.pop() as a statement -/
def dPop (i : Nat) : FS := fun sl cs => match getO i sl cs with
  | some (.lst xs) => if xs.isEmpty then .bad else putO i (.lst xs.dropLast) sl cs
  | _ => .bad
/-- xs[j] = e -/
def dSetIx (i : Nat) (fe fj : FE) : FS := fun sl cs => (dFrz fe sl cs).toF fun a => match a.1 with
  | .dat d => match getO i sl a.2 with
    | some _ => (fj sl a.2).toF fun b => match b.1, getO i sl b.2 with
      | .dat (.int j), some (.lst xs) => match ixN xs.length j with
        | some n => putO i (.lst (xs.set n d)) sl b.2
        | none => .bad
      | _, _ => .bad
    | none => .bad
  | _ => .bad
section
variable {X : Cx} {W : XK} {st : Stmt} {fe fj : FE} {fa : FA} {i : Nat}
theorem ds_app (h : PS X st (tDrop (tBM X.K "list" rAppend (tVar i) (rdA X.K W fa)))) : DS X W st (dApp i fa) := PS.imp h fun D σ H q => by
  obtain ⟨μ, F0, H0, F, sl, cs, R, o⟩ := q
  unfold dApp at o
  split at o
  · rename_i xs0 e0
    obtain ⟨p, ho, ev, hp, k⟩ := R.getO e0
    cases ho <;> first | exact k.elim | skip
    refine ⟨_, ev, .inl ⟨rfl, _, SqL.of hp⟩, ?_⟩
    refine OutS.run_A R o fun rs c vs F' H' e n w k' R' o' => ?_
    dsimp only at o'
    split at o'
    · rename_i rs' d xs e2
      split at o'
      · rename_i hl
        cases k' with
        | cons kd kn =>
          cases kn
          obtain ⟨p2, ho2, ev2, hp2, k2⟩ := R'.getO e2
          rw [ev] at ev2; cases ev2
          cases ho2 <;> first | exact k2.elim | skip
          rename_i ys
          have k3 : DenAll F' ys xs := k2
          exact ⟨p, ys, _, rfl, rfl, hp2, by rw [k3.length]; exact hl, R'.putO (c := .lst (xs ++ [d])) (o' := .lst (ys ++ [_])) ev (k3.append (.cons kd .nil)) o'⟩
      · exact o'.elim
    · exact o'.elim
  · exact o.elim
theorem ds_pop (h : PS X st (tDrop (tBM0 X.K "list" rPop (tVar i)))) : DS X W st (dPop i) := PS.imp h fun D σ H q => by
  obtain ⟨μ, F0, H0, F, sl, cs, R, o⟩ := q
  unfold dPop at o
  split at o
  · rename_i xs e0
    obtain ⟨p, ho, ev, hp, k⟩ := R.getO e0
    cases ho <;> first | exact k.elim | skip
    rename_i ys
    have k3 : DenAll F ys xs := k
    split at o
    · exact o.elim
    · rename_i ne
      have hy : ys.length - 1 < ys.length := by
        have : xs ≠ [] := fun z => ne (by rw [z]; rfl)
        have h2 := List.length_pos_iff.mpr this
        rw [k3.length]; omega
      refine ⟨_, ev, .inl ⟨rfl, _, SqL.of hp⟩, p, ys, ys[ys.length - 1], rfl, rfl, hp, List.getElem?_eq_getElem hy, ?_⟩
      exact R.putO (c := .lst xs.dropLast) (o' := .lst ys.dropLast) ev k3.dropLast o
  · exact o.elim
theorem ds_setix (h : PS X st (tAsg (rdE X.K W (dFrz fe)) (L2.gSub (tVar i) (rdE X.K W fj) rSetL))) : DS X W st (dSetIx i fe fj) := PS.imp h fun D σ H q => by
  obtain ⟨μ, F0, H0, F, sl, cs, R, o⟩ := q
  refine OutS.run_E R o fun r c v F1 H1 e n w k fv R1 o1 => ?_
  dsimp only at o1
  split at o1
  · rename_i d
    split at o1
    · rename_i co e0
      obtain ⟨p, ho, ev, hp, k0⟩ := R1.getO e0
      refine ⟨_, ev, ?_⟩
      refine OutS.run_E R1 o1 fun r2 c2 v2 F2 H2 e2 n2 w2 k2 fv2 R2 o2 => ?_
      dsimp only at o2
      split at o2
      · rename_i j xs e3
        obtain ⟨p3, ho3, ev3, hp3, k3⟩ := R2.getO e3
        rw [ev] at ev3; cases ev3
        cases ho3 <;> first | exact k3.elim | skip
        rename_i ys
        have k4 : DenAll F2 ys xs := k3
        have k5 : Den F2 v2 (.int j) := k2
        cases k5
        split at o2
        · rename_i m em
          exact ⟨p, ys, j, m, rfl, rfl, hp3, by rw [k4.length]; exact em, R2.putO (c := .lst (xs.set m d)) (o' := .lst (ys.set m v)) ev (k4.set (Den.mono n2.ex (show Den F1 v d from k)) m) o2⟩
        · exact o2.elim
      · exact o2.elim
    · exact o1.elim
  · exact o1.elim
end

/-! ### loops -/
/-- an iterator that yields these data -/
def IterOk (J : It) (F0 : Hp) (ds : List D) : Prop := ∀ F H cs μ, Ex F0 F → Wok F H μ cs → ∀ i : Nat,
  (i < ds.length → J.go i H ∧ ∀ x H', J.yld i H x H' → ∃ F', Nx μ F H F' H' ∧ Wok F' H' μ cs ∧ ∃ d, ds[i]? = some d ∧ Den F' x d) ∧ (ds.length ≤ i → J.stop i H)
abbrev FI := List SV → List CO → Res (List D × List CO)
def OutI (W : XK) (μ : List Addr) (F H : Hp) (Rr : It → Hp → Prop) : Res (List D × List CO) → Prop
  | .ok (ds, cs') => ∀ J F' H', Nx μ F H F' H' → Wok F' H' μ cs' → IterOk J F' ds → Rr J H'
  | .exc C fs cs' => Raised μ F H W C fs cs'
  | .bad => False
def rdI (K : PySem.W.Frag) (W : XK) (f : FI) : TI := fun σ H Rr => ∃ μ F0 H0 F sl cs, Rel K μ F0 H0 F H sl cs σ ∧ OutI W μ F H Rr (f sl cs)
abbrev DI (X : Cx) (W : XK) (tg iter : Expr) (f : FI) : Prop := PI X tg iter (rdI X.K W f)
theorem PI.imp {X : Cx} {tg e : Expr} {t t' : TI} (h : PI X tg e t) (i : ∀ σ H R, t' σ H R → t σ H R) : PI X tg e t' := ⟨fun p s σ H R I q => h.run p s σ H R I (i σ H R q)⟩
/-- a target -/
abbrev FG := D → List SV → Option (List SV)
def rdG (K : PySem.W.Frag) (t : FG) : TG := fun v σ H Q => ∃ μ F0 H0 F sl cs d s1, Rel K μ F0 H0 F H sl cs σ ∧ Den F v d ∧ t d sl = some s1 ∧ ∀ σ', Rel K μ F0 H0 F H s1 cs σ' → Q σ' H
abbrev DG (X : Cx) (tg : Expr) (t : FG) : Prop := PG X tg (rdG X.K t)
theorem PG.imp {X : Cx} {e : Expr} {t t' : TG} (h : PG X e t) (i : ∀ v σ H Q, t' v σ H Q → t v σ H Q) : PG X e t' := ⟨fun p s σ H v u Q I r q => h.run p s σ H v u Q I r (i v σ H Q q)⟩
def tgN (i : Nat) : FG := fun d sl => setS i (.dat d) sl
theorem dg_name {X : Cx} {e : Expr} {i : Nat} (h : PG X e (gName i)) : DG X e (tgN i) := PG.imp h fun v σ H Q q => by
  obtain ⟨μ, F0, H0, F, sl, cs, d, s1, R, k, e, o⟩ := q
  exact o _ (Rel.setS (Hb := H) (r := .dat d) R k (fun c ec => by cases ec) e)
def tgAll : List Nat → List D → List SV → Option (List SV)
  | [], [], sl => some sl
  | i :: is, d :: ds, sl => match setS i (.dat d) sl with
    | some s1 => tgAll is ds s1
    | none => none
  | _, _, _ => none
def tgT (is : List Nat) : FG := fun d sl => match d with
  | .tup ds => tgAll is ds sl
  | _ => none
/-- the targets one by one -/
def gAll : List Nat → TGs
  | [] => gNil
  | i :: is => gCons (gName i) (gAll is)
theorem gAll_run {K : PySem.W.Frag} {μ : List Addr} {F0 H0 F H : Hp} {cs : List CO} {Q : L2.St → Hp → Prop} : ∀ {is : List Nat} {ds : List D} {vs : List V} {sl s1 : List SV} {σ : L2.St}, Rel K μ F0 H0 F H sl cs σ → DenAll F vs ds → tgAll is ds sl = some s1 → (∀ σ', Rel K μ F0 H0 F H s1 cs σ' → Q σ' H) → gAll is vs σ H Q
  | [], ds, vs, sl, s1, σ, R, k, e, o => by
    cases k with
    | nil => cases e; exact ⟨rfl, o σ R⟩
    | cons _ _ => cases e
  | i :: is, ds, vs, sl, s1, σ, R, k, e, o => by
    cases k with
    | nil => cases e
    | cons k1 k2 =>
      unfold tgAll at e
      split at e
      · rename_i s2 e2
        exact ⟨_, _, rfl, gAll_run (Rel.setS (Hb := H) (r := .dat _) R k1 (fun c ec => by cases ec) e2) k2 e o⟩
      · cases e
theorem tgAll_len : ∀ {is : List Nat} {ds : List D} {sl s1 : List SV}, tgAll is ds sl = some s1 → ds.length = is.length
  | [], [], _, _, _ => rfl
  | [], _ :: _, _, _, e => by cases e
  | _ :: _, [], _, _, e => by cases e
  | i :: is, d :: ds, sl, s1, e => by
    unfold tgAll at e
    split at e
    · simp [tgAll_len e]
    · cases e
theorem dg_tup {X : Cx} {e : Expr} {is : List Nat} (h : PG X e (gTup X.K is.length (gAll is))) : DG X e (tgT is) := PG.imp h fun v σ H Q q => by
  obtain ⟨μ, F0, H0, F, sl, cs, d, s1, R, k, e, o⟩ := q
  cases d with
  | tup ds =>
    cases k with
    | tup h1 h2 => exact ⟨_, _, rfl, SqT.of (R.w.ex _ _ h1), by rw [h2.length]; exact tgAll_len e, gAll_run R h2 e o⟩
  | _ => cases e
/-- a, b = e: a tuple's items stored -/
def dUnp (t : FG) (f : FE) : FS := fun sl cs => (dFrz f sl cs).toF fun a => match a.1 with
  | .dat d => nxO (t d sl) a.2
  | _ => .bad
theorem ds_unp {X : Cx} {W : XK} {st : Stmt} {t : FG} {f : FE} (h : PS X st (tAsg (rdE X.K W (dFrz f)) (rdG X.K t))) : DS X W st (dUnp t f) := PS.imp h fun D σ H q => by
  obtain ⟨μ, F0, H0, F, sl, cs, R, o⟩ := q
  refine OutS.run_E R o fun r c v F1 H1 e n w k fv R1 o1 => ?_
  dsimp only at o1
  split at o1
  · rename_i d
    cases z : t d sl with
    | none => rw [z] at o1; exact o1.elim
    | some s1 => rw [z] at o1; exact ⟨μ, F0, H0, F1, sl, c, d, s1, R1, k, z, fun σ' R' => o1 σ' F1 H1 R'⟩
  · exact o1.elim
def loopF (t : FG) (body : FS) : List D → List SV → List CO → Flw
  | [], sl, cs => .nx sl cs
  | d :: ds, sl, cs => match t d sl with
    | none => .bad
    | some s1 => match body s1 cs with
      | .nx s2 c2 => loopF t body ds s2 c2
      | .ct s2 c2 => loopF t body ds s2 c2
      | .bk s2 c2 => .nx s2 c2
      | .rt r c => .rt r c
      | .exc C fs c => .exc C fs c
      | .bad => .bad
def dFor (fi : FI) (t : FG) (body : FS) : FS := fun sl cs => (fi sl cs).toF fun a => loopF t body a.1 sl a.2
theorem ds_for {X : Cx} {W : XK} {st : Stmt} {fi : FI} {t : FG} {body : FS} (h : PS X st (tFor (rdI X.K W fi) (rdG X.K t) (rdS X.K W body))) : DS X W st (dFor fi t body) := PS.imp h fun D σ H q => by
  obtain ⟨μ, F0, H0, F, sl, cs, R, o⟩ := q
  refine ⟨μ, F0, H0, F, sl, cs, R, ?_⟩
  unfold dFor at o
  cases e : fi sl cs with
  | exc C fs c => rw [e] at o; exact Raised.entry o R.fr R.w
  | bad => rw [e] at o; exact o.elim
  | ok a =>
    obtain ⟨ds, c1⟩ := a
    rw [e] at o
    intro J F1 H1 n1 w1 it
    have R1 := R.step n1 w1
    have o' : OutS X.K W μ F1 H0 D (loopF t body ds sl c1) := OutS.gh R1.fr o
    refine ⟨fun i m σ' H' => i + m = ds.length ∧ ∃ F' sl' cs', Rel X.K μ F1 H0 F' H' sl' cs' σ' ∧ OutS X.K W μ F1 H0 D (loopF t body (ds.drop i) sl' cs'), ⟨ds.length, Nat.zero_add _, F1, sl, c1, R1.gh, o'⟩, ?_⟩
    rintro i m σ2 H2 ⟨him, F2, s2, c2, R2, o2⟩
    obtain ⟨ig, is⟩ := it F2 H2 c2 μ R2.fr.ex R2.w i
    by_cases hi : i < ds.length
    · refine .inr ⟨(ig hi).1, fun σ' H' => i + 1 + (m - 1) = ds.length ∧ ∃ F' sl' cs', Rel X.K μ F1 H0 F' H' sl' cs' σ' ∧ OutS X.K W μ F1 H0 D (loopF t body (ds.drop (i + 1)) sl' cs'), fun σ' H' w => ⟨m - 1, by omega, w⟩, ?_⟩
      intro x H3 y
      obtain ⟨F3, n3, w3, d, ed, kd⟩ := (ig hi).2 x H3 y
      have R3 := R2.step n3 w3
      have hd : ds.drop i = d :: ds.drop (i + 1) := by
        rw [List.drop_eq_getElem_cons hi]
        rw [List.getElem?_eq_getElem hi] at ed
        cases ed; rfl
      rw [hd] at o2
      unfold loopF at o2
      split at o2
      · exact o2.elim
      · rename_i s3 e3
        refine ⟨μ, F1, H0, F3, s2, c2, d, s3, R3, kd, e3, fun σ4 R4 => ⟨μ, F1, H0, F3, s3, c2, R4, ?_⟩⟩
        split at o2 <;> rename_i e4 <;> rw [e4]
        · exact fun σ5 F5 H5 R5 => ⟨by omega, F5, _, _, R5, o2⟩
        · exact fun σ5 F5 H5 R5 => ⟨by omega, F5, _, _, R5, o2⟩
        · exact o2
        · exact o2
        · exact o2
        · exact o2
    · refine .inl ⟨is (by omega), ?_⟩
      rw [List.drop_eq_nil_of_le (by omega)] at o2
      exact o2 σ2 F2 H2 R2
def whileF (t : FT) (body : FS) : Nat → List SV → List CO → Flw
  | 0, _, _ => .bad
  | n + 1, sl, cs => (t sl cs).toF fun a => if a.1 then match body sl a.2 with
      | .nx s2 c2 => whileF t body n s2 c2
      | .ct s2 c2 => whileF t body n s2 c2
      | .bk s2 c2 => .nx s2 c2
      | .rt r c => .rt r c
      | .exc C fs c => .exc C fs c
      | .bad => .bad
    else .nx sl a.2
/-- with at most n turns -/
def dWhile (n : Nat) (t : FT) (body : FS) : FS := fun sl cs => whileF t body n sl cs
theorem ds_while {X : Cx} {W : XK} {st : Stmt} {t : FT} {body : FS} (n : Nat) (h : PS X st (tWhile (rdT X.K W t) (rdS X.K W body))) : DS X W st (dWhile n t body) := PS.imp h fun D σ H q => by
  obtain ⟨μ, F0, H0, F, sl, cs, R, o⟩ := q
  refine ⟨fun m σ' H' => ∃ F' sl' cs', Rel X.K μ F0 H0 F' H' sl' cs' σ' ∧ OutS X.K W μ F0 H0 D (whileF t body m sl' cs'), ⟨n, F, sl, cs, R, o⟩, ?_⟩
  rintro m σ2 H2 ⟨F2, s2, c2, R2, o2⟩
  cases m with
  | zero => exact o2.elim
  | succ m =>
    refine OutS.run_T R2 o2 fun b c F3 H3 e n3 w3 R3 o3 => ?_
    cases b with
    | false => rw [if_neg Bool.false_ne_true]; exact o3 σ2 F3 H3 R3
    | true =>
      rw [if_pos rfl]
      refine ⟨fun σ' H' => ∃ F' sl' cs', Rel X.K μ F0 H0 F' H' sl' cs' σ' ∧ OutS X.K W μ F0 H0 D (whileF t body m sl' cs'), fun σ' H' w => ⟨m, Nat.lt_succ_self m, w⟩, μ, F0, H0, F3, s2, c, R3, ?_⟩
      have o4 : OutS X.K W μ F0 H0 D (match body s2 c with
        | .nx s2 c2 => whileF t body m s2 c2
        | .ct s2 c2 => whileF t body m s2 c2
        | .bk s2 c2 => .nx s2 c2
        | .rt r c => .rt r c
        | .exc C fs c => .exc C fs c
        | .bad => .bad) := o3
      split at o4 <;> rename_i e4 <;> rw [e4]
      · exact fun σ5 F5 H5 R5 => ⟨F5, _, _, R5, o4⟩
      · exact fun σ5 F5 H5 R5 => ⟨F5, _, _, R5, o4⟩
      · exact o4
      · exact o4
      · exact o4
      · exact o4
end DL

/-! DLh: what is walked; comprehensions; slices. -/
namespace DL
open PySem L2

def one (c : Nat) : D := .str ⟨#[c]⟩
/-- the items of a list, a tuple, a text -/
def itemsOf (f : FE) : FI := fun sl cs => (dFrz f sl cs).then fun a => match a.1 with
  | .dat (.lst ds) => .ok (ds, a.2)
  | .dat (.tup ds) => .ok (ds, a.2)
  | .dat (.str z) => .ok (z.cps.toList.map one, a.2)
  | _ => .bad
def rngL (lo : Int) (n : Nat) : List D := (List.range n).map fun i => .int (lo + (i : Nat))
def rng1 (fa : FA) : FI := fun sl cs => (fa sl cs).then fun a => match a.1 with
  | [.dat (.int j)] => if -(2 ^ 62) ≤ j ∧ j < 2 ^ 62 then .ok (rngL 0 j.toNat, a.2) else .bad
  | _ => .bad
def rng2 (fa : FA) : FI := fun sl cs => (fa sl cs).then fun a => match a.1 with
  | [.dat (.int i), .dat (.int j)] => if -(2 ^ 62) ≤ i ∧ i < 2 ^ 62 ∧ -(2 ^ 62) ≤ j ∧ j < 2 ^ 62 then .ok (rngL i (j - i).toNat, a.2) else .bad
  | _ => .bad
def rngC (lo c : Int) (n : Nat) : List D := (List.range n).map fun i => .int (lo + (i : Nat) * c)
def rng3 (fa : FA) : FI := fun sl cs => (fa sl cs).then fun a => match a.1 with
  | [.dat (.int i), .dat (.int j), .dat (.int c)] => if c ≠ 0 ∧ c.natAbs < 1073741824 ∧ Builtin.Range.small i j c = true ∧ 0 ≤ Builtin.Range.rangeSize i j c then .ok (rngC i c (Builtin.Range.rangeSize i j c).toNat, a.2) else .bad
  | _ => .bad
def enumL : Nat → List D → List D
  | _, [] => []
  | i, d :: ds => .tup [.int (i : Nat), d] :: enumL (i + 1) ds
def enumF (fa : FA) : FI := fun sl cs => (fa sl cs).then fun a => match a.1 with
  | [.dat (.lst ds)] => .ok (enumL 0 ds, a.2)
  | _ => .bad
def zipL : List D → List D → List D
  | a :: as, b :: bs => .tup [a, b] :: zipL as bs
  | _, _ => []
def zipF (fa : FA) : FI := fun sl cs => (fa sl cs).then fun a => match a.1 with
  | [.dat (.lst ds), .dat (.lst es)] => .ok (zipL ds es, a.2)
  | _ => .bad
section
variable {F F0 H H0 F' H' : Hp} {μ : List Addr} {cs : List CO}
/-- a new tuple laid and frozen -/
theorem Wok.tup (w : Wok F H μ cs) {p : Addr} {o : HO} (hp : H p = none) : Wok (upd F p o) (upd H p o) μ cs ∧ Nx μ F H (upd F p o) (upd H p o) := by
  have nf : F p = none := by
    cases e : F p with
    | none => rfl
    | some u => have := w.ex p u e; rw [hp] at this; cases this
  have nm : p ∉ μ := fun z => by obtain ⟨_, o, e⟩ := w.there z; rw [hp] at e; cases e
  have x : Ex F (upd F p o) := fun q u h => by rw [upd_ne (ne_of_none h nf)]; exact h
  refine ⟨⟨fun b u h => ?_, w.len, w.nd, fun i q c h1 h2 => ?_⟩, ⟨x, fun b u h => ?_, fun b u h _ => ?_⟩⟩
  · by_cases hb : b = p
    · subst hb; rw [upd_same] at h; rw [upd_same]; exact h
    · rw [upd_ne hb] at h; rw [upd_ne hb]; exact w.ex b u h
  · obtain ⟨a1, u, b1, d1⟩ := w.at_ i q c h1 h2
    have hq : q ≠ p := fun z => nm (z ▸ List.mem_of_getElem? h1)
    exact ⟨by rw [upd_ne hq]; exact a1, u, by rw [upd_ne hq]; exact b1, d1.mono x⟩
  · by_cases hb : b = p
    · subst hb; exact .inr hp
    · rw [upd_ne hb] at h; exact .inl h
  · rw [upd_ne (ne_of_none h hp)]; exact h
theorem it_list {K : PySem.W.Frag} {a : Addr} {vs : List V} {ds : List D} (h : F0 a = some (.lst vs)) (k : DenAll F0 vs ds) : IterOk (Itl K a) F0 ds := by
  intro F H cs μ x w i
  have hH : H a = some (.lst vs) := w.ex _ _ (x _ _ h)
  refine ⟨fun hi => ?_, fun hi => ⟨vs, SqL.of hH, by rw [k.length]; exact hi⟩⟩
  obtain ⟨v, ev, dv⟩ := k.get (List.getElem?_eq_getElem hi)
  refine ⟨⟨vs, v, SqL.of hH, ev⟩, ?_⟩
  rintro y H' ⟨rfl, q⟩
  have e2 := q vs (SqL.of hH)
  rw [ev] at e2; cases e2
  exact ⟨F, .refl, w, _, List.getElem?_eq_getElem hi, dv.mono x⟩
theorem it_tup {K : PySem.W.Frag} {a : Addr} {vs : List V} {ds : List D} (h : F0 a = some (.tup vs)) (k : DenAll F0 vs ds) : IterOk (Itt K a) F0 ds := by
  intro F H cs μ x w i
  have hH : H a = some (.tup vs) := w.ex _ _ (x _ _ h)
  refine ⟨fun hi => ?_, fun hi => ⟨vs, SqT.of hH, by rw [k.length]; exact hi⟩⟩
  obtain ⟨v, ev, dv⟩ := k.get (List.getElem?_eq_getElem hi)
  refine ⟨⟨vs, v, SqT.of hH, ev⟩, ?_⟩
  rintro y H' ⟨rfl, q⟩
  have e2 := q vs (SqT.of hH)
  rw [ev] at e2; cases e2
  exact ⟨F, .refl, w, _, List.getElem?_eq_getElem hi, dv.mono x⟩
theorem it_str {z : Str} : IterOk (Its z) F0 (z.cps.toList.map one) := by
  intro F H cs μ x w i
  refine ⟨fun hi => ⟨show i < z.cps.size by simpa using hi, ?_⟩, fun hi => show z.cps.size ≤ i by simpa using hi⟩
  rintro y H' ⟨rfl, c, ec, rfl⟩
  refine ⟨F, .refl, w, one c, ?_, .str _⟩
  rw [List.getElem?_map]
  simp [ec]
theorem it_rng {lo : Int} {n : Nat} : IterOk (Itr lo n) F0 (rngL lo n) := by
  intro F H cs μ x w i
  refine ⟨fun hi => ?_, fun hi => show n ≤ i by simpa [rngL] using hi⟩
  have hi' : i < n := by simpa [rngL] using hi
  refine ⟨hi', ?_⟩
  rintro y H' ⟨rfl, rfl⟩
  exact ⟨F, .refl, w, .int (lo + (i : Nat)), by simp [rngL, List.getElem?_map, List.getElem?_range hi'], .int _⟩
theorem it_rngC {lo c : Int} {n : Nat} : IterOk (Itc lo c n) F0 (rngC lo c n) := by
  intro F H cs μ x w i
  refine ⟨fun hi => ?_, fun hi => show n ≤ i by simpa [rngC] using hi⟩
  have hi' : i < n := by simpa [rngC] using hi
  refine ⟨hi', ?_⟩
  rintro y H' ⟨rfl, rfl⟩
  exact ⟨F, .refl, w, .int (lo + (i : Nat) * c), by simp [rngC, List.getElem?_map, List.getElem?_range hi'], .int _⟩
theorem enumL_get : ∀ (ds : List D) (k i : Nat), (enumL k ds)[i]? = ds[i]?.map fun d => .tup [.int ((k + i : Nat) : Int), d]
  | [], k, i => by simp [enumL]
  | d :: ds, k, 0 => by simp [enumL]
  | d :: ds, k, i + 1 => by simp only [enumL, List.getElem?_cons_succ, enumL_get ds (k + 1) i]; rw [show k + 1 + i = k + (i + 1) by omega]
theorem enumL_len : ∀ (ds : List D) (k : Nat), (enumL k ds).length = ds.length
  | [], _ => rfl
  | d :: ds, k => by simp [enumL, enumL_len ds]
theorem it_enum {K : PySem.W.Frag} {a : Addr} {vs : List V} {ds : List D} (h : F0 a = some (.lst vs)) (k : DenAll F0 vs ds) : IterOk (Ite K a) F0 (enumL 0 ds) := by
  intro F H cs μ x w i
  have hH : H a = some (.lst vs) := w.ex _ _ (x _ _ h)
  rw [enumL_len]
  refine ⟨fun hi => ?_, fun hi => ⟨vs, SqL.of hH, by rw [k.length]; exact hi⟩⟩
  obtain ⟨v, ev, dv⟩ := k.get (List.getElem?_eq_getElem hi)
  refine ⟨⟨vs, v, SqL.of hH, ev⟩, ?_⟩
  rintro y H' ⟨T, u, rfl, hT, rfl, q⟩
  have e2 := q vs (SqL.of hH)
  rw [ev] at e2; cases e2
  obtain ⟨w2, n2⟩ := w.tup (o := .tup [.int (i : Nat), v]) hT
  refine ⟨_, n2, w2, .tup [.int (i : Nat), ds[i]], ?_, .tup upd_same (.cons (.int _) (.cons ((dv.mono x).mono n2.ex) .nil))⟩
  rw [enumL_get, List.getElem?_eq_getElem hi]
  simp
theorem zipL_get : ∀ (as bs : List D) (i : Nat), (zipL as bs)[i]? = match as[i]?, bs[i]? with
    | some a, some b => some (.tup [a, b])
    | _, _ => none
  | [], bs, i => by simp [zipL]
  | a :: as, [], i => by
    cases h : (a :: as)[i]? <;> simp [zipL]
  | a :: as, b :: bs, 0 => by simp [zipL]
  | a :: as, b :: bs, i + 1 => by simp only [zipL, List.getElem?_cons_succ, zipL_get as bs i]
theorem zipL_len : ∀ (as bs : List D), (zipL as bs).length = min as.length bs.length
  | [], bs => by simp [zipL]
  | a :: as, [] => by simp [zipL]
  | a :: as, b :: bs => by simp only [zipL, List.length_cons, zipL_len as bs]; omega
theorem it_zip {K : PySem.W.Frag} {a b : Addr} {vs us : List V} {ds es : List D} (h : F0 a = some (.lst vs)) (k : DenAll F0 vs ds) (h' : F0 b = some (.lst us)) (k' : DenAll F0 us es) : IterOk (Itz K a b) F0 (zipL ds es) := by
  intro F H cs μ x w i
  have hA : H a = some (.lst vs) := w.ex _ _ (x _ _ h)
  have hB : H b = some (.lst us) := w.ex _ _ (x _ _ h')
  rw [zipL_len]
  refine ⟨fun hi => ?_, fun hi => ⟨vs, us, SqL.of hA, SqL.of hB, by rw [k.length, k'.length]; omega⟩⟩
  have h1 : i < ds.length := by omega
  have h2 : i < es.length := by omega
  obtain ⟨v, ev, dv⟩ := k.get (List.getElem?_eq_getElem h1)
  obtain ⟨u, eu, du⟩ := k'.get (List.getElem?_eq_getElem h2)
  refine ⟨⟨vs, us, v, u, SqL.of hA, SqL.of hB, ev, eu⟩, ?_⟩
  rintro y H' ⟨T, v', u', rfl, hT, rfl, q1, q2⟩
  have e1 := q1 vs (SqL.of hA)
  have e2 := q2 us (SqL.of hB)
  rw [ev] at e1; cases e1
  rw [eu] at e2; cases e2
  obtain ⟨w2, n2⟩ := w.tup (o := .tup [v, u]) hT
  refine ⟨_, n2, w2, .tup [ds[i], es[i]], ?_, .tup upd_same (.cons ((dv.mono x).mono n2.ex) (.cons ((du.mono x).mono n2.ex) .nil))⟩
  rw [zipL_get, List.getElem?_eq_getElem h1, List.getElem?_eq_getElem h2]
end
section
variable {K : PySem.W.Frag} {W : XK} {μ : List Addr} {F0 H0 F H : Hp} {sl : List SV} {cs : List CO} {σ : L2.St}
theorem OutI.run_E {f : FE} {k : RV × List CO → Res (List D × List CO)} {Rr : It → Hp → Prop} {Q' : VK} (R : Rel K μ F0 H0 F H sl cs σ) (o : OutI W μ F H Rr ((f sl cs).then k))
    (h : ∀ r c v F' H', f sl cs = .ok (r, c) → Nx μ F H F' H' → Wok F' H' μ c → RvOk K F' H' μ v r → Rel K μ F0 H0 F' H' sl c σ → OutI W μ F H Rr (k (r, c)) → Q' v H') : rdE K W f σ H Q' := by
  refine ⟨μ, F0, H0, F, sl, cs, R, ?_⟩
  cases e : f sl cs with
  | ok a => obtain ⟨r, c⟩ := a; rw [e] at o; exact fun v F' H' n w k fv => h r c v F' H' e n w k (R.step n w) o
  | exc C fs c => rw [e] at o; exact o
  | bad => rw [e] at o; exact o.elim
theorem OutI.run_A {f : FA} {k : List RV × List CO → Res (List D × List CO)} {Rr : It → Hp → Prop} {Q' : List V → Hp → Prop} (R : Rel K μ F0 H0 F H sl cs σ) (o : OutI W μ F H Rr ((f sl cs).then k))
    (h : ∀ r c v F' H', f sl cs = .ok (r, c) → Nx μ F H F' H' → Wok F' H' μ c → RvAll K F' H' μ v r → Rel K μ F0 H0 F' H' sl c σ → OutI W μ F H Rr (k (r, c)) → Q' v H') : rdA K W f σ H Q' := by
  refine ⟨μ, F0, H0, F, sl, cs, R, ?_⟩
  cases e : f sl cs with
  | ok a => obtain ⟨r, c⟩ := a; rw [e] at o; exact fun v F' H' n w k => h r c v F' H' e n w k (R.step n w) o
  | exc C fs c => rw [e] at o; exact o
  | bad => rw [e] at o; exact o.elim
end
section
variable {X : Cx} {W : XK} {tg e e2 : Expr} {f : FE} {fa : FA} {p pos tpos : Pos}
theorem di_iter (h : DE X W e f) : DI X W tg e (itemsOf f) := by
  constructor
  intro pins s σ H Rr I q
  have hz := de_frz h
  obtain ⟨μ, F0, H0, F, sl, cs, R, o⟩ := q
  cases z : dFrz f sl cs with
  | exc C fs c =>
    unfold itemsOf at o; rw [z] at o
    exact (pi_list (tg := tg) hz).run pins s σ H Rr I ⟨μ, F0, H0, F, sl, cs, R, by rw [z]; exact o⟩
  | bad => unfold itemsOf at o; rw [z] at o; exact o.elim
  | ok a =>
    obtain ⟨r, c⟩ := a
    have o' := o
    unfold itemsOf at o'
    rw [z] at o'
    cases r with
    | dat d =>
      cases d with
      | lst ds =>
        refine (pi_list (tg := tg) hz).run pins s σ H Rr I (OutI.run_E R o fun r c v F' H' e1 n w k R' o1 => ?_)
        rw [z] at e1; cases e1
        have k' : Den F' v (.lst ds) := k
        cases k' with
        | lst h1 h2 => exact ⟨_, rfl, ⟨_, SqL.of (w.ex _ _ h1)⟩, o1 _ F' H' n w (it_list h1 h2)⟩
      | tup ds =>
        refine (pi_tup (tg := tg) hz).run pins s σ H Rr I (OutI.run_E R o fun r c v F' H' e1 n w k R' o1 => ?_)
        rw [z] at e1; cases e1
        have k' : Den F' v (.tup ds) := k
        cases k' with
        | tup h1 h2 => exact ⟨_, rfl, ⟨_, SqT.of (w.ex _ _ h1)⟩, o1 _ F' H' n w (it_tup h1 h2)⟩
      | str x =>
        refine (pi_str (tg := tg) hz).run pins s σ H Rr I (OutI.run_E R o fun r c v F' H' e1 n w k R' o1 => ?_)
        rw [z] at e1; cases e1
        have k' : Den F' v (.str x) := k
        cases k'
        exact ⟨_, rfl, o1 _ F' H' n w it_str⟩
      | _ => exact o'.elim
    | _ => exact o'.elim
theorem di_range1 {a : Expr} (hg : Gl X "range") (hm : X.mg "range" = none) (ha : DA X W [a] fa) (hs : starEach [a] X.env = [(false, eval a X.env)] := by rfl) : DI X W tg (.Call (.Name "range" p) [a] [] pos) (rng1 fa) :=
  PI.imp (pi_range1 hg hm ha hs) fun σ H Rr q => by
    obtain ⟨μ, F0, H0, F, sl, cs, R, o⟩ := q
    refine OutI.run_A R o fun rs c vs F' H' e1 n w k R' o1 => ?_
    dsimp only at o1
    split at o1
    · split at o1
      · rename_i j hb
        cases k with
        | cons k1 k2 =>
          cases k2
          have k' : Den F' _ (.int j) := k1
          cases k'
          exact ⟨j, rfl, hb.1, hb.2, o1 _ F' H' n w it_rng⟩
      · exact o1.elim
    · exact o1.elim
theorem di_range2 {a b : Expr} (hg : Gl X "range") (hm : X.mg "range" = none) (ha : DA X W [a, b] fa) (hs : starEach [a, b] X.env = [(false, eval a X.env), (false, eval b X.env)] := by rfl) (hs2 : starEach [b] X.env = [(false, eval b X.env)] := by rfl) : DI X W tg (.Call (.Name "range" p) [a, b] [] pos) (rng2 fa) :=
  PI.imp (pi_range2 hg hm ha hs hs2) fun σ H Rr q => by
    obtain ⟨μ, F0, H0, F, sl, cs, R, o⟩ := q
    refine OutI.run_A R o fun rs c vs F' H' e1 n w k R' o1 => ?_
    dsimp only at o1
    split at o1
    · split at o1
      · rename_i i j hb
        cases k with
        | cons k1 k2 =>
          cases k2 with
          | cons k2 k3 =>
            cases k3
            have k' : Den F' _ (.int i) := k1
            cases k'
            have k' : Den F' _ (.int j) := k2
            cases k'
            exact ⟨i, j, rfl, hb, o1 _ F' H' n w it_rng⟩
      · exact o1.elim
    · exact o1.elim
theorem di_range3 {a b c : Expr} (hg : Gl X "range") (hm : X.mg "range" = none) (ha : DA X W [a, b, c] fa) (hs : starEach [a, b, c] X.env = (false, eval a X.env) :: starEach [b, c] X.env := by rfl) (hpl : (backTo pos (starEach [b, c] X.env)).any (·.1) = false := by rfl) : DI X W tg (.Call (.Name "range" p) [a, b, c] [] pos) (rng3 fa) :=
  PI.imp (pi_range3 hg hm ha hs hpl) fun σ H Rr q => by
    obtain ⟨μ, F0, H0, F, sl, cs, R, o⟩ := q
    refine OutI.run_A R o fun rs c vs F' H' e1 n w k R' o1 => ?_
    dsimp only at o1
    split at o1
    · split at o1
      · rename_i i j m hb
        cases k with
        | cons k1 k2 =>
          cases k2 with
          | cons k2 k3 =>
            cases k3 with
            | cons k3 k4 =>
              cases k4
              have k' : Den F' _ (.int i) := k1
              cases k'
              have k' : Den F' _ (.int j) := k2
              cases k'
              have k' : Den F' _ (.int m) := k3
              cases k'
              exact ⟨i, j, m, _, rfl, ⟨hb.1, hb.2.1, hb.2.2.1, (Int.toNat_of_nonneg hb.2.2.2).symm⟩, o1 _ F' H' n w it_rngC⟩
      · exact o1.elim
    · exact o1.elim
theorem di_enum {elts : List Expr} {kk : Nat} (hg : Gl X "enumerate") (hm : X.mg "enumerate" = none) (ha : DA X W [e] fa) (hs : starEach [e] X.env = [(false, eval e X.env)] := by rfl) : DI X W (.Tuple elts kk tpos) (.Call (.Name "enumerate" p) [e] [] pos) (enumF fa) :=
  PI.imp (pi_enum hg hm ha hs) fun σ H Rr q => by
    obtain ⟨μ, F0, H0, F, sl, cs, R, o⟩ := q
    refine OutI.run_A R o fun rs c vs F' H' e1 n w k R' o1 => ?_
    dsimp only at o1
    split at o1
    · rename_i ds
      cases k with
      | cons k1 k2 =>
        cases k2
        have k' : Den F' _ (.lst ds) := k1
        cases k' with
        | lst h1 h2 => exact ⟨_, _, rfl, SqL.of (w.ex _ _ h1), o1 _ F' H' n w (it_enum h1 h2)⟩
    · exact o1.elim
theorem di_zip {elts : List Expr} {kk : Nat} (hg : Gl X "zip") (hm : X.mg "zip" = none) (ha : DA X W [e, e2] fa) (hs : starEach [e, e2] X.env = (false, eval e X.env) :: starEach [e2] X.env := by rfl) (hpl : (backTo pos (starEach [e2] X.env)).any (·.1) = false := by rfl) : DI X W (.Tuple elts kk tpos) (.Call (.Name "zip" p) [e, e2] [] pos) (zipF fa) :=
  PI.imp (pi_zip hg hm ha hs hpl) fun σ H Rr q => by
    obtain ⟨μ, F0, H0, F, sl, cs, R, o⟩ := q
    refine OutI.run_A R o fun rs c vs F' H' e1 n w k R' o1 => ?_
    dsimp only at o1
    split at o1
    · rename_i ds es
      cases k with
      | cons k1 k2 =>
        cases k2 with
        | cons k2 k3 =>
          cases k3
          have k1' : Den F' _ (.lst ds) := k1
          have k2' : Den F' _ (.lst es) := k2
          cases k1' with
          | lst h1 h2 =>
            cases k2' with
            | lst h3 h4 => exact ⟨_, _, _, _, rfl, SqL.of (w.ex _ _ h1), SqL.of (w.ex _ _ h3), o1 _ F' H' n w (it_zip h1 h2 h3 h4)⟩
    · exact o1.elim
end

/-! ### comprehensions -/
theorem wipe_get (σ : L2.St) : ∀ (vs : List Nat) (j : Nat), (wipe σ vs)[j]? = if j ∈ vs then σ[j]?.map fun _ => none else σ[j]?
  | [], j => by simp [wipe]
  | v :: vs, j => by
    unfold wipe
    by_cases hv : v = j
    · subst hv
      rw [if_pos List.mem_cons_self]
      by_cases hl : v < σ.length
      · rw [List.getElem?_set_self (by rw [wipe_length]; exact hl), List.getElem?_eq_getElem hl]; rfl
      · rw [List.getElem?_eq_none (by simp [wipe_length]; omega), List.getElem?_eq_none (by omega)]; rfl
    · rw [List.getElem?_set_ne hv, wipe_get σ vs j]
      have : (j ∈ v :: vs) ↔ j ∈ vs := by simp [Ne.symm hv]
      simp only [this]
theorem wipe_set {σ : L2.St} {vs : List Nat} {i : Nat} {x : Option V} (h : i ∈ vs) : wipe (σ.set i x) vs = wipe σ vs := by
  apply List.ext_getElem?
  intro j
  rw [wipe_get, wipe_get]
  by_cases hj : i = j
  · subst hj
    rw [if_pos h, if_pos h]
    by_cases hl : i < σ.length
    · rw [List.getElem?_set_self hl, List.getElem?_eq_getElem hl]; rfl
    · rw [List.set_eq_of_length_le (by omega)]
  · rw [List.getElem?_set_ne hj]
def wipeL (vs : List Nat) (sl : List SV) : List SV := sl.mapIdx fun i s => if i ∈ vs then .un else s
theorem Rel.wipe {K : PySem.W.Frag} {μ : List Addr} {F0 H0 F H : Hp} {sl : List SV} {cs : List CO} {σ : L2.St} (R : Rel K μ F0 H0 F H sl cs σ) (vs : List Nat) : Rel K μ F0 H0 F H (wipeL vs sl) cs (L2.wipe σ vs) := by
  have get : ∀ j, (wipeL vs sl)[j]? = sl[j]?.map fun s => if j ∈ vs then SV.un else s := fun j => by simp [wipeL]
  have key : ∀ (j : Nat) (s : SV), s ≠ .un → (wipeL vs sl)[j]? = some s → j ∉ vs ∧ sl[j]? = some s ∧ (L2.wipe σ vs)[j]? = σ[j]? := fun j s ns e => by
    rw [get] at e
    by_cases hj : j ∈ vs
    · cases z : sl[j]? with
      | none => rw [z] at e; cases e
      | some u => rw [z] at e; simp [hj] at e; exact absurd e.symm ns
    · refine ⟨hj, ?_, by rw [wipe_get, if_neg hj]⟩
      cases z : sl[j]? with
      | none => rw [z] at e; cases e
      | some u => rw [z] at e; simp [hj] at e; rw [e]
  refine ⟨R.w, R.fr, by simp [wipe_length, wipeL, R.len], fun j s e => ?_, fun i j c d p e1 e2 e3 e4 => ?_⟩
  · by_cases hs : s = .un
    · subst hs; trivial
    · obtain ⟨_, a, b⟩ := key j s hs e
      rw [b]; exact R.at_ j s a
  · obtain ⟨_, a1, b1⟩ := key i _ (fun z => by cases z) e1
    obtain ⟨_, a2, b2⟩ := key j _ (fun z => by cases z) e2
    rw [b1] at e3; rw [b2] at e4
    exact R.ds i j c d p a1 a2 e3 e4
/-- the target g stores by t, at the slots vs alone -/
def TgOk (K : PySem.W.Frag) (g : TG) (t : FG) (vs : List Nat) : Prop := ∀ (μ : List Addr) (F0 H0 F H : Hp) (cs : List CO) (sl s1 : List SV) (σ : L2.St) (v : V) (d : D) (Q : L2.St → Hp → Prop),
  Rel K μ F0 H0 F H sl cs σ → Den F v d → t d sl = some s1 → (∀ σ', Rel K μ F0 H0 F H s1 cs σ' → L2.wipe σ' vs = L2.wipe σ vs → Q σ' H) → g v σ H Q
theorem tgOk_name {K : PySem.W.Frag} {i : Nat} {vs : List Nat} (h : i ∈ vs) : TgOk K (gName i) (tgN i) vs := by
  intro μ F0 H0 F H cs sl s1 σ v d Q R k e o
  exact o _ (Rel.setS (Hb := H) (r := .dat d) R k (fun c ec => by cases ec) e) (wipe_set h)
theorem gAll_wipe {K : PySem.W.Frag} {μ : List Addr} {F0 H0 F H : Hp} {cs : List CO} {Q : L2.St → Hp → Prop} {ws : List Nat} : ∀ {is : List Nat} {ds : List D} {vs : List V} {sl s1 : List SV} {σ : L2.St}, (∀ i ∈ is, i ∈ ws) → Rel K μ F0 H0 F H sl cs σ → DenAll F vs ds → tgAll is ds sl = some s1 → (∀ σ', Rel K μ F0 H0 F H s1 cs σ' → L2.wipe σ' ws = L2.wipe σ ws → Q σ' H) → gAll is vs σ H Q
  | [], ds, vs, sl, s1, σ, hw, R, k, e, o => by
    cases k with
    | nil => cases e; exact ⟨rfl, o σ R rfl⟩
    | cons _ _ => cases e
  | i :: is, ds, vs, sl, s1, σ, hw, R, k, e, o => by
    cases k with
    | nil => cases e
    | cons k1 k2 =>
      unfold tgAll at e
      split at e
      · rename_i s2 e2
        refine ⟨_, _, rfl, gAll_wipe (fun j hj => hw j (List.mem_cons_of_mem _ hj)) (Rel.setS (Hb := H) (r := .dat _) R k1 (fun c ec => by cases ec) e2) k2 e fun σ' R' ew => o σ' R' ?_⟩
        rw [ew]; exact wipe_set (hw i List.mem_cons_self)
      · cases e
theorem tgOk_tup {K : PySem.W.Frag} {is vs : List Nat} (h : ∀ i ∈ is, i ∈ vs) : TgOk K (gTup K is.length (gAll is)) (tgT is) vs := by
  intro μ F0 H0 F H cs sl s1 σ v d Q R k e o
  cases d with
  | tup ds =>
    cases k with
    | tup h1 h2 => exact ⟨_, _, rfl, SqT.of (R.w.ex _ _ h1), by rw [h2.length]; exact tgAll_len e, gAll_wipe h R h2 e o⟩
  | _ => cases e
def lcF (t : FG) (ft : FT) (fe : FE) (sl : List SV) : List D → List D → List CO → Res (List D × List CO)
  | [], acc, cs => .ok (acc, cs)
  | d :: ds, acc, cs => match t d sl with
    | none => .bad
    | some s1 => match ft s1 cs with
      | .ok (true, c1) => match dFrz fe s1 c1 with
        | .ok (.dat x, c2) => if acc.length < sizeLine then lcF t ft fe sl ds (acc ++ [x]) c2 else .bad
        | _ => .bad
      | .ok (false, c1) => lcF t ft fe sl ds acc c1
      | _ => .bad
def dLc (fi : FI) (t : FG) (ft : FT) (fe : FE) (vs : List Nat) : FE := fun sl cs => (fi sl cs).then fun a => (lcF t ft fe (wipeL vs sl) a.1 [] a.2).then fun b => .ok (.new (.lst b.1), b.2)
theorem dLc_run {K : PySem.W.Frag} {W W' : XK} {fi : FI} {t : FG} {ft : FT} {fe : FE} {vs : List Nat} {g : TG} {σ : L2.St} {H : Hp} {Q : VK} (tg : TgOk K g t vs) (q : rdE K W (dLc fi t ft fe vs) σ H Q) : tLc (rdI K W fi) g (rdT K W' ft) (rdE K W' (dFrz fe)) vs σ H Q := by
  obtain ⟨μ, F0, H0, F, sl, cs, R, o⟩ := q
  refine ⟨μ, F0, H0, F, sl, cs, R, ?_⟩
  unfold dLc at o
  cases e : fi sl cs with
  | exc C fs c => rw [e] at o; exact o
  | bad => rw [e] at o; exact o.elim
  | ok a =>
    obtain ⟨ds, c1⟩ := a
    rw [e] at o
    intro J F1 H1 n1 w1 it D hD
    have R1 := R.step n1 w1
    have nf : F1 D = none := by
      cases z : F1 D with
      | none => rfl
      | some u => have := w1.ex D u z; rw [hD] at this; cases this
    have nm : D ∉ μ := fun z => by obtain ⟨_, o, e⟩ := w1.there z; rw [hD] at e; cases e
    obtain ⟨w2, n2⟩ := w1.laid (o := .lst []) hD
    have o' : OutE K W μ F1 H1 Q ((lcF t ft fe (wipeL vs sl) ds [] c1).then fun b => .ok (.new (.lst b.1), b.2)) := OutE.back o n1 w1
    let Iv : Nat → Hp → Prop := fun i H' => ∃ F' c' acc us, Nx μ F1 H1 F' H' ∧ Wok F' H' μ c' ∧ F' D = none ∧ H' D = some (.lst us) ∧ DenAll F' us acc ∧ OutE K W μ F1 H1 Q ((lcF t ft fe (wipeL vs sl) (ds.drop i) acc c').then fun b => .ok (.new (.lst b.1), b.2))
    refine ⟨fun i m H' => i + m = ds.length ∧ Iv i H', ⟨ds.length, Nat.zero_add _, F1, c1, [], [], n2, w2, nf, upd_same, .nil, o'⟩, ?_⟩
    rintro i m H2 ⟨him, F2, c2, acc, us, n3, w3, f3, d3, k3, o3⟩
    obtain ⟨ig, is⟩ := it F2 H2 c2 μ n3.ex w3 i
    by_cases hi : i < ds.length
    · refine .inr ⟨(ig hi).1, fun H' => i + 1 + (m - 1) = ds.length ∧ Iv (i + 1) H', fun H' w => ⟨m - 1, by omega, w⟩, ?_⟩
      intro x H3 y
      obtain ⟨F3, n4, w4, d, ed, kd⟩ := (ig hi).2 x H3 y
      have n5 : Nx μ F1 H1 F3 H3 := n3.trans w3 n4
      have hd : ds.drop i = d :: ds.drop (i + 1) := by
        rw [List.drop_eq_getElem_cons hi]
        rw [List.getElem?_eq_getElem hi] at ed
        cases ed; rfl
      have dD : H3 D = some (.lst us) := n4.st D _ d3 nm
      have fD : F3 D = none := by
        cases z : F3 D with
        | none => rfl
        | some u =>
          rcases n4.gro D u z with z | z
          · rw [f3] at z; cases z
          · rw [d3] at z; cases z
      have k4 := k3.mono n4.ex
      rw [hd] at o3
      unfold lcF at o3
      have R3 : Rel K μ F0 H0 F3 H3 (wipeL vs sl) c2 (L2.wipe σ vs) := (R1.step n5 w4).wipe vs
      split at o3
      · exact o3.elim
      · rename_i s1 e1
        refine tg μ F0 H0 F3 H3 c2 _ s1 _ x d _ R3 kd e1 fun σ4 R4 ew => ⟨?_, μ, F0, H0, F3, s1, c2, R4, ?_⟩
        · rw [ew]
          apply List.ext_getElem?
          intro j
          rw [wipe_get, wipe_get]
          split
          · cases σ[j]? <;> rfl
          · rfl
        · split at o3
          · rename_i cc et
            rw [et]
            intro F4 H4 n6 w6
            rw [if_pos rfl]
            refine ⟨μ, F0, H0, F4, s1, cc, R4.step n6 w6, ?_⟩
            split at o3
            · rename_i z c5 ez
              split at o3
              · rename_i hl
                rw [ez]
                intro v F5 H5 n7 w7 k7 fv7
                have n8 : Nx μ F3 H3 F5 H5 := n6.trans w6 n7
                have dD5 : H5 D = some (.lst us) := n8.st D _ dD nm
                have fD5 : F5 D = none := by
                  cases z : F5 D with
                  | none => rfl
                  | some u =>
                    rcases n8.gro D u z with z | z
                    · rw [fD] at z; cases z
                    · rw [dD] at z; cases z
                have k5 := k4.mono n8.ex
                have ne : ∀ b u, F5 b = some u → b ≠ D := fun b u h z => by subst z; rw [fD5] at h; cases h
                have n9 := n5.trans w4 n8
                refine ⟨us, dD5, by rw [k5.length]; exact hl, by omega, F5, c5, acc ++ [z], us ++ [v], ⟨n9.ex, n9.gro, fun b u h hm => ?_⟩, ⟨fun b u h => by rw [upd_ne (ne b u h)]; exact w7.ex b u h, w7.len, w7.nd, fun j q c h1 h2 => ?_⟩, fD5, upd_same, k5.append (.cons k7 .nil), o3⟩
                · have hb : b ≠ D := fun z => by subst z; rw [hD] at h; cases h
                  rw [upd_ne hb]; exact n9.st b u h hm
                · obtain ⟨a1, u, b1, d1⟩ := w7.at_ j q c h1 h2
                  have hq : q ≠ D := fun z => nm (z ▸ List.mem_of_getElem? h1)
                  exact ⟨a1, u, by rw [upd_ne hq]; exact b1, d1⟩
              · exact o3.elim
            · exact o3.elim
          · rename_i cc et
            rw [et]
            intro F4 H4 n6 w6
            rw [if_neg Bool.false_ne_true]
            have fD4 : F4 D = none := by
              cases z : F4 D with
              | none => rfl
              | some u =>
                rcases n6.gro D u z with z | z
                · rw [fD] at z; cases z
                · rw [dD] at z; cases z
            exact ⟨by omega, F4, cc, acc, us, n5.trans w4 n6, w6, fD4, n6.st D _ dD nm, k4.mono n6.ex, o3⟩
          · exact o3.elim
    · refine .inl ⟨is (by omega), ?_⟩
      rw [List.drop_eq_nil_of_le (by omega)] at o3
      exact o3 _ F2 H2 n3 w3 ⟨D, rfl, f3, nm, _, d3, k3⟩ fun p ep => by cases ep; exact hD
section
variable {X : Cx} {W W' : XK} {e : Expr} {st : Stmt} {fi : FI} {t : FG} {ft : FT} {fe : FE} {vs : List Nat} {g : TG} {i : Nat}
theorem de_lc (tg : TgOk X.K g t vs) (h : PE X e (tLc (rdI X.K W fi) g (rdT X.K W' ft) (rdE X.K W' (dFrz fe)) vs)) : DE X W e (dLc fi t ft fe vs) := PE.imp h fun σ H Q q => dLc_run tg q
theorem ds_lc (tg : TgOk X.K g t vs) (h : PS X st (tAsg (tLc (rdI X.K W fi) g (rdT X.K W' ft) (rdE X.K W' (dFrz fe)) vs) (gName i))) : DS X W st (dAsg i (dLc fi t ft fe vs)) := ds_asg (PS.imp h fun D σ H q => dLc_run tg q)
def tYesD : FT := fun _ cs => .ok (true, cs)
theorem dts_nil : PTs X [] (rdT X.K W tYesD) := ⟨fun pins s σ H Q I q => by
  obtain ⟨μ, F0, H0, F, sl, cs, R, o⟩ := q
  exact pts_nil.run pins s σ H Q I (o F H .refl R.w)⟩
theorem dts_one {c : Expr} (h : DT X W c ft) : PTs X [c] (rdT X.K W ft) := pts_one h
end

/-! ### slices -/
def cutD (xs : List D) (lo hi : Option Int) : List D := (xs.drop (HT.sIx xs.length 0 lo)).take (HT.sIx xs.length xs.length hi - HT.sIx xs.length 0 lo)
abbrev FO := List SV → List CO → Res (Option Int × List CO)
def oNone : FO := fun _ cs => .ok (none, cs)
def oSome (f : FE) : FO := fun sl cs => (f sl cs).then fun a => match a.1 with
  | .dat (.int i) => .ok (some i, a.2)
  | _ => .bad
def dSl (f : FE) (fl fh : FO) : FE := fun sl cs => (f sl cs).then fun a => (fl sl a.2).then fun lo => (fh sl lo.2).then fun hi => match a.1.view hi.2 with
  | some (.lst xs) => .ok (.new (.lst (cutD xs lo.1 hi.1)), hi.2)
  | some (.str z) => if z.length ≤ sizeLine then .ok (.dat (.str (cutS z lo.1 hi.1)), hi.2) else .bad
  | _ => .bad
end DL

/-! DLi: the script, slices, truth; the end of a law. -/
namespace DL
open PySem L2

section
variable {X : Cx} {W : XK} {pos p : Pos} {e b : Expr} {fe fb : FE} {fl fh : FO} {i : Nat}
/-- len(script) -/
def dLenS (i : Nat) : FE := fun sl cs => match sl[i]? with
  | some (.scr ns) => .ok (.dat (.int ns.length), cs)
  | _ => .bad
/-- script[k] -/
def dIxS (i : Nat) (fb : FE) : FE := fun sl cs => match sl[i]? with
  | some (.scr ns) => (fb sl cs).then fun b => match b.1 with
    | .dat (.int j) => match atI ns j with
      | some n => .ok (.dat (.int n), b.2)
      | none => .bad
    | _ => .bad
  | _ => .bad
theorem de_lenS (h : PE X e (tCB (fun xs H Q => ∃ x n, xs = [x] ∧ LenV X.K x H n ∧ Q (.int n) H) (tCons (tVar i) tNil))) : DE X W e (dLenS i) := PE.imp h fun σ H Q q => by
  obtain ⟨μ, F0, H0, F, sl, cs, R, o⟩ := q
  unfold dLenS at o
  split at o
  · rename_i ns z
    obtain ⟨a, e1, e2⟩ := R.at_ i _ z
    exact ⟨_, e1, _, _, rfl, .inl ⟨_, sqL_ex R.w.ex e2, rfl⟩, by rw [List.length_map]; exact o _ F H .refl R.w (.int _) trivial⟩
  · exact o.elim
theorem de_ixS (h : PE X e (tOp (rIxL X.K) (tVar i) (rdE X.K W fb))) : DE X W e (dIxS i fb) := PE.imp h fun σ H Q q => by
  obtain ⟨μ, F0, H0, F, sl, cs, R, o⟩ := q
  unfold dIxS at o
  split at o
  · rename_i ns z
    obtain ⟨a, e1, e2⟩ := R.at_ i _ z
    refine ⟨_, e1, ?_⟩
    refine OutE.then_run R o fun r c v F1 H1 e3 n w k fv R1 o1 => ?_
    dsimp only at o1
    split at o1
    · rename_i j
      have k' : Den F1 v (.int j) := k
      cases k'
      split at o1
      · rename_i m em
        refine ⟨a, _, j, .int m, rfl, rfl, sqL_ex w.ex (sqL_ex n.ex e2), ?_, o1 _ F1 H1 .refl w (.int _) trivial⟩
        unfold atI at em ⊢
        rw [List.length_map]
        cases y : ixN ns.length j with
        | none => rw [y] at em; cases em
        | some t =>
          rw [y] at em
          show (ns.map V.int)[t]? = _
          rw [List.getElem?_map]
          have em' : ns[t]? = some m := em
          rw [em']; rfl
      · exact o1.elim
    · exact o1.elim
  · exact o.elim
theorem DenAll.cut {F : Hp} {vs : List V} {ds : List D} (h : DenAll F vs ds) (lo hi : Option Int) : DenAll F (cutV vs lo hi) (cutD ds lo hi) := by
  unfold cutV cutD
  rw [h.length]
  exact (h.drop _).take _
def rdO (K : PySem.W.Frag) (W : XK) (f : FO) : TO := fun σ H Q => ∃ μ F0 H0 F sl cs, Rel K μ F0 H0 F H sl cs σ ∧ match f sl cs with
  | .ok (r, cs') => ∀ F' H', Nx μ F H F' H' → Wok F' H' μ cs' → Q r H'
  | .exc C fs cs' => Raised μ F H W C fs cs'
  | .bad => False
abbrev DO (X : Cx) (W : XK) (e : Option Expr) (f : FO) : Prop := PO X e (rdO X.K W f)
theorem PO.imp {X : Cx} {e : Option Expr} {t t' : TO} (h : PO X e t) (i : ∀ σ H R, t' σ H R → t σ H R) : PO X e t' := ⟨fun p s σ H R I q => h.run p s σ H R I (i σ H R q)⟩
theorem do_none : DO X W none oNone := PO.imp po_none fun σ H Q q => by
  obtain ⟨μ, F0, H0, F, sl, cs, R, o⟩ := q
  exact o F H .refl R.w
theorem do_some (h : DE X W e fe) : DO X W (some e) (oSome fe) := PO.imp (po_some h) fun σ H Q q => by
  obtain ⟨μ, F0, H0, F, sl, cs, R, o⟩ := q
  refine ⟨μ, F0, H0, F, sl, cs, R, ?_⟩
  unfold oSome at o
  cases z : fe sl cs with
  | exc C fs c => rw [z] at o; exact o
  | bad => rw [z] at o; exact o.elim
  | ok a =>
    obtain ⟨r, c⟩ := a
    rw [z] at o
    simp only [Res.then] at o
    intro v F' H' n w k fv
    split at o
    · rename_i j y
      split at y
      · rename_i i2
        cases y
        have k' : Den F' v (.int i2) := k
        cases k'
        exact ⟨i2, rfl, o F' H' n w⟩
      · cases y
    · rename_i y; split at y <;> cases y
    · exact o.elim
theorem OutE.run_O {K : PySem.W.Frag} {μ : List Addr} {F0 H0 F H : Hp} {sl : List SV} {cs : List CO} {σ : L2.St} {f : FO} {k : Option Int × List CO → Res (RV × List CO)} {Q : VK} {Q' : Option Int → Hp → Prop} (R : Rel K μ F0 H0 F H sl cs σ) (o : OutE K W μ F H Q ((f sl cs).then k))
    (h : ∀ r c F' H', f sl cs = .ok (r, c) → Nx μ F H F' H' → Wok F' H' μ c → Rel K μ F0 H0 F' H' sl c σ → OutE K W μ F' H' Q (k (r, c)) → Q' r H') : rdO K W f σ H Q' := by
  refine ⟨μ, F0, H0, F, sl, cs, R, ?_⟩
  cases e : f sl cs with
  | ok a => obtain ⟨r, c⟩ := a; rw [e] at o; exact fun F' H' n w => h r c F' H' e n w (R.step n w) (OutE.back o n w)
  | exc C fs c => rw [e] at o; exact o
  | bad => rw [e] at o; exact o.elim
theorem de_sl {lo hi : Option Expr} {p2 : Pos} (h : DE X W e fe) (hl : DO X W lo fl) (hu : DO X W hi fh) : DE X W (.Subscript e (.Slice lo hi none p2) pos) (dSl fe fl fh) := PE.imp (pe_slice (SlR.or sl_list sl_str) h hl hu) fun σ H Q q => by
  obtain ⟨μ, F0, H0, F, sl, cs, R, o⟩ := q
  refine OutE.then_run R o fun r c v F1 H1 e1 n w k fv R1 o1 => ?_
  refine OutE.run_O R1 o1 fun l c2 F2 H2 e2 n2 w2 R2 o2 => ?_
  refine OutE.run_O R2 o2 fun u c3 F3 H3 e3 n3 w3 R3 o3 => ?_
  dsimp only at o3
  have k3 := (k.step n2).step n3
  split at o3
  · rename_i xs ex
    obtain ⟨p, vs, rfl, hp, d⟩ := (k3.vw w3 ex).lst w3.ex
    exact .inl ⟨p, vs, rfl, SqL.of hp, fun q hq => Aft.new (cs := c3) (c := .lst (cutD xs l u)) o3 w3 hq (d.cut l u)⟩
  · rename_i z ez
    split at o3
    · rename_i hl
      rw [(k3.vw w3 ez).str]
      exact .inr ⟨z, rfl, hl, Aft.str (cs := c3) o3 w3⟩
    · exact o3.elim
  · exact o3.elim
/-- truth of a list, a tuple, a text, an int, None -/
def truD : D → Option Bool
  | .non => some false
  | .bl b => some b
  | .int i => some (i != 0)
  | .str z => if z.length ≤ sizeLine then some ((z.length : Int) != 0) else none
  | .lst xs => some (!xs.isEmpty)
  | .tup xs => some (!xs.isEmpty)
  | .dct xs => some (!xs.isEmpty)
  | .obj _ _ => none
def toTru (f : FE) : FT := fun sl cs => (f sl cs).then fun a => match a.1.view a.2 with
  | some d => match truD d with
    | some b => .ok (b, a.2)
    | none => .bad
  | none => .bad
theorem DenAll.isEmpty {F : Hp} {vs : List V} {ds : List D} (h : DenAll F vs ds) : ds.isEmpty = vs.isEmpty := by cases h <;> rfl
theorem DenKv.isEmpty {F : Hp} {vs : List (Key × V)} {ds : List (Key × D)} (h : DenKv F vs ds) : ds.isEmpty = vs.isEmpty := by cases h <;> rfl
theorem dt_tru (h : DE X W e fe) (he : ∀ whole, isTrue e X.env whole = (do let v ← whole; standAt e.pos; holding [v] (truthy v)) := by intro _; rfl) : DT X W e (toTru fe) := PT.imp (pt_truth h he) fun σ H Q q => by
  obtain ⟨μ, F0, H0, F, sl, cs, R, o⟩ := q
  refine ⟨μ, F0, H0, F, sl, cs, R, ?_⟩
  unfold toTru at o
  cases z : fe sl cs with
  | exc C fs c => rw [z] at o; exact o
  | bad => rw [z] at o; exact o.elim
  | ok a =>
    obtain ⟨r, c⟩ := a
    rw [z] at o
    simp only [Res.then] at o
    intro v F' H' n w k fv
    split at o
    · rename_i d ed
      split at o
      · rename_i b eb
        have vw := k.vw w ed
        refine ⟨b, ?_, o F' H' n w⟩
        cases d with
        | non => rw [vw.non]; cases eb; rfl
        | bl x => rw [vw.bl]; cases eb; rfl
        | int x => rw [vw.int]; cases eb; rfl
        | str x =>
          rw [vw.str]
          have eb : (if x.length ≤ sizeLine then some ((x.length : Int) != 0) else none) = some b := eb
          split at eb
          · rename_i hl; cases eb; exact ⟨hl, rfl⟩
          · cases eb
        | lst xs => obtain ⟨p, vs, rfl, hp, d⟩ := vw.lst w.ex; cases eb; exact .inl ⟨vs, SqL.of hp, by rw [d.isEmpty]⟩
        | tup xs => obtain ⟨p, vs, rfl, hp, d⟩ := vw.tup w.ex; cases eb; exact .inr (.inl ⟨vs, SqT.of hp, by rw [d.isEmpty]⟩)
        | dct xs => obtain ⟨p, vs, rfl, hp, d⟩ := vw.dct w.ex; cases eb; exact .inr (.inr ⟨vs, hp, by rw [d.isEmpty]⟩)
        | obj _ _ => cases eb
      · exact o.elim
    · exact o.elim
end

/-! ### the end -/
theorem law_callG {P : Program} {w : World} {K : PySem.W.Frag} {mg mb : Str → Option Value} {k : Nat} {fa a : Addr} {fd : FuncData} {x : Str} {φ : Phi} {s1 : Shared} {us : List Value} {ns : List Int}
    (inK : K.In s1.heap) (nsG : s1.heap.Ns mainGlobals mg) (nsB : s1.heap.Ns builtinsNs mb) (bb : ∀ y : Str, y ≠ "__name__" → mb y = bootBuiltins y) (nol : s1.heap.NoLimit) (g0 : s1.gens = #[])
    (here : s1.heap.get? a = some { cls := .type "list", data := .seq us.toArray }) (hin : PyProof.Rows.IntsAre us ns) (few : ns.length ≤ sizeLine) (room : Room k callerA)
    (FK : ∀ base : Heap, K.In base → base.Ns mainGlobals mg → FnG P w K mg base k fa fd [x] (spF K φ)) (bind : ∀ (s : Shared) (u : Value), BindsTo s fd ⟨[u], []⟩ [(x, u)]) (told : ∃ cs, φ [.scr ns] [] = .ok (.dat (.bl true), cs)) :
    codeAny (model P w) callerA (.call (.ref fa) ⟨[.ref a], []⟩) (fun r s' => r = .ok (.ret (.bool true)) ∧ OldK s1.heap s'.heap ∧ s'.os = s1.os ∧ PyProof.Rows.AllBare s'.gens) s1 := by
  obtain ⟨cs0, told⟩ := told
  have rel := vals_ints hin
  have len := hin.length
  obtain ⟨H, hS, only, okH, atA, notK⟩ : ∃ H : Hp, SqL K H a (ns.map V.int) ∧ Only H ∧ HOk P w H s1.heap ∧ (∀ c o, H c = some o → c = a) ∧ (∀ o, H a = some o → K.lookup a = none) := by
    cases lk : K.lookup a with
    | some o =>
      have same := inK a o lk
      rw [here] at same
      cases same
      refine ⟨fun _ => none, Or.inr ⟨_, us.toArray, _, lk, rfl, rfl, rfl, ?_, ?_⟩, fun _ => Or.inl rfl, ?_, ?_, ?_⟩
      · simpa [len] using few
      · simpa using rel
      · intro c o z; cases z
      · intro c o z; cases z
      · intro o z; cases z
    | none =>
      refine ⟨fun c => if c = a then some (.frz { cls := .type "list", data := .seq us.toArray } (.lst (ns.map V.int))) else none, Or.inl (Or.inr ⟨_, if_pos rfl⟩), ?_, ?_, ?_, fun _ _ => rfl⟩
      · intro c
        by_cases hc : c = a
        · exact Or.inr ⟨_, _, if_pos hc⟩
        · exact Or.inl (if_neg hc)
      · intro c o z
        by_cases hc : c = a
        · have z := (if_pos hc).symm.trans z
          cases z; subst hc
          exact ⟨here, by simpa using few, us, _, rel, here⟩
        · have z := (if_neg hc).symm.trans z
          cases z
      · intro c o z
        by_cases hc : c = a
        · exact hc
        · have z := (if_neg hc).symm.trans z
          cases z
  have lay : ∀ {c : Addr} {o : Obj}, s1.heap.get? c = some o → H c = none → (hidT s1.heap H).get? c = some o := fun z n => hidT_get z n
  have away : ∀ {c : Addr} {o : Obj} {es : Array DictEntry} {ep : Nat}, s1.heap.get? c = some o → o.data = .dict es ep → H c = none := by
    intro c o es ep z d
    cases q : H c with
    | none => rfl
    | some u =>
      have hc := atA c u q
      subst hc
      rw [here] at z; cases z
      cases d
  have nsH : ∀ {c : Addr} {m : Str → Option Value}, s1.heap.Ns c m → (hidT s1.heap H).Ns c m := by
    intro c m z
    obtain ⟨o, es, ep, z1, z2, z3⟩ := z
    exact ⟨o, es, ep, lay z1 (away z1 z2), z2, z3⟩
  have inB : K.In (hidT s1.heap H) := by
    intro c o z
    apply lay (inK c o z)
    cases q : H c with
    | none => rfl
    | some u =>
      have hc := atA c u q
      subst hc
      rw [notK u q] at z; cases z
  have md : Mod K mg (hidT s1.heap H) := by
    obtain ⟨mc, y1, y2⟩ := nol
    exact ⟨inB, nsH nsG, ⟨mb, nsH nsB, bb⟩, mc, nsH y1, y2⟩
  have env : Env0 P w K mg (hidT s1.heap H) callerA [] s1 H :=
    { frames := rfl, mod := md, bs := fun _ _ z => of_hidT z, bsz := Nat.le_of_eq (hidT_size _ _), funs := trivial, frf := (fun b hb => nomatch (show b ∈ ([] : List Addr) from hb)), hok := okH, bare := .of_eq g0 }
  have prom : spF K φ [.ref a] H (fun v _ => v = .bl true) fun _ _ _ => False := by
    refine ⟨[], H, [], [.scr ns], ⟨Ex.refl _, rfl, fun i j p e => by simp at e, fun i p c e => by simp at e⟩, .cons ⟨a, rfl, hS⟩ .nil, ?_⟩
    rw [told]
    intro v F' H' _ _ kv _
    have kv' : Den F' v (.bl true) := kv
    cases kv'; rfl
  refine codeAny_mono ((FK _ inB (nsH nsG)).go callerA [] s1 H ⟨[.ref a], []⟩ [.ref a] [.ref a] _ _ rfl room rfl env (bind s1 (.ref a)) (.cons rfl .nil) prom) ?_
  intro r s' out
  match r, out with
  | .error e, z => obtain ⟨_, _, _, _, _, _, _, _, _, _, _, _, z⟩ := z; exact z.elim
  | .ok .next, z => exact False.elim z
  | .ok .brk, z => exact False.elim z
  | .ok .cont, z => exact False.elim z
  | .ok (.ret u), ⟨v, H', os, bare, un, ok', rv, q⟩ =>
    have q' : v = .bl true := q
    subst q'
    have eu : u = Value.bool true := rv
    subst eu
    refine ⟨rfl, OldK.of_keep ?_, os, bare⟩
    intro c o z
    cases y : H c with
    | none => exact un.keep c o z y (fun h => by cases h) (fun h => by cases h)
    | some t =>
      cases only c with
      | inl n => rw [y] at n; cases n
      | inr n =>
        obtain ⟨ob, xs, n⟩ := n
        have z1 := (okH c _ n).1
        have z2 := (ok' c _ (un.frzs c ob _ n)).1
        rw [z] at z1; cases z1
        exact z2
theorem walk_G {l : PySem.W.OpenLaw} {n k : Nat} {q : Program} {loose : List Str} {XP : (Str → Option Value) → Heap → Prop} {YP : World → Heap → Prop} {d : DefRec} {x : Str}
    (hn : l.most = some n) (hn2 : n ≤ sizeLine) (hdf : d.params.defaults = []) (room : Room k callerA)
    (FK : ∀ (w : World) (mg : Str → Option Value) (fa : Addr) (h : Heap), YP w h → h.Ns mainGlobals mg → mg d.name = some (.ref fa) →
      ∃ (K : PySem.W.Frag) (fd : FuncData) (φ : Phi), K.In h ∧ (∀ (s : Shared) (u : Value), BindsTo s fd ⟨[u], []⟩ [(x, u)]) ∧ (∀ ns : List Int, ns.length ≤ n → ∃ cs, φ [.scr ns] [] = .ok (.dat (.bl true), cs)) ∧
        ∀ base : Heap, K.In base → base.Ns mainGlobals mg → FnG l.prog w K mg base k fa fd [x] (spF K φ)) :
    PySem.W.WalkO q loose XP YP l.row.toRowW d [] (fun f vs => PySem.call f vs) := by
  apply Att.attach_call hn hdf
  intro w s0 s1 mg mb fa o pm cd doc a us ns G Y _ _ _ hmg here hin hlen g0
  obtain ⟨K, fd, φ, inK, bind, told, FK⟩ := FK w mg fa _ Y G.T.g hmg
  exact law_callG inK G.T.g G.T.b G.T.builtins G.T.nolimit g0 here hin (Nat.le_trans hlen hn2) room FK bind (told ns hlen)
end DL

/-! DLj: how calls bind; a def of the top; small rules for the generator. -/
namespace DL
open PySem L2

/-- where a parameter's value comes from: a place among the positional values, among the keywords' values, among the lacking keyword-only defaults -/
inductive Src where
  | pos (i : Nat) | kw (j : Nat) | df (k : Nat)
def arr {α : Type} : List Src → List α → List α → List α → List α
  | [], _, _, _ => []
  | .pos i :: r, us, mv, ws => (us.drop i).take 1 ++ arr r us mv ws
  | .kw j :: r, us, mv, ws => (ws.drop j).take 1 ++ arr r us mv ws
  | .df k :: r, us, mv, ws => (mv.drop k).take 1 ++ arr r us mv ws
theorem arr_vals : ∀ (a : List Src) {vs mz zs : List V} {us mv ws : List Value}, Vals vs us → Vals mz mv → Vals zs ws → Vals (arr a vs mz zs) (arr a us mv ws)
  | [], _, _, _, _, _, _, _, _, _ => .nil
  | .pos i :: r, _, _, _, _, _, _, h1, h2, h3 => ((h1.drop i).take 1).append (arr_vals r h1 h2 h3)
  | .kw j :: r, _, _, _, _, _, _, h1, h2, h3 => ((h3.drop j).take 1).append (arr_vals r h1 h2 h3)
  | .df k :: r, _, _, _, _, _, _, h1, h2, h3 => ((h2.drop k).take 1).append (arr_vals r h1 h2 h3)
theorem arr_rv {K : PySem.W.Frag} {F H : Hp} {μ : List Addr} : ∀ (a : List Src) {vs mz zs : List V} {us mv ws : List RV}, RvAll K F H μ vs us → RvAll K F H μ mz mv → RvAll K F H μ zs ws → RvAll K F H μ (arr a vs mz zs) (arr a us mv ws)
  | [], _, _, _, _, _, _, _, _, _ => .nil
  | .pos i :: r, _, _, _, _, _, _, h1, h2, h3 => ((h1.drop i).take 1).append (arr_rv r h1 h2 h3)
  | .kw j :: r, _, _, _, _, _, _, h1, h2, h3 => ((h3.drop j).take 1).append (arr_rv r h1 h2 h3)
  | .df k :: r, _, _, _, _, _, _, h1, h2, h3 => ((h2.drop k).take 1).append (arr_rv r h1 h2 h3)
def Src.ok (n m d : Nat) : Src → Bool
  | .pos i => decide (i < n)
  | .kw j => decide (j < m)
  | .df k => decide (k < d)
theorem take1 {α : Type} {l : List α} {i : Nat} (h : i < l.length) : ((l.drop i).take 1).length = 1 := by
  rw [List.length_take, List.length_drop]; omega
theorem arr_len {α : Type} : ∀ (a : List Src) {us mv ws : List α}, a.all (Src.ok us.length ws.length mv.length) = true → (arr a us mv ws).length = a.length
  | [], _, _, _, _ => rfl
  | .pos i :: r, us, mv, ws, h => by
    have q := Bool.and_eq_true_iff.mp (show ((Src.pos i).ok us.length ws.length mv.length && r.all _) = true from h)
    rw [arr, List.length_append, take1 (of_decide_eq_true q.1), arr_len r q.2, List.length_cons]; omega
  | .kw i :: r, us, mv, ws, h => by
    have q := Bool.and_eq_true_iff.mp (show ((Src.kw i).ok us.length ws.length mv.length && r.all _) = true from h)
    rw [arr, List.length_append, take1 (of_decide_eq_true q.1), arr_len r q.2, List.length_cons]; omega
  | .df i :: r, us, mv, ws, h => by
    have q := Bool.and_eq_true_iff.mp (show ((Src.df i).ok us.length ws.length mv.length && r.all _) = true from h)
    rw [arr, List.length_append, take1 (of_decide_eq_true q.1), arr_len r q.2, List.length_cons]; omega
section
variable {K : PySem.W.Frag} {x qual : Str} {params : Arguments} {body : List Stmt} {scope : Scope} {kws : List (Str × V)} {f : Addr} {fd : FuncData} {ps : List Str}
/-- keywords, all parameters given -/
theorem kb_plain (FD : FunD K x qual params body scope [] kws f fd) (n : Nat) (ks : List Str) (a : List Src) (ha : a.all (Src.ok n ks.length 0) = true) (hl : a.length = ps.length)
    (h : ∀ (kV doc pm : Value) (an : Option Addr) (cdv ct : Value) (us ws : List Value), us.length = n → ws.length = ks.length → bindArgs (PySem.W.fnOf x qual params body scope .none kV doc pm an cdv ct) ⟨us, ks.zip ws⟩ = pure (ps.zip (arr a us [] ws))) : KB K fd ps n ks (fun rs qs => arr a rs [] qs) := by
  obtain ⟨oc, od, dV, kV, doc, pm, an, cdv, ct, osl, rfl, lk, hcd, hD, hK⟩ := FD.ex
  rcases hD with ⟨_, rfl⟩ | ⟨e, _⟩
  · refine ⟨fun us ws => arr a us [] ws, fun vs zs => arr a vs [] zs, fun s us ws _ l1 l2 => .of_eq (h kV doc pm an cdv ct us ws l1 l2), fun r1 r2 => arr_vals a r1 .nil r2, fun r1 r2 => arr_rv a r1 .nil r2, fun l1 l2 => ?_⟩
    rw [arr_len a (by rw [l1, l2]; exact ha), hl]
  · exact absurd rfl e
/-- keywords, some keyword-only ones lacking (ms), which have defaults -/
theorem kb_kw (FD : FunD K x qual params body scope [] kws f fd) (n : Nat) (ks : List Str) (a : List Src) (ms : List (Str × V)) (drs : List RV) (hk : kws ≠ []) (hms : ∀ q ∈ ms, q ∈ kws) (hf : Flat (ms.map (·.2)) drs) (hdl : drs.length = ms.length) (ha : a.all (Src.ok n ks.length ms.length) = true) (hl : a.length = ps.length)
    (h : ∀ (D : Addr) (doc pm : Value) (an : Option Addr) (cdv ct : Value) (us mv ws : List Value), us.length = n → mv.length = ms.length → ws.length = ks.length →
      KwChain D ((ms.map (·.1)).zip mv) (bindArgs (PySem.W.fnOf x qual params body scope .none (.ref D) doc pm an cdv ct) ⟨us, ks.zip ws⟩) (ps.zip (arr a us mv ws))) : KB K fd ps n ks (fun rs qs => arr a rs drs qs) := by
  obtain ⟨mv, b⟩ := FD.kbinds0 n ks ms (fun us mv ws => arr a us mv ws) hk hms (fun r1 r2 r3 => arr_vals a r1 r2 r3) h
  refine ⟨fun us ws => arr a us mv ws, fun vs zs => arr a vs (ms.map (·.2)) zs, b.to, b.rel, fun r1 r2 => arr_rv a r1 (hf _ _ _ _) r2, fun l1 l2 => ?_⟩
  rw [arr_len a (by rw [l1, l2, List.length_map]; exact ha), hl]
end

/-- a def of the top and its promise -/
structure DefOk (P : Program) (w : World) (K : PySem.W.Frag) (mg : Str → Option Value) (base : Heap) (lv : Nat) (x : Str) (st : Stmt) (ps : List Str) (kws : List (Str × V)) (φ : Phi) (fd : FuncData) : Prop where
  F : FunD K x x (defArgs st) (defBody st) (defScope st) [] kws (He.ga K x) fd
  G : FnG P w K mg base lv (He.ga K x) fd ps (spF K φ)
  m : mg x = some (.ref (He.ga K x))
abbrev FnD (K : PySem.W.Frag) (x : Str) (st : Stmt) (kws : List (Str × V)) (fd : FuncData) : Prop := FunD K x x (defArgs st) (defBody st) (defScope st) [] kws (He.ga K x) fd

def gNeg : G1 := fun a => match a with
  | .int i => some (.dat (.int (-i)))
  | _ => none
theorem o_neg {X : Cx} : UnD X (unaryOp .USub) gNeg := UnR.imp un_neg fun x H Q ⟨μ, F, cs, a, r, w, va, e, k⟩ => by
  unfold gNeg at e
  split at e
  · cases e; exact ⟨_, va.int, k.int w⟩
  · cases e
theorem bt_len : bootBuiltins "len" = some (.builtin "len") := by decide +kernel
theorem bt_max : bootBuiltins "max" = some (.builtin "max") := by decide +kernel
theorem bt_min : bootBuiltins "min" = some (.builtin "min") := by decide +kernel
theorem bt_abs : bootBuiltins "abs" = some (.builtin "abs") := by decide +kernel
theorem bt_sum : bootBuiltins "sum" = some (.builtin "sum") := by decide +kernel
theorem bt_repr : bootBuiltins "repr" = some (.builtin "repr") := by decide +kernel
theorem bt_int : bootBuiltins "int" = some (.type "int") := by decide +kernel
theorem bt_bool : bootBuiltins "bool" = some (.type "bool") := by decide +kernel
theorem bt_str : bootBuiltins "str" = some (.type "str") := by decide +kernel
theorem bt_list : bootBuiltins "list" = some (.type "list") := by decide +kernel
theorem bt_tuple : bootBuiltins "tuple" = some (.type "tuple") := by decide +kernel
theorem bt_dict : bootBuiltins "dict" = some (.type "dict") := by decide +kernel
end DL

/-! DLk: a slot's own object becomes a cell for the rest of a block. -/
namespace DL
open PySem L2

def killS (n : Nat) : SV → SV
  | .cell k => if k < n then .cell k else .un
  | s => s
def unpin (n : Nat) : Flw → Flw
  | .nx sl cs => .nx (sl.map (killS n)) (cs.take n)
  | .bk sl cs => .bk (sl.map (killS n)) (cs.take n)
  | .ct sl cs => .ct (sl.map (killS n)) (cs.take n)
  | .rt (.cell k) cs => if k < n then .rt (.cell k) (cs.take n) else .bad
  | .rt r cs => .rt r (cs.take n)
  | .exc C fs cs => .exc C fs (cs.take n)
  | .bad => .bad
def dPin (i : Nat) (f : FS) : FS := fun sl cs => match sl[i]? with
  | some (.own c) => unpin cs.length (f (sl.set i (.cell cs.length)) (cs ++ [c]))
  | _ => .bad
section
variable {K : PySem.W.Frag} {W : XK} {μ : List Addr} {F0 H0 F H : Hp} {sl : List SV} {cs : List CO} {σ : L2.St} {p : Addr} {D : Ends}
theorem Wok.unpin {n : Nat} (w : Wok F H (μ ++ [p]) cs) (hn : μ.length = n) : Wok F H μ (cs.take n) := by
  have hl : μ.length + 1 = cs.length := by rw [← w.len]; simp
  refine ⟨w.ex, by simp; omega, fun i j q e1 e2 => ?_, fun i q c e1 e2 => ?_⟩
  · have h1 := (List.getElem?_eq_some_iff.mp e1).1
    have h2 := (List.getElem?_eq_some_iff.mp e2).1
    exact w.nd i j q (by rw [List.getElem?_append_left h1]; exact e1) (by rw [List.getElem?_append_left h2]; exact e2)
  · have h1 := (List.getElem?_eq_some_iff.mp e1).1
    refine w.at_ i q c (by rw [List.getElem?_append_left h1]; exact e1) ?_
    rw [List.getElem?_take] at e2
    split at e2
    · exact e2
    · cases e2
theorem Fr.unpin (h : Fr (μ ++ [p]) F0 H0 F H) (hp : H0 p = Option.none) : Fr μ F0 H0 F H := ⟨h.ex, h.gro, fun b o e hm => h.st b o e fun z => by
  rcases List.mem_append.mp z with z | z
  · exact hm z
  · have : b = p := by simpa using z
    subst this; rw [hp] at e; cases e⟩
theorem Rel.unpin {n : Nat} (R : Rel K (μ ++ [p]) F0 H0 F H sl cs σ) (hn : μ.length = n) (hp : H0 p = Option.none) : Rel K μ F0 H0 F H (sl.map (killS n)) (cs.take n) σ := by
  refine ⟨R.w.unpin hn, R.fr.unpin hp, by simp [R.len], fun i s e => ?_, fun i j c d q e1 e2 e3 e4 => ?_⟩
  · rw [List.getElem?_map] at e
    cases z : sl[i]? with
    | none => rw [z] at e; cases e
    | some t =>
      rw [z] at e
      have e' : killS n t = s := Option.some.inj e
      subst e'
      have y := R.at_ i t z
      cases t with
      | un => trivial
      | dat d => exact y
      | scr ns => exact y
      | own c =>
        obtain ⟨q, a, b, y1, y2, y3⟩ := y
        exact ⟨q, a, b, y1, fun z => y2 (List.mem_append_left _ z), y3⟩
      | cell k =>
        by_cases hk : k < n
        · have e3 : killS n (.cell k) = .cell k := if_pos hk
          rw [e3]
          obtain ⟨q, a, b⟩ := y
          rw [List.getElem?_append_left (by omega)] at b
          exact ⟨q, a, b⟩
        · have e3 : killS n (.cell k) = .un := if_neg hk
          rw [e3]; trivial
  · have key : ∀ (k : Nat) (c : CO), (sl.map (killS n))[k]? = some (.own c) → sl[k]? = some (.own c) := fun k c e => by
      rw [List.getElem?_map] at e
      cases z : sl[k]? with
      | none => rw [z] at e; cases e
      | some t =>
        rw [z] at e
        have e' : killS n t = .own c := Option.some.inj e
        cases t with
        | own d => exact congrArg some e'
        | cell k =>
          by_cases hk : k < n
          · have e3 : killS n (.cell k) = .cell k := if_pos hk
            rw [e3] at e'; cases e'
          · have e3 : killS n (.cell k) = .un := if_neg hk
            rw [e3] at e'; cases e'
        | un => cases e'
        | dat d => cases e'
        | scr ns => cases e'
    exact R.ds i j c d q (key i c e1) (key j d e2) e3 e4
theorem Rel.pin {i : Nat} {c : CO} (R : Rel K μ F0 H0 F H sl cs σ) (e : sl[i]? = some (.own c)) : ∃ p, H0 p = Option.none ∧ Rel K (μ ++ [p]) F0 H0 F H (sl.set i (.cell cs.length)) (cs ++ [c]) σ := by
  obtain ⟨p, a, b, l1, l2, o, l3, l4⟩ := R.at_ i _ e
  have hi : i < sl.length := (List.getElem?_eq_some_iff.mp e).1
  have hn := R.w.len
  refine ⟨p, b, ⟨R.w.ex, by simp [hn], fun j k q e1 e2 => ?_, fun j q d e1 e2 => ?_⟩, ⟨R.fr.ex, R.fr.gro, fun x u h hm => R.fr.st x u h fun z => hm (List.mem_append_left _ z)⟩, by simp [R.len], fun j s z => ?_, fun j k d d' q z1 z2 z3 z4 => ?_⟩
  · by_cases hj : j < μ.length
    · rw [List.getElem?_append_left hj] at e1
      by_cases hk : k < μ.length
      · rw [List.getElem?_append_left hk] at e2; exact R.w.nd j k q e1 e2
      · rw [List.getElem?_append_right (by omega)] at e2
        have : q = p := by
          have h3 := (List.getElem?_eq_some_iff.mp e2).1
          have h4 : k - μ.length = 0 := by simpa using h3
          rw [h4] at e2; simpa using e2.symm
        subst this; exact absurd (List.mem_of_getElem? e1) l2
    · rw [List.getElem?_append_right (by omega)] at e1
      have h3 := (List.getElem?_eq_some_iff.mp e1).1
      have h4 : j - μ.length = 0 := by simpa using h3
      have eq : q = p := by rw [h4] at e1; simpa using e1.symm
      by_cases hk : k < μ.length
      · rw [List.getElem?_append_left hk] at e2; subst eq; exact absurd (List.mem_of_getElem? e2) l2
      · rw [List.getElem?_append_right (by omega)] at e2
        have h5 := (List.getElem?_eq_some_iff.mp e2).1
        have h6 : k - μ.length = 0 := by simpa using h5
        omega
  · by_cases hj : j < μ.length
    · rw [List.getElem?_append_left hj] at e1
      rw [List.getElem?_append_left (by omega)] at e2
      exact R.w.at_ j q d e1 e2
    · rw [List.getElem?_append_right (by omega)] at e1
      rw [List.getElem?_append_right (by omega)] at e2
      have h3 := (List.getElem?_eq_some_iff.mp e1).1
      have h4 : j - μ.length = 0 := by simpa using h3
      have h5 : j - cs.length = 0 := by omega
      rw [h4] at e1; rw [h5] at e2
      have eq : p = q := by simpa using e1
      have ed : c = d := by simpa using e2
      subst eq; subst ed
      exact ⟨l1, o, l3, l4⟩
  · by_cases hj : i = j
    · subst hj
      rw [List.getElem?_set_self hi] at z; cases z
      exact ⟨p, a, by rw [← hn, List.getElem?_append_right (Nat.le_refl _)]; simp⟩
    · rw [List.getElem?_set_ne hj] at z
      have y := R.at_ j s z
      cases s with
      | un => trivial
      | dat d => exact y
      | scr ns => exact y
      | own d =>
        obtain ⟨q, y1, y2, y3, y4, y5⟩ := y
        refine ⟨q, y1, y2, y3, fun w => ?_, y5⟩
        rcases List.mem_append.mp w with w | w
        · exact y4 w
        · have eq : q = p := by simpa using w
          subst eq; exact hj (R.ds i j c d q e z a y1)
      | cell k =>
        obtain ⟨q, y1, y2⟩ := y
        exact ⟨q, y1, by rw [List.getElem?_append_left (List.getElem?_eq_some_iff.mp y2).1]; exact y2⟩
  · by_cases hj : i = j
    · subst hj; rw [List.getElem?_set_self hi] at z1; cases z1
    · rw [List.getElem?_set_ne hj] at z1
      by_cases hk : i = k
      · subst hk; rw [List.getElem?_set_self hi] at z2; cases z2
      · rw [List.getElem?_set_ne hk] at z2
        exact R.ds j k d d' q z1 z2 z3 z4
theorem OutS.unpin {n : Nat} {o : Flw} (hn : μ.length = n) (hp : H0 p = Option.none) (h : OutS K W μ F0 H0 D (DL.unpin n o)) : OutS K W (μ ++ [p]) F0 H0 D o := by
  cases o with
  | nx sl cs => exact fun σ F H R => h σ F H (R.unpin hn hp)
  | bk sl cs => exact fun σ F H R => h σ F H (R.unpin hn hp)
  | ct sl cs => exact fun σ F H R => h σ F H (R.unpin hn hp)
  | rt r cs =>
    have live : ∀ {F H : Hp} {q : Addr} {c : CO}, Live F H (μ ++ [p]) q c → Live F H μ q c := fun l => ⟨l.1, fun z => l.2.1 (List.mem_append_left _ z), l.2.2⟩
    cases r with
    | dat d => exact fun v F H f w k fv => h v F H (f.unpin hp) (w.unpin hn) k fv
    | scr ns => exact fun v F H f w k fv => h v F H (f.unpin hp) (w.unpin hn) k fv
    | new c => exact fun v F H f w ⟨q, e, l⟩ fv => h v F H (f.unpin hp) (w.unpin hn) ⟨q, e, live l⟩ fv
    | own c => exact fun v F H f w ⟨q, e, l⟩ fv => h v F H (f.unpin hp) (w.unpin hn) ⟨q, e, live l⟩ fv
    | cell k =>
      by_cases hk : k < n
      · have e3 : DL.unpin n (.rt (.cell k) cs) = .rt (.cell k) (cs.take n) := if_pos hk
        rw [e3] at h
        intro v F H f w kk fv
        obtain ⟨q, e, l⟩ := kk
        rw [List.getElem?_append_left (by omega)] at l
        exact h v F H (f.unpin hp) (w.unpin hn) ⟨q, e, l⟩ fv
      · have e3 : DL.unpin n (.rt (.cell k) cs) = .bad := if_neg hk
        rw [e3] at h
        exact h.elim
  | exc C fs cs =>
    intro F' H' dx fv nx w e d
    have f : Fr (μ ++ [p]) F0 H0 F' H' := ⟨nx.ex, nx.gro, nx.st⟩
    exact h F' H' dx fv (f.unpin hp).nx (w.unpin hn) e d
  | bad => exact h
end
theorem dss_pin {X : Cx} {W : XK} {sts : List Stmt} {f : FS} (i : Nat) (h : DSs X W sts f) : DSs X W sts (dPin i f) := PSs.imp h fun D σ H q => by
  obtain ⟨μ, F0, H0, F, sl, cs, R, o⟩ := q
  unfold dPin at o
  split at o
  · rename_i c e
    obtain ⟨p, hp, R'⟩ := R.pin e
    exact ⟨μ ++ [p], F0, H0, F, _, _, R', OutS.unpin R.w.len hp o⟩
  · exact o.elim
end DL

/-! DLm: lemmas for reckoning with mirrors. -/
namespace DL
open PySem L2
theorem mulB_l {i j : Int} (h0 : -18446744073709551616 < i) (h1 : i < 18446744073709551616) : mulB i j = true := by
  unfold mulB; rw [decide_eq_true (show -(2 ^ 64) < i from h0), decide_eq_true (show i < 2 ^ 64 from h1)]; rfl
theorem mulB_r {i j : Int} (h0 : -18446744073709551616 < j) (h1 : j < 18446744073709551616) : mulB i j = true := by
  unfold mulB; rw [decide_eq_true (show -(2 ^ 64) < j from h0), decide_eq_true (show j < 2 ^ 64 from h1)]; simp
theorem atI_nat {α : Type} (xs : List α) (k : Nat) : atI xs (k : Int) = xs[k]? := by
  unfold atI ixN
  rw [if_pos (by omega)]
  by_cases h : k < xs.length
  · rw [if_pos (by omega)]
    show xs[(k : Int).toNat]? = xs[k]?
    simp
  · rw [if_neg (by omega)]
    show none = xs[k]?
    rw [List.getElem?_eq_none (by omega)]
theorem atI0 {α : Type} (xs : List α) : atI xs 0 = xs[0]? := atI_nat xs 0
theorem atI1 {α : Type} (xs : List α) : atI xs 1 = xs[1]? := atI_nat xs 1
theorem atI2 {α : Type} (xs : List α) : atI xs 2 = xs[2]? := atI_nat xs 2
theorem atI3 {α : Type} (xs : List α) : atI xs 3 = xs[3]? := atI_nat xs 3
theorem atI4 {α : Type} (xs : List α) : atI xs 4 = xs[4]? := atI_nat xs 4
theorem atI5 {α : Type} (xs : List α) : atI xs 5 = xs[5]? := atI_nat xs 5
theorem atI_of {α : Type} {xs : List α} {i : Int} {x : α} (h0 : 0 ≤ i) (h : xs[i.toNat]? = some x) : atI xs i = some x := by
  have e : ((i.toNat : Nat) : Int) = i := Int.toNat_of_nonneg h0
  rw [← e, atI_nat]; exact h
/-- a place that lies in the list -/
theorem atI_some {α : Type} {xs : List α} {i : Int} (h0 : 0 ≤ i) (h : i < xs.length) : ∃ x, x ∈ xs ∧ atI xs i = some x := by
  have hl : i.toNat < xs.length := by omega
  exact ⟨xs[i.toNat], List.getElem_mem hl, atI_of h0 (List.getElem?_eq_getElem hl)⟩
theorem ixN0 (n : Nat) (h : 0 < n) : ixN n 0 = some 0 := by
  unfold ixN; rw [if_pos (by omega), if_pos (by omega)]; rfl
theorem ixN_nat (n k : Nat) (h : k < n) : ixN n (k : Int) = some k := by
  unfold ixN; rw [if_pos (by omega), if_pos (by omega)]; simp
theorem ixN3 (n : Nat) (h : 3 < n) : ixN n 3 = some 3 := ixN_nat n 3 h
theorem ixN_4_0 : ixN (0 + 1 + 1 + 1 + 1) 0 = some 0 := rfl
theorem ixN_4_3 : ixN (0 + 1 + 1 + 1 + 1) 3 = some 3 := rfl
/-- the law's box: a cell with four ints -/
structure Bx (cs : List CO) (n : Int) : Prop where
  ex : ∃ x0 x1 x2 t : Int, cs = [.lst [.int x0, .int x1, .int x2, .int t]] ∧ 0 ≤ x0 ∧ 0 ≤ x1 ∧ x1 < 2147483629 ∧ 0 ≤ x2 ∧ x2 < 2147483587 ∧ 0 ≤ t ∧ t ≤ n
theorem Bx.mono {cs : List CO} {n m : Int} (h : Bx cs n) (l : n ≤ m) : Bx cs m := by
  obtain ⟨x0, x1, x2, t, e, a, b, c, d, f, g, i⟩ := h.ex
  exact ⟨x0, x1, x2, t, e, a, b, c, d, f, g, by omega⟩
/-- what the draw's second way needs: its base stays below 2 ^ 64 -/
theorem draw_small {x t c k : Int} (h0 : 0 ≤ x) (h1 : x < 2147483648) (t0 : 0 < t) (t1 : t ≤ 1048576) (c0 : 0 ≤ c) (c1 : c < 8192) (k0 : 0 ≤ k) (k1 : k < 1000) :
    (x * (2 * t + 3) + c * t * t + k).natAbs < 2 ^ 64 ∧ 0 ≤ x * (2 * t + 3) + c * t * t + k := by
  have a1 : 0 ≤ x * (2 * t + 3) := Int.mul_nonneg h0 (by omega)
  have a2 : x * (2 * t + 3) ≤ 2147483648 * (2 * t + 3) := Int.mul_le_mul_of_nonneg_right (by omega) (by omega)
  have b1 : 0 ≤ c * t := Int.mul_nonneg c0 (by omega)
  have b2 : c * t ≤ 8192 * t := Int.mul_le_mul_of_nonneg_right (by omega) (by omega)
  have b3 : 0 ≤ c * t * t := Int.mul_nonneg b1 (by omega)
  have b4 : c * t * t ≤ 8192 * t * t := Int.mul_le_mul_of_nonneg_right b2 (by omega)
  have b5 : 8192 * t * t ≤ 8192 * 1048576 * t := Int.mul_le_mul_of_nonneg_right (by omega) (by omega)
  omega
theorem draw_small2 {y x t k : Int} (y0 : 0 ≤ y) (y1 : y < 2147483648) (h0 : 0 ≤ x) (h1 : x < 2147483648) (t0 : 0 < t) (t1 : t ≤ 1048576) (k0 : 0 ≤ k) (k1 : k < 1000) :
    (y + x * t + k).natAbs < 2 ^ 64 ∧ 0 ≤ y + x * t + k := by
  have a1 : 0 ≤ x * t := Int.mul_nonneg h0 (by omega)
  have a2 : x * t ≤ 2147483648 * t := Int.mul_le_mul_of_nonneg_right (by omega) (by omega)
  omega
end DL

/-! DLn: the steps of a mirror as rewriting rules. -/
namespace DL
open PySem L2
section
variable {α β : Type} {g g' : G2} {gu : G1} {gn : GN} {fa fb fc fe fj f : FE} {ft fu : FT} {ra rb : FA} {fi : FI} {tg : FG} {s t : FS} {sl sl' : List SV} {cs c c' : List CO} {r r' : RV} {rs rs' : List RV} {b : Bool} {i j n m : Nat} {d : D} {ds : List D} {C : Addr} {fs : List (Str × D)}
theorem s_then_ok {a : α} {k : α → Res β} : Res.then (.ok a) k = k a := rfl
theorem s_then_exc {k : α → Res β} : Res.then (.exc C fs c) k = .exc C fs c := rfl
theorem s_then_bad {k : α → Res β} : Res.then .bad k = .bad := rfl
theorem s_toF_ok {a : α} {k : α → Flw} : Res.toF (.ok a) k = k a := rfl
theorem s_toF_exc {k : α → Flw} : Res.toF (.exc C fs c) k = .exc C fs c := rfl
theorem s_toF_bad {k : α → Flw} : Res.toF .bad k = .bad := rfl
def varO (cs : List CO) : Option SV → Res (RV × List CO)
  | some (.dat d) => .ok (.dat d, cs)
  | some (.own c) => .ok (.own c, cs)
  | some (.cell k) => .ok (.cell k, cs)
  | some (.scr ns) => .ok (.scr ns, cs)
  | _ => .bad
theorem s_var : dVar i sl cs = varO cs (sl[i]?) := rfl
theorem s_var_dat {x : D} : varO cs (some (.dat x)) = .ok (.dat x, cs) := rfl
theorem s_var_own {x : CO} : varO cs (some (.own x)) = .ok (.own x, cs) := rfl
theorem s_var_cell {x : Nat} : varO cs (some (.cell x)) = .ok (.cell x, cs) := rfl
theorem s_var_scr {x : List Int} : varO cs (some (.scr x)) = .ok (.scr x, cs) := rfl
theorem s_con : dCon d sl cs = .ok (.dat d, cs) := rfl
theorem s_view_dat {x : D} : RV.view cs (.dat x) = some x := rfl
theorem s_view_new {x : CO} : RV.view cs (.new x) = some x.D := rfl
theorem s_view_own {x : CO} : RV.view cs (.own x) = some x.D := rfl
theorem s_view_cell : RV.view cs (.cell i) = (cs[i]?).map CO.D := rfl
theorem s_D_lst {xs : List D} : CO.D (.lst xs) = .lst xs := rfl
theorem s_D_dct {xs : List (Key × D)} : CO.D (.dct xs) = .dct xs := rfl
theorem s_D_obj {xs : List (Str × D)} : CO.D (.obj C xs) = .obj C xs := rfl
theorem s_optE_some : optE (some r) cs = .ok (r, cs) := rfl
theorem s_optE_none : optE none cs = .bad := rfl
def vw2 (g : G2) (c : List CO) : Option D → Option D → Res (RV × List CO)
  | some x, some y => optE (g x y) c
  | _, _ => .bad
theorem s_vw2 {x y : D} : vw2 g c (some x) (some y) = optE (g x y) c := rfl
def kOp2 (g : G2) (a : RV) : RV × List CO → Res (RV × List CO) := fun b => vw2 g b.2 (a.view b.2) (b.1.view b.2)
def kOp1 (g : G2) (fb : FE) (sl : List SV) : RV × List CO → Res (RV × List CO) := fun a => (fb sl a.2).then (kOp2 g a.1)
theorem s_op : dOp g fa fb sl cs = (fa sl cs).then (kOp1 g fb sl) := rfl
theorem s_op1 : kOp1 g fb sl (r, c) = (fb sl c).then (kOp2 g r) := rfl
theorem s_op2 : kOp2 g r (r', c) = vw2 g c (r.view c) (r'.view c) := rfl
def vw1 (g : G1) (c : List CO) : Option D → Res (RV × List CO)
  | some x => optE (g x) c
  | _ => .bad
theorem s_vw1 {x : D} : vw1 gu c (some x) = optE (gu x) c := rfl
def kUn (g : G1) : RV × List CO → Res (RV × List CO) := fun a => vw1 g a.2 (a.1.view a.2)
theorem s_un : dUn gu fa sl cs = (fa sl cs).then (kUn gu) := rfl
theorem s_un1 : kUn gu (r, c) = vw1 gu c (r.view c) := rfl
def kToT : RV × List CO → Res (Bool × List CO) := fun a => match a.1 with
  | .dat (.bl b) => .ok (b, a.2)
  | _ => .bad
theorem s_toT : toT fa sl cs = (fa sl cs).then kToT := rfl
theorem s_toT1 : kToT (.dat (.bl b), c) = .ok (b, c) := rfl
def trO (c : List CO) : Option Bool → Res (Bool × List CO)
  | some b => .ok (b, c)
  | none => .bad
theorem s_trO : trO c (some b) = .ok (b, c) := rfl
def kTru : RV × List CO → Res (Bool × List CO) := fun a => trO a.2 ((a.1.view a.2).bind truD)
theorem s_toTru : toTru fa sl cs = (fa sl cs).then kTru := by unfold toTru kTru; congr 1; funext a; cases a.1.view a.2 with
  | none => rfl
  | some d => show (match truD d with | some b => Res.ok (b, a.2) | none => Res.bad) = trO a.2 (truD d); cases truD d <;> rfl
theorem s_toTru1 : kTru (r, c) = trO c ((r.view c).bind truD) := rfl
def kAnd (fb : FE) (sl : List SV) : RV × List CO → Res (RV × List CO) := fun a => match a.1 with
  | .dat (.bl true) => fb sl a.2
  | .dat (.bl false) => .ok (.dat (.bl false), a.2)
  | _ => .bad
def kOr (fb : FE) (sl : List SV) : RV × List CO → Res (RV × List CO) := fun a => match a.1 with
  | .dat (.bl true) => .ok (.dat (.bl true), a.2)
  | .dat (.bl false) => fb sl a.2
  | _ => .bad
def kNot : RV × List CO → Res (RV × List CO) := fun a => match a.1 with
  | .dat (.bl b) => .ok (.dat (.bl (!b)), a.2)
  | _ => .bad
theorem s_and : dAnd fa fb sl cs = (fa sl cs).then (kAnd fb sl) := rfl
theorem s_and_t : kAnd fb sl (.dat (.bl true), c) = fb sl c := rfl
theorem s_and_f : kAnd fb sl (.dat (.bl false), c) = .ok (.dat (.bl false), c) := rfl
theorem s_or : dOr fa fb sl cs = (fa sl cs).then (kOr fb sl) := rfl
theorem s_or_t : kOr fb sl (.dat (.bl true), c) = .ok (.dat (.bl true), c) := rfl
theorem s_or_f : kOr fb sl (.dat (.bl false), c) = fb sl c := rfl
theorem s_not : dNot fa sl cs = (fa sl cs).then kNot := rfl
theorem s_not1 : kNot (.dat (.bl b), c) = .ok (.dat (.bl (!b)), c) := rfl
def kTAnd (fb : FT) (sl : List SV) : Bool × List CO → Res (Bool × List CO) := fun a => if a.1 then fb sl a.2 else .ok (false, a.2)
def kTOr (fb : FT) (sl : List SV) : Bool × List CO → Res (Bool × List CO) := fun a => if a.1 then .ok (true, a.2) else fb sl a.2
def kTNot : Bool × List CO → Res (Bool × List CO) := fun a => .ok (!a.1, a.2)
theorem s_tand  : tAnd' ft fu sl cs = (ft sl cs).then (kTAnd fu sl) := rfl
theorem s_tand_t : kTAnd fu sl (true, c) = fu sl c := rfl
theorem s_tand_f : kTAnd fu sl (false, c) = .ok (false, c) := rfl
theorem s_tor  : tOr' ft fu sl cs = (ft sl cs).then (kTOr fu sl) := rfl
theorem s_tor_t : kTOr fu sl (true, c) = .ok (true, c) := rfl
theorem s_tor_f : kTOr fu sl (false, c) = fu sl c := rfl
theorem s_tnot  : tNot' ft sl cs = (ft sl cs).then kTNot := rfl
theorem s_tnot1 : kTNot (b, c) = .ok (!b, c) := rfl
def kIf (fa fb : FE) (sl : List SV) : Bool × List CO → Res (RV × List CO) := fun a => if a.1 then fa sl a.2 else fb sl a.2
theorem s_if : dIf ft fa fb sl cs = (ft sl cs).then (kIf fa fb sl) := rfl
theorem s_if_t : kIf fa fb sl (true, c) = fa sl c := rfl
theorem s_if_f : kIf fa fb sl (false, c) = fb sl c := rfl
def chB (g' : G2) (fc : FE) (sl : List SV) (b : RV) (c : List CO) : Option RV → Res (RV × List CO)
  | some (.dat (.bl true)) => (fc sl c).then fun z => match b.view z.2, z.1.view z.2 with
    | some y, some z1 => optE (g' y z1) z.2
    | _, _ => .bad
  | some (.dat (.bl false)) => .ok (.dat (.bl false), c)
  | _ => .bad
def chA (g g' : G2) (fc : FE) (sl : List SV) (b : RV) (c : List CO) : Option D → Option D → Res (RV × List CO)
  | some x, some y => chB g' fc sl b c (g x y)
  | _, _ => .bad
def kCh2 (g g' : G2) (fc : FE) (sl : List SV) (a : RV) : RV × List CO → Res (RV × List CO) := fun b => chA g g' fc sl b.1 b.2 (a.view b.2) (b.1.view b.2)
def kCh1 (g g' : G2) (fb fc : FE) (sl : List SV) : RV × List CO → Res (RV × List CO) := fun a => (fb sl a.2).then (kCh2 g g' fc sl a.1)
theorem s_ch : dChain g g' fa fb fc sl cs = (fa sl cs).then (kCh1 g g' fb fc sl) := rfl
theorem s_ch1 : kCh1 g g' fb fc sl (r, c) = (fb sl c).then (kCh2 g g' fc sl r) := rfl
theorem s_ch2 : kCh2 g g' fc sl r (r', c) = chA g g' fc sl r' c (r.view c) (r'.view c) := rfl
theorem s_chA {x y : D} : chA g g' fc sl r c (some x) (some y) = chB g' fc sl r c (g x y) := rfl
theorem s_chB_t : chB g' fc sl r c (some (.dat (.bl true))) = (fc sl c).then (kOp2 g' r) := rfl
theorem s_chB_f : chB g' fc sl r c (some (.dat (.bl false))) = .ok (.dat (.bl false), c) := rfl
def kFrz : RV × List CO → Res (RV × List CO) := fun a => match a.1 with
  | .new c => .ok (.dat c.D, a.2)
  | .own _ => .bad
  | r => .ok (r, a.2)
theorem s_frz : dFrz fa sl cs = (fa sl cs).then kFrz := rfl
theorem s_frz_dat : kFrz (.dat d, c) = .ok (.dat d, c) := rfl
theorem s_frz_cell : kFrz (.cell i, c) = .ok (.cell i, c) := rfl
theorem s_frz_scr {z : List Int} : kFrz (.scr z, c) = .ok (.scr z, c) := rfl
theorem s_frz_new {x : CO} : kFrz (.new x, c) = .ok (.dat x.D, c) := rfl
theorem s_nil : dNil sl cs = .ok ([], cs) := rfl
def kC2 (r : RV) : List RV × List CO → Res (List RV × List CO) := fun b => .ok (r :: b.1, b.2)
def kC1 (ra : FA) (sl : List SV) : RV × List CO → Res (List RV × List CO) := fun a => (ra sl a.2).then (kC2 a.1)
theorem s_cons : dCons fa ra sl cs = (dFrz fa sl cs).then (kC1 ra sl) := rfl
theorem s_consV : dConsV fa ra sl cs = (fa sl cs).then (kC1 ra sl) := rfl
theorem s_cons1 : kC1 ra sl (r, c) = (ra sl c).then (kC2 r) := rfl
theorem s_cons2 : kC2 r (rs, c) = .ok (r :: rs, c) := rfl
theorem s_datAll_nil : datAll [] = some [] := rfl
theorem s_datAll_cons : datAll (.dat d :: rs) = (datAll rs).map (d :: ·) := rfl
def tupO (c : List CO) : Option (List D) → Res (RV × List CO)
  | some ds => if ds.length ≤ sizeLine then .ok (.dat (.tup ds), c) else .bad
  | none => .bad
def lstO (c : List CO) : Option (List D) → Res (RV × List CO)
  | some ds => if ds.length ≤ sizeLine then .ok (.new (.lst ds), c) else .bad
  | none => .bad
def kTup : List RV × List CO → Res (RV × List CO) := fun a => tupO a.2 (datAll a.1)
def kLst : List RV × List CO → Res (RV × List CO) := fun a => lstO a.2 (datAll a.1)
theorem s_tup : dTup ra sl cs = (ra sl cs).then kTup := rfl
theorem s_lst : dLst ra sl cs = (ra sl cs).then kLst := rfl
theorem s_tup1 : kTup (rs, c) = tupO c (datAll rs) := rfl
theorem s_lst1 : kLst (rs, c) = lstO c (datAll rs) := rfl
theorem s_tupO (h : ds.length ≤ 16777216) : tupO c (some ds) = .ok (.dat (.tup ds), c) := if_pos h
theorem s_lstO (h : ds.length ≤ 16777216) : lstO c (some ds) = .ok (.new (.lst ds), c) := if_pos h
def cbO (g : GN) (c : List CO) : Option (List D) → Res (RV × List CO)
  | some ds => optE (g ds) c
  | none => .bad
def kCB (g : GN) : List RV × List CO → Res (RV × List CO) := fun a => cbO g a.2 (dCB.viewAll a.2 a.1)
theorem s_cb : dCB gn ra sl cs = (ra sl cs).then (kCB gn) := rfl
theorem s_cb1 : kCB gn (rs, c) = cbO gn c (dCB.viewAll c rs) := rfl
theorem s_cbO : cbO gn c (some ds) = optE (gn ds) c := rfl
theorem s_va_nil : dCB.viewAll c [] = some [] := rfl
def consO : Option D → Option (List D) → Option (List D)
  | some d, some ds => some (d :: ds)
  | _, _ => none
theorem s_va_cons : dCB.viewAll c (r :: rs) = consO (r.view c) (dCB.viewAll c rs) := by
  show (match r.view c, dCB.viewAll c rs with | some d, some ds => some (d :: ds) | _, _ => none) = _
  unfold consO; rfl
theorem s_consO : consO (some d) (some ds) = some (d :: ds) := rfl
def kCall (n : Nat) (φ : Phi) (drs : List RV) : List RV × List CO → Res (RV × List CO) := fun a => if (a.1 ++ drs).length = n then φ (a.1 ++ drs) a.2 else .bad
theorem s_call {φ : Phi} {drs : List RV} : dCall n φ drs ra sl cs = (ra sl cs).then (kCall n φ drs) := rfl
theorem s_call1 {φ : Phi} {drs : List RV} (h : (rs ++ drs).length = n) : kCall n φ drs (rs, c) = φ (rs ++ drs) c := if_pos h
def kCallK2 (n m : Nat) (φ : Phi) (g : List RV → List RV → List RV) (rs : List RV) : List RV × List CO → Res (RV × List CO) := fun b => if rs.length = n ∧ b.1.length = m then φ (g rs b.1) b.2 else .bad
def kCallK1 (n m : Nat) (φ : Phi) (g : List RV → List RV → List RV) (fk : FA) (sl : List SV) : List RV × List CO → Res (RV × List CO) := fun a => (fk sl a.2).then (kCallK2 n m φ g a.1)
theorem s_callK {φ : Phi} {g : List RV → List RV → List RV} : dCallK n m φ g ra rb sl cs = (ra sl cs).then (kCallK1 n m φ g rb sl) := rfl
theorem s_callK1 {φ : Phi} {g : List RV → List RV → List RV} : kCallK1 n m φ g rb sl (rs, c) = (rb sl c).then (kCallK2 n m φ g rs) := rfl
theorem s_callK2 {φ : Phi} {g : List RV → List RV → List RV} (h : rs.length = n) (h' : rs'.length = m) : kCallK2 n m φ g rs (rs', c) = φ (g rs rs') c := if_pos ⟨h, h'⟩
def isiO (T : String) (c : List CO) : Option D → Res (RV × List CO)
  | some d => match kindS d with
    | some s => match kitB s T with
      | some b => .ok (.dat (.bl b), c)
      | none => .bad
    | none => .bad
  | none => .bad
def kIsi (T : String) : RV × List CO → Res (RV × List CO) := fun a => isiO T a.2 (a.1.view a.2)
theorem s_isi {T : String} : dIsi T fa sl cs = (fa sl cs).then (kIsi T) := by unfold dIsi kIsi isiO; rfl
theorem s_isi1 {T : String} : kIsi T (r, c) = isiO T c (r.view c) := rfl
theorem s_isi_int_non  : isiO "int" c (some .non) = .ok (.dat (.bl false), c) := rfl
theorem s_isi_int_bl {b : Bool} : isiO "int" c (some (.bl b)) = .ok (.dat (.bl true), c) := rfl
theorem s_isi_int_int {b : Int} : isiO "int" c (some (.int b)) = .ok (.dat (.bl true), c) := rfl
theorem s_isi_int_str {b : Str} : isiO "int" c (some (.str b)) = .ok (.dat (.bl false), c) := rfl
theorem s_isi_int_lst {b : List D} : isiO "int" c (some (.lst b)) = .ok (.dat (.bl false), c) := rfl
theorem s_isi_int_tup {b : List D} : isiO "int" c (some (.tup b)) = .ok (.dat (.bl false), c) := rfl
theorem s_isi_int_dct {b : List (Key × D)} : isiO "int" c (some (.dct b)) = .ok (.dat (.bl false), c) := rfl
theorem s_isi_bool_non  : isiO "bool" c (some .non) = .ok (.dat (.bl false), c) := rfl
theorem s_isi_bool_bl {b : Bool} : isiO "bool" c (some (.bl b)) = .ok (.dat (.bl true), c) := rfl
theorem s_isi_bool_int {b : Int} : isiO "bool" c (some (.int b)) = .ok (.dat (.bl false), c) := rfl
theorem s_isi_bool_str {b : Str} : isiO "bool" c (some (.str b)) = .ok (.dat (.bl false), c) := rfl
theorem s_isi_bool_lst {b : List D} : isiO "bool" c (some (.lst b)) = .ok (.dat (.bl false), c) := rfl
theorem s_isi_bool_tup {b : List D} : isiO "bool" c (some (.tup b)) = .ok (.dat (.bl false), c) := rfl
theorem s_isi_bool_dct {b : List (Key × D)} : isiO "bool" c (some (.dct b)) = .ok (.dat (.bl false), c) := rfl
theorem s_isi_str_non  : isiO "str" c (some .non) = .ok (.dat (.bl false), c) := rfl
theorem s_isi_str_bl {b : Bool} : isiO "str" c (some (.bl b)) = .ok (.dat (.bl false), c) := rfl
theorem s_isi_str_int {b : Int} : isiO "str" c (some (.int b)) = .ok (.dat (.bl false), c) := rfl
theorem s_isi_str_str {b : Str} : isiO "str" c (some (.str b)) = .ok (.dat (.bl true), c) := rfl
theorem s_isi_str_lst {b : List D} : isiO "str" c (some (.lst b)) = .ok (.dat (.bl false), c) := rfl
theorem s_isi_str_tup {b : List D} : isiO "str" c (some (.tup b)) = .ok (.dat (.bl false), c) := rfl
theorem s_isi_str_dct {b : List (Key × D)} : isiO "str" c (some (.dct b)) = .ok (.dat (.bl false), c) := rfl
theorem s_isi_list_non  : isiO "list" c (some .non) = .ok (.dat (.bl false), c) := rfl
theorem s_isi_list_bl {b : Bool} : isiO "list" c (some (.bl b)) = .ok (.dat (.bl false), c) := rfl
theorem s_isi_list_int {b : Int} : isiO "list" c (some (.int b)) = .ok (.dat (.bl false), c) := rfl
theorem s_isi_list_str {b : Str} : isiO "list" c (some (.str b)) = .ok (.dat (.bl false), c) := rfl
theorem s_isi_list_lst {b : List D} : isiO "list" c (some (.lst b)) = .ok (.dat (.bl true), c) := rfl
theorem s_isi_list_tup {b : List D} : isiO "list" c (some (.tup b)) = .ok (.dat (.bl false), c) := rfl
theorem s_isi_list_dct {b : List (Key × D)} : isiO "list" c (some (.dct b)) = .ok (.dat (.bl false), c) := rfl
theorem s_isi_tuple_non  : isiO "tuple" c (some .non) = .ok (.dat (.bl false), c) := rfl
theorem s_isi_tuple_bl {b : Bool} : isiO "tuple" c (some (.bl b)) = .ok (.dat (.bl false), c) := rfl
theorem s_isi_tuple_int {b : Int} : isiO "tuple" c (some (.int b)) = .ok (.dat (.bl false), c) := rfl
theorem s_isi_tuple_str {b : Str} : isiO "tuple" c (some (.str b)) = .ok (.dat (.bl false), c) := rfl
theorem s_isi_tuple_lst {b : List D} : isiO "tuple" c (some (.lst b)) = .ok (.dat (.bl false), c) := rfl
theorem s_isi_tuple_tup {b : List D} : isiO "tuple" c (some (.tup b)) = .ok (.dat (.bl true), c) := rfl
theorem s_isi_tuple_dct {b : List (Key × D)} : isiO "tuple" c (some (.dct b)) = .ok (.dat (.bl false), c) := rfl
theorem s_isi_dict_non  : isiO "dict" c (some .non) = .ok (.dat (.bl false), c) := rfl
theorem s_isi_dict_bl {b : Bool} : isiO "dict" c (some (.bl b)) = .ok (.dat (.bl false), c) := rfl
theorem s_isi_dict_int {b : Int} : isiO "dict" c (some (.int b)) = .ok (.dat (.bl false), c) := rfl
theorem s_isi_dict_str {b : Str} : isiO "dict" c (some (.str b)) = .ok (.dat (.bl false), c) := rfl
theorem s_isi_dict_lst {b : List D} : isiO "dict" c (some (.lst b)) = .ok (.dat (.bl false), c) := rfl
theorem s_isi_dict_tup {b : List D} : isiO "dict" c (some (.tup b)) = .ok (.dat (.bl false), c) := rfl
theorem s_isi_dict_dct {b : List (Key × D)} : isiO "dict" c (some (.dct b)) = .ok (.dat (.bl true), c) := rfl
def seqK (t : FS) : Flw → Flw
  | .nx sl cs => t sl cs
  | r => r
theorem s_seq : dSeq s t sl cs = seqK t (s sl cs) := by unfold dSeq seqK; rfl
theorem s_seq_bk : seqK t (.bk sl c) = .bk sl c := rfl
theorem s_seq_ct : seqK t (.ct sl c) = .ct sl c := rfl
theorem s_seq_rt : seqK t (.rt r c) = .rt r c := rfl
theorem s_seq_exc : seqK t (.exc C fs c) = .exc C fs c := rfl
theorem s_seq_bad : seqK t (.bad ) = .bad  := rfl
theorem s_seq_nx : seqK t (.nx sl c) = t sl c := rfl
theorem s_nx : dNx sl cs = .nx sl cs := rfl
theorem s_bk : dBk sl cs = .bk sl cs := rfl
theorem s_ct : dCt sl cs = .ct sl cs := rfl
theorem s_badS : dBad sl cs = .bad := rfl
def kDrop (sl : List SV) : RV × List CO → Flw := fun a => .nx sl a.2
def kRet : RV × List CO → Flw := fun a => .rt a.1 a.2
theorem s_drop : dDrop fa sl cs = (fa sl cs).toF (kDrop sl) := rfl
theorem s_drop1 : kDrop sl (r, c) = .nx sl c := rfl
theorem s_ret : dRet fa sl cs = (fa sl cs).toF kRet := rfl
theorem s_ret1 : kRet (r, c) = .rt r c := rfl
theorem s_retN : dRetN sl cs = .rt (.dat .non) cs := rfl
def retO (cs : List CO) : Option SV → Flw
  | some (.dat d) => .rt (.dat d) cs
  | some (.own c) => .rt (.new c) cs
  | some (.cell k) => .rt (.cell k) cs
  | some (.scr ns) => .rt (.scr ns) cs
  | _ => .bad
theorem s_retV : dRetV i sl cs = retO cs (sl[i]?) := rfl
theorem s_retV_dat {x : D} : retO cs (some (.dat x)) = .rt (.dat x) cs := rfl
theorem s_retV_own {x : CO} : retO cs (some (.own x)) = .rt (.new x) cs := rfl
theorem s_retV_cell {x : Nat} : retO cs (some (.cell x)) = .rt (.cell x) cs := rfl
theorem s_retV_scr {x : List Int} : retO cs (some (.scr x)) = .rt (.scr x) cs := rfl
def kIfS (s t : FS) (sl : List SV) : Bool × List CO → Flw := fun a => if a.1 then s sl a.2 else t sl a.2
theorem s_ifS : dIfS ft s t sl cs = (ft sl cs).toF (kIfS s t sl) := rfl
theorem s_ifS_t : kIfS s t sl (true, c) = s sl c := rfl
theorem s_ifS_f : kIfS s t sl (false, c) = t sl c := rfl
theorem s_setS_dat {x : D} (h : i < sl.length) : setS i (.dat x) sl = some (sl.set i (.dat x)) := if_pos h
theorem s_setS_new {x : CO} (h : i < sl.length) : setS i (.new x) sl = some (sl.set i (.own x)) := if_pos h
theorem s_setS_cell {x : Nat} (h : i < sl.length) : setS i (.cell x) sl = some (sl.set i (.cell x)) := if_pos h
theorem s_setS_scr {x : List Int} (h : i < sl.length) : setS i (.scr x) sl = some (sl.set i (.scr x)) := if_pos h
theorem s_nxO : nxO (some sl) c = .nx sl c := rfl
def kAsg (i : Nat) (sl : List SV) : RV × List CO → Flw := fun a => nxO (setS i a.1 sl) a.2
theorem s_asg : dAsg i fa sl cs = (fa sl cs).toF (kAsg i sl) := rfl
theorem s_asg1 : kAsg i sl (r, c) = nxO (setS i r sl) c := rfl
def parO (j : Nat) (y : D) (c : List CO) : Option (List SV) → Flw
  | some s1 => nxO (setS j (.dat y) s1) c
  | none => .bad
def kPar (i j : Nat) (sl : List SV) : List RV × List CO → Flw := fun a => match a.1 with
  | [.dat x, .dat y] => parO j y a.2 (setS i (.dat x) sl)
  | _ => .bad
theorem s_par : dPar i j ra sl cs = (ra sl cs).toF (kPar i j sl) := by
  unfold dPar kPar; congr 1
theorem s_par1 {x y : D} : kPar i j sl ([.dat x, .dat y], c) = parO j y c (setS i (.dat x) sl) := rfl
theorem s_parO {y : D} : parO j y c (some sl) = nxO (setS j (.dat y) sl) c := rfl
theorem s_fz : dFz i s sl cs = s (frzS i sl) cs := rfl
def frzO (i : Nat) (sl : List SV) : Option SV → List SV
  | some (.own c) => sl.set i (.dat c.D)
  | _ => sl
theorem s_frzS : frzS i sl = frzO i sl (sl[i]?) := rfl
theorem s_frzS_own {x : CO} : frzO i sl (some (.own x)) = sl.set i (.dat x.D) := rfl
theorem s_frzS_dat : frzO i sl (some (.dat d)) = sl := rfl
theorem s_frzS_un : frzO i sl (some .un) = sl := rfl
def getP (cs : List CO) : Option SV → Option CO
  | some (.own c) => some c
  | some (.cell k) => cs[k]?
  | _ => none
theorem s_getO : getO i sl cs = getP cs (sl[i]?) := rfl
theorem s_getO_own {x : CO} : getP cs (some (.own x)) = some x := rfl
theorem s_getO_cell : getP cs (some (.cell j)) = cs[j]? := rfl
theorem s_getO_dat : getP cs (some (.dat d)) = none := rfl
def putP (i : Nat) (c : CO) (sl : List SV) (cs : List CO) : Option SV → Flw
  | some (.own _) => .nx (sl.set i (.own c)) cs
  | some (.cell k) => .nx sl (cs.set k c)
  | _ => .bad
theorem s_putO {x : CO} : putO i x sl cs = putP i x sl cs (sl[i]?) := rfl
theorem s_putO_own {x x' : CO} : putP i x sl cs (some (.own x')) = .nx (sl.set i (.own x)) cs := rfl
theorem s_putO_cell {x : CO} : putP i x sl cs (some (.cell j)) = .nx sl (cs.set j x) := rfl
def appO (i : Nat) (sl : List SV) (c : List CO) (d : D) : Option CO → Flw
  | some (.lst xs) => if xs.length < sizeLine then putO i (.lst (xs ++ [d])) sl c else .bad
  | _ => .bad
def kApp (i : Nat) (sl : List SV) : List RV × List CO → Flw := fun a => match a.1 with
  | [.dat d] => appO i sl a.2 d (getO i sl a.2)
  | _ => .bad
def appS (ra : FA) (i : Nat) (sl : List SV) (cs : List CO) : Option CO → Flw
  | some (.lst _) => (ra sl cs).toF (kApp i sl)
  | _ => .bad
theorem s_app : dApp i ra sl cs = appS ra i sl cs (getO i sl cs) := by
  unfold dApp appS
  cases getO i sl cs with
  | none => rfl
  | some x => cases x with
    | lst xs =>
      show Res.toF _ _ = Res.toF _ _
      congr 1; funext a
      obtain ⟨rs, c⟩ := a
      match rs with
      | [] => rfl
      | [.dat d] =>
        unfold kApp appO
        dsimp only
        cases getO i sl c with
        | none => rfl
        | some y => cases y <;> rfl
      | [.new _] => rfl
      | [.own _] => rfl
      | [.cell _] => rfl
      | [.scr _] => rfl
      | (.dat _) :: _ :: _ => rfl
      | (.new _) :: _ :: _ => rfl
      | (.own _) :: _ :: _ => rfl
      | (.cell _) :: _ :: _ => rfl
      | (.scr _) :: _ :: _ => rfl
    | dct _ => rfl
    | obj _ _ => rfl
theorem s_appS {xs : List D} : appS ra i sl cs (some (.lst xs)) = (ra sl cs).toF (kApp i sl) := rfl
theorem s_app1 : kApp i sl ([.dat d], c) = appO i sl c d (getO i sl c) := rfl
theorem s_appO {xs : List D} (h : xs.length < 16777216) : appO i sl c d (some (.lst xs)) = putO i (.lst (xs ++ [d])) sl c := if_pos h
def sxP (i : Nat) (sl : List SV) (c : List CO) (d : D) (xs : List D) : Option Nat → Flw
  | some n => putO i (.lst (xs.set n d)) sl c
  | none => .bad
def sxO (i : Nat) (sl : List SV) (c : List CO) (d : D) (r : RV) : Option CO → Flw := fun o => match r, o with
  | .dat (.int j), some (.lst xs) => sxP i sl c d xs (ixN xs.length j)
  | _, _ => .bad
def kSx2 (i : Nat) (sl : List SV) (d : D) : RV × List CO → Flw := fun b => sxO i sl b.2 d b.1 (getO i sl b.2)
def sxG (i : Nat) (fj : FE) (sl : List SV) (c : List CO) (d : D) : Option CO → Flw
  | some _ => (fj sl c).toF (kSx2 i sl d)
  | none => .bad
def kSx1 (i : Nat) (fj : FE) (sl : List SV) : RV × List CO → Flw := fun a => match a.1 with
  | .dat d => sxG i fj sl a.2 d (getO i sl a.2)
  | _ => .bad
theorem s_sx : dSetIx i fe fj sl cs = (dFrz fe sl cs).toF (kSx1 i fj sl) := rfl
theorem s_sx1 : kSx1 i fj sl (.dat d, c) = sxG i fj sl c d (getO i sl c) := rfl
theorem s_sxG {x : CO} : sxG i fj sl c d (some x) = (fj sl c).toF (kSx2 i sl d) := rfl
theorem s_sx2 : kSx2 i sl d (r, c) = sxO i sl c d r (getO i sl c) := rfl
theorem s_sxO {k : Int} {xs : List D} : sxO i sl c d (.dat (.int k)) (some (.lst xs)) = sxP i sl c d xs (ixN xs.length k) := rfl
theorem s_sxP {xs : List D} : sxP i sl c d xs (some n) = putO i (.lst (xs.set n d)) sl c := rfl
def kFor (t : FG) (body : FS) (sl : List SV) : List D × List CO → Flw := fun a => loopF t body a.1 sl a.2
theorem s_for : dFor fi tg s sl cs = (fi sl cs).toF (kFor tg s sl) := rfl
theorem s_for1 : kFor tg s sl (ds, c) = loopF tg s ds sl c := rfl
theorem s_tgN : tgN i d sl = setS i (.dat d) sl := rfl
theorem s_tgT {is : List Nat} : tgT is (.tup ds) sl = tgAll is ds sl := rfl
theorem s_tgAll_nil : tgAll [] [] sl = some sl := rfl
def tgA1 (is : List Nat) (ds : List D) : Option (List SV) → Option (List SV)
  | some s1 => tgAll is ds s1
  | none => none
theorem s_tgAll_cons {is : List Nat} : tgAll (i :: is) (d :: ds) sl = tgA1 is ds (setS i (.dat d) sl) := rfl
theorem s_tgA1 {is : List Nat} : tgA1 is ds (some sl) = tgAll is ds sl := rfl
def kUnp (t : FG) (sl : List SV) : RV × List CO → Flw := fun a => match a.1 with
  | .dat d => nxO (t d sl) a.2
  | _ => .bad
theorem s_unp : dUnp tg fa sl cs = (dFrz fa sl cs).toF (kUnp tg sl) := rfl
theorem s_unp1 : kUnp tg sl (.dat d, c) = nxO (tg d sl) c := rfl
theorem s_while : dWhile n ft s sl cs = whileF ft s n sl cs := rfl
def kItems : RV × List CO → Res (List D × List CO) := fun a => match a.1 with
  | .dat (.lst ds) => .ok (ds, a.2)
  | .dat (.tup ds) => .ok (ds, a.2)
  | .dat (.str z) => .ok (z.cps.toList.map one, a.2)
  | _ => .bad
theorem s_items : itemsOf fa sl cs = (dFrz fa sl cs).then kItems := rfl
theorem s_items_l : kItems (.dat (.lst ds), c) = .ok (ds, c) := rfl
theorem s_items_t : kItems (.dat (.tup ds), c) = .ok (ds, c) := rfl
theorem s_items_s {z : Str} : kItems (.dat (.str z), c) = .ok (z.cps.toList.map one, c) := rfl
def kR1 : List RV × List CO → Res (List D × List CO) := fun a => match a.1 with
  | [.dat (.int j)] => if -(2 ^ 62) ≤ j ∧ j < 2 ^ 62 then .ok (rngL 0 j.toNat, a.2) else .bad
  | _ => .bad
theorem s_r1 : rng1 ra sl cs = (ra sl cs).then kR1 := rfl
theorem s_r11 {k : Int} (h0 : -4611686018427387904 ≤ k) (h1 : k < 4611686018427387904) : kR1 ([.dat (.int k)], c) = .ok (rngL 0 k.toNat, c) := if_pos ⟨h0, h1⟩
def kR2 : List RV × List CO → Res (List D × List CO) := fun a => match a.1 with
  | [.dat (.int i), .dat (.int j)] => if -(2 ^ 62) ≤ i ∧ i < 2 ^ 62 ∧ -(2 ^ 62) ≤ j ∧ j < 2 ^ 62 then .ok (rngL i (j - i).toNat, a.2) else .bad
  | _ => .bad
theorem s_r2 : rng2 ra sl cs = (ra sl cs).then kR2 := rfl
theorem s_r21 {k l : Int} (h0 : -4611686018427387904 ≤ k) (h1 : k < 4611686018427387904) (h2 : -4611686018427387904 ≤ l) (h3 : l < 4611686018427387904) : kR2 ([.dat (.int k), .dat (.int l)], c) = .ok (rngL k (l - k).toNat, c) := if_pos ⟨h0, h1, h2, h3⟩
def kR3 : List RV × List CO → Res (List D × List CO) := fun a => match a.1 with
  | [.dat (.int i), .dat (.int j), .dat (.int c)] => if c ≠ 0 ∧ c.natAbs < 1073741824 ∧ Builtin.Range.small i j c = true ∧ 0 ≤ Builtin.Range.rangeSize i j c then .ok (rngC i c (Builtin.Range.rangeSize i j c).toNat, a.2) else .bad
  | _ => .bad
theorem s_r3 : rng3 ra sl cs = (ra sl cs).then kR3 := rfl
/-- range of three: what it needs -/
def r3ok (i j c : Int) : Bool := decide (c ≠ 0 ∧ c.natAbs < 1073741824 ∧ Builtin.Range.small i j c = true ∧ 0 ≤ Builtin.Range.rangeSize i j c)
theorem s_r31 {k l q : Int} (h : r3ok k l q = true) : kR3 ([.dat (.int k), .dat (.int l), .dat (.int q)], c) = .ok (rngC k q (Builtin.Range.rangeSize k l q).toNat, c) := if_pos (of_decide_eq_true h)
def kEn : List RV × List CO → Res (List D × List CO) := fun a => match a.1 with
  | [.dat (.lst ds)] => .ok (enumL 0 ds, a.2)
  | _ => .bad
theorem s_en : enumF ra sl cs = (ra sl cs).then kEn := rfl
theorem s_en1 : kEn ([.dat (.lst ds)], c) = .ok (enumL 0 ds, c) := rfl
def kZip : List RV × List CO → Res (List D × List CO) := fun a => match a.1 with
  | [.dat (.lst ds), .dat (.lst es)] => .ok (zipL ds es, a.2)
  | _ => .bad
theorem s_zip : zipF ra sl cs = (ra sl cs).then kZip := rfl
theorem s_zip1 {es : List D} : kZip ([.dat (.lst ds), .dat (.lst es)], c) = .ok (zipL ds es, c) := rfl
def kLc2 : List D × List CO → Res (RV × List CO) := fun b => .ok (.new (.lst b.1), b.2)
def kLc (t : FG) (ft : FT) (fe : FE) (vs : List Nat) (sl : List SV) : List D × List CO → Res (RV × List CO) := fun a => (lcF t ft fe (wipeL vs sl) a.1 [] a.2).then kLc2
theorem s_lc {vs : List Nat} : dLc fi tg ft fe vs sl cs = (fi sl cs).then (kLc tg ft fe vs sl) := rfl
theorem s_lc1 {vs : List Nat} : kLc tg ft fe vs sl (ds, c) = (lcF tg ft fe (wipeL vs sl) ds [] c).then kLc2 := rfl
theorem s_lc2 : kLc2 (ds, c) = .ok (.new (.lst ds), c) := rfl
theorem s_yes : tYesD sl cs = .ok (true, cs) := rfl
def lenO (cs : List CO) : Option SV → Res (RV × List CO)
  | some (.scr ns) => .ok (.dat (.int ns.length), cs)
  | _ => .bad
theorem s_lenS : dLenS i sl cs = lenO cs (sl[i]?) := rfl
theorem s_lenO {z : List Int} : lenO cs (some (.scr z)) = .ok (.dat (.int z.length), cs) := rfl
def ixSO (c : List CO) : Option Int → Res (RV × List CO)
  | some n => .ok (.dat (.int n), c)
  | none => .bad
def kIxS (z : List Int) : RV × List CO → Res (RV × List CO) := fun b => match b.1 with
  | .dat (.int j) => ixSO b.2 (atI z j)
  | _ => .bad
def ixSP (fa : FE) (sl : List SV) (cs : List CO) : Option SV → Res (RV × List CO)
  | some (.scr z) => (fa sl cs).then (kIxS z)
  | _ => .bad
theorem s_ixS : dIxS i fa sl cs = ixSP fa sl cs (sl[i]?) := rfl
theorem s_ixSP {z : List Int} : ixSP fa sl cs (some (.scr z)) = (fa sl cs).then (kIxS z) := rfl
theorem s_ixS1 {z : List Int} {k : Int} : kIxS z (.dat (.int k), c) = ixSO c (atI z k) := rfl
theorem s_ixSO {k : Int} : ixSO c (some k) = .ok (.dat (.int k), c) := rfl
def pinO (i : Nat) (s : FS) (sl : List SV) (cs : List CO) : Option SV → Flw
  | some (.own c) => unpin cs.length (s (sl.set i (.cell cs.length)) (cs ++ [c]))
  | _ => .bad
theorem s_pin : dPin i s sl cs = pinO i s sl cs (sl[i]?) := rfl
theorem s_pinO {x : CO} : pinO i s sl cs (some (.own x)) = unpin cs.length (s (sl.set i (.cell cs.length)) (cs ++ [x])) := rfl
theorem s_unpin_nx : unpin n (.nx sl cs) = .nx (sl.map (killS n)) (cs.take n) := rfl
theorem s_unpin_bk : unpin n (.bk sl cs) = .bk (sl.map (killS n)) (cs.take n) := rfl
theorem s_unpin_ct : unpin n (.ct sl cs) = .ct (sl.map (killS n)) (cs.take n) := rfl
theorem s_unpin_dat : unpin n (.rt (.dat d) cs) = .rt (.dat d) (cs.take n) := rfl
theorem s_unpin_new {x : CO} : unpin n (.rt (.new x) cs) = .rt (.new x) (cs.take n) := rfl
def runK : Flw → Res (RV × List CO)
  | .nx _ c => .ok (.dat .non, c)
  | .rt (.own _) _ => .bad
  | .rt r c => .ok (r, c)
  | .exc C fs c => .exc C fs c
  | _ => .bad
def runO (n : Nat) (f : FS) (cs : List CO) : Option (List SV) → Res (RV × List CO)
  | some sl => runK (f (sl ++ List.replicate n .un) cs)
  | none => .bad
theorem s_runB : runB n s rs cs = runO n s cs (svAll rs) := rfl
theorem s_runO : runO n s cs (some sl) = runK (s (sl ++ List.replicate n .un) cs) := rfl
theorem s_run_nx : runK (.nx sl c) = .ok (.dat .non, c) := rfl
theorem s_run_dat : runK (.rt (.dat d) c) = .ok (.dat d, c) := rfl
theorem s_run_new {x : CO} : runK (.rt (.new x) c) = .ok (.new x, c) := rfl
theorem s_run_cell : runK (.rt (.cell i) c) = .ok (.cell i, c) := rfl
theorem s_run_scr {z : List Int} : runK (.rt (.scr z) c) = .ok (.scr z, c) := rfl
theorem s_run_exc : runK (.exc C fs c) = .exc C fs c := rfl
theorem s_sv_nil : svAll [] = some [] := rfl
def svC : Option SV → Option (List SV) → Option (List SV)
  | some s, some l => some (s :: l)
  | _, _ => none
theorem s_sv_cons : svAll (r :: rs) = svC (svOf r) (svAll rs) := by
  show (match svOf r, svAll rs with | some s, some l => some (s :: l) | _, _ => none) = _
  unfold svC; rfl
theorem s_svC {x : SV} : svC (some x) (some sl) = some (x :: sl) := rfl
theorem s_svO_dat : svOf (.dat d) = some (.dat d) := rfl
theorem s_svO_cell : svOf (.cell i) = some (.cell i) := rfl
theorem s_svO_scr {z : List Int} : svOf (.scr z) = some (.scr z) := rfl
theorem s_gSub {x y : Int} : gSub (.int x) (.int y) = some (.dat (.int (x - y))) := rfl
theorem s_gLt {x y : Int} : gLt (.int x) (.int y) = some (.dat (.bl (decide (x < y)))) := rfl
theorem s_gLe {x y : Int} : gLe (.int x) (.int y) = some (.dat (.bl (decide (x ≤ y)))) := rfl
theorem s_gGt {x y : Int} : gGt (.int x) (.int y) = some (.dat (.bl (decide (y < x)))) := rfl
theorem s_gGe {x y : Int} : gGe (.int x) (.int y) = some (.dat (.bl (decide (y ≤ x)))) := rfl
theorem s_gAdd {x y : Int} : gAdd (.int x) (.int y) = some (.dat (.int (x + y))) := rfl
theorem s_gMul {x y : Int} (h : mulB x y = true) : gMul (.int x) (.int y) = some (.dat (.int (x * y))) := if_pos h
theorem s_gFdiv {x y : Int} (h0 : 0 < y) (h1 : y < 1073741824) : gFdiv (.int x) (.int y) = some (.dat (.int (x / y))) := by show (if (decide (0 < y) && decide (y < 1073741824)) = true then _ else _) = _; rw [decide_eq_true h0, decide_eq_true h1]; rfl
theorem s_gMod {x y : Int} (h0 : 0 < y) : gMod (.int x) (.int y) = some (.dat (.int (x % y))) := by show (if (decide (0 < y)) = true then _ else _) = _; rw [decide_eq_true h0]; rfl
theorem s_gPow {x y : Int} (h0 : 0 ≤ y) (h1 : y ≤ 1000000) (h2 : x.natAbs < 18446744073709551616) : gPow (.int x) (.int y) = some (.dat (.int (x ^ y.toNat))) := by show (if (decide (0 ≤ y) && (decide (y ≤ 1000000) && decide (x.natAbs < 2 ^ 64))) = true then _ else _) = _; rw [decide_eq_true h0, decide_eq_true h1, decide_eq_true (show x.natAbs < 2 ^ 64 from h2)]; rfl
theorem s_gNeg {x : Int} : gNeg (.int x) = some (.dat (.int (-x))) := rfl
theorem s_gAddL {xs ys : List D} (h : xs.length + ys.length ≤ 16777216) : gAdd (.lst xs) (.lst ys) = some (.new (.lst (xs ++ ys))) := if_pos h
theorem s_gAddS {x y : Str} (h : x.length + y.length ≤ 16777216) : gAdd (.str x) (.str y) = some (.dat (.str (x ++ y))) := if_pos h
theorem s_gEq {d' : D} : gEq d d' = (eqB d d').map fun k => .dat (.bl k) := by unfold gEq; cases eqB d d' <;> rfl
theorem s_gNe {d' : D} : gNe d d' = (eqB d d').map fun k => .dat (.bl (!k)) := by unfold gNe; cases eqB d d' <;> rfl
theorem s_eq_int {x y : Int} : eqB (.int x) (.int y) = some (decide (x = y)) := rfl
theorem s_eq_bl {x y : Bool} : eqB (.bl x) (.bl y) = some (decide (x = y)) := rfl
theorem s_eq_str {x y : Str} : eqB (.str x) (.str y) = some (decide (x = y)) := rfl
theorem s_eq_nn : eqB .non .non = some true := rfl
theorem s_eq_ni {x : Int} : eqB .non (.int x) = some false := rfl
theorem s_eq_in {x : Int} : eqB (.int x) .non = some false := rfl
theorem s_eq_ns {x : Str} : eqB .non (.str x) = some false := rfl
theorem s_eq_sn {x : Str} : eqB (.str x) .non = some false := rfl
theorem s_eq_si {x : Str} {y : Int} : eqB (.str x) (.int y) = some false := rfl
theorem s_eq_is {x : Str} {y : Int} : eqB (.int y) (.str x) = some false := rfl
theorem s_gIsN_non : gIsN .non .non = some (.dat (.bl true)) := rfl
theorem s_gIsN_int {x : Int} : gIsN (.int x) .non = some (.dat (.bl false)) := rfl
theorem s_gIsN_bl {x : Bool} : gIsN (.bl x) .non = some (.dat (.bl false)) := rfl
theorem s_gIsN_str {x : Str} : gIsN (.str x) .non = some (.dat (.bl false)) := rfl
theorem s_gIsN_lst {x : List D} : gIsN (.lst x) .non = some (.dat (.bl false)) := rfl
theorem s_gIsN_tup {x : List D} : gIsN (.tup x) .non = some (.dat (.bl false)) := rfl
theorem s_gIsN_dct {x : List (Key × D)} : gIsN (.dct x) .non = some (.dat (.bl false)) := rfl
theorem s_gNotN_non : gNotN .non .non = some (.dat (.bl false)) := rfl
theorem s_gNotN_int {x : Int} : gNotN (.int x) .non = some (.dat (.bl true)) := rfl
theorem s_gNotN_bl {x : Bool} : gNotN (.bl x) .non = some (.dat (.bl true)) := rfl
theorem s_gNotN_str {x : Str} : gNotN (.str x) .non = some (.dat (.bl true)) := rfl
theorem s_gNotN_lst {x : List D} : gNotN (.lst x) .non = some (.dat (.bl true)) := rfl
theorem s_gNotN_tup {x : List D} : gNotN (.tup x) .non = some (.dat (.bl true)) := rfl
theorem s_gNotN_dct {x : List (Key × D)} : gNotN (.dct x) .non = some (.dat (.bl true)) := rfl
theorem s_gIx_l {k : Int} : gIx (.lst ds) (.int k) = (atI ds k).map RV.dat := rfl
theorem s_gIx_t {k : Int} : gIx (.tup ds) (.int k) = (atI ds k).map RV.dat := rfl
theorem s_gIx_s {z : Str} {k : Int} (h : z.length ≤ 16777216) : gIx (.str z) (.int k) = (atI z.cps.toList k).map fun c => .dat (.str ⟨#[c]⟩) := if_pos h
theorem s_gLen_l : gLen [.lst ds] = some (.dat (.int ds.length)) := rfl
theorem s_gLen_t : gLen [.tup ds] = some (.dat (.int ds.length)) := rfl
theorem s_gLen_s {z : Str} (h : z.length ≤ 16777216) : gLen [.str z] = some (.dat (.int z.length)) := if_pos h
theorem s_gMax {x y : Int} : gMax [.int x, .int y] = some (.dat (.int (if y > x then y else x))) := rfl
theorem s_gMin {x y : Int} : gMin [.int x, .int y] = some (.dat (.int (if y < x then y else x))) := rfl
theorem s_gAbs {x : Int} : gAbs [.int x] = some (.dat (.int (if x < 0 then -x else x))) := rfl
theorem s_gInt {x : Int} : gInt [.int x] = some (.dat (.int x)) := rfl
theorem s_gIntB {x : Bool} : gInt [.bl x] = some (.dat (.int (if x then 1 else 0))) := rfl
theorem s_gList_l : gList [.lst ds] = some (.new (.lst ds)) := rfl
theorem s_gList_t : gList [.tup ds] = some (.new (.lst ds)) := rfl
theorem s_gRepr (h : reprOk d = true) : gRepr [d] = some (.dat (.str (PyData.shown d.py))) := if_pos h
theorem s_tr_non : truD .non = some false := rfl
theorem s_tr_bl : truD (.bl b) = some b := rfl
theorem s_tr_int {x : Int} : truD (.int x) = some (x != 0) := rfl
theorem s_tr_lst : truD (.lst ds) = some (!ds.isEmpty) := rfl
theorem s_tr_tup : truD (.tup ds) = some (!ds.isEmpty) := rfl
theorem s_tr_str {z : Str} (h : z.length ≤ 16777216) : truD (.str z) = some ((z.length : Int) != 0) := if_pos h
end
end DL

local macro_rules | `(tactic| walk_at "dl") => `(tactic| simp only [
  DL.s_then_ok, DL.s_then_exc, DL.s_then_bad, DL.s_toF_ok, DL.s_toF_exc, DL.s_toF_bad, DL.s_var, DL.s_var_dat, DL.s_var_own, DL.s_var_cell, DL.s_var_scr, DL.s_con, DL.s_view_dat,
  DL.s_view_new, DL.s_view_own, DL.s_view_cell, DL.s_D_lst, DL.s_D_dct, DL.s_D_obj, DL.s_optE_some, DL.s_optE_none, DL.s_vw2, DL.s_op, DL.s_op1, DL.s_op2, DL.s_vw1, DL.s_un,
  DL.s_un1, DL.s_toT, DL.s_toT1, DL.s_trO, DL.s_toTru, DL.s_toTru1, DL.s_and, DL.s_and_t, DL.s_and_f, DL.s_or, DL.s_or_t, DL.s_or_f, DL.s_not, DL.s_not1, DL.s_tand, DL.s_tand_t,
  DL.s_tand_f, DL.s_tor, DL.s_tor_t, DL.s_tor_f, DL.s_tnot, DL.s_tnot1, DL.s_if, DL.s_if_t, DL.s_if_f, DL.s_ch, DL.s_ch1, DL.s_ch2, DL.s_chA, DL.s_chB_t, DL.s_chB_f, DL.s_frz,
  DL.s_frz_dat, DL.s_frz_cell, DL.s_frz_scr, DL.s_frz_new, DL.s_nil, DL.s_cons, DL.s_consV, DL.s_cons1, DL.s_cons2, DL.s_datAll_nil, DL.s_datAll_cons, DL.s_tup, DL.s_lst, DL.s_tup1,
  DL.s_lst1, DL.s_tupO, DL.s_lstO, DL.s_cb, DL.s_cb1, DL.s_cbO, DL.s_va_nil, DL.s_va_cons, DL.s_consO, DL.s_call, DL.s_call1, DL.s_callK, DL.s_callK1, DL.s_callK2, DL.s_isi,
  DL.s_isi1, DL.s_isi_int_non, DL.s_isi_int_bl, DL.s_isi_int_int, DL.s_isi_int_str, DL.s_isi_int_lst, DL.s_isi_int_tup, DL.s_isi_int_dct, DL.s_isi_bool_non, DL.s_isi_bool_bl,
  DL.s_isi_bool_int, DL.s_isi_bool_str, DL.s_isi_bool_lst, DL.s_isi_bool_tup, DL.s_isi_bool_dct, DL.s_isi_str_non, DL.s_isi_str_bl, DL.s_isi_str_int, DL.s_isi_str_str,
  DL.s_isi_str_lst, DL.s_isi_str_tup, DL.s_isi_str_dct, DL.s_isi_list_non, DL.s_isi_list_bl, DL.s_isi_list_int, DL.s_isi_list_str, DL.s_isi_list_lst, DL.s_isi_list_tup,
  DL.s_isi_list_dct, DL.s_isi_tuple_non, DL.s_isi_tuple_bl, DL.s_isi_tuple_int, DL.s_isi_tuple_str, DL.s_isi_tuple_lst, DL.s_isi_tuple_tup, DL.s_isi_tuple_dct, DL.s_isi_dict_non,
  DL.s_isi_dict_bl, DL.s_isi_dict_int, DL.s_isi_dict_str, DL.s_isi_dict_lst, DL.s_isi_dict_tup, DL.s_isi_dict_dct, DL.s_seq, DL.s_seq_bk, DL.s_seq_ct, DL.s_seq_rt, DL.s_seq_exc,
  DL.s_seq_bad, DL.s_seq_nx, DL.s_nx, DL.s_bk, DL.s_ct, DL.s_badS, DL.s_drop, DL.s_drop1, DL.s_ret, DL.s_ret1, DL.s_retN, DL.s_retV, DL.s_retV_dat, DL.s_retV_own, DL.s_retV_cell,
  DL.s_retV_scr, DL.s_ifS, DL.s_ifS_t, DL.s_ifS_f, DL.s_setS_dat, DL.s_setS_new, DL.s_setS_cell, DL.s_setS_scr, DL.s_nxO, DL.s_asg, DL.s_asg1, DL.s_par, DL.s_par1, DL.s_parO,
  DL.s_fz, DL.s_frzS, DL.s_frzS_own, DL.s_frzS_dat, DL.s_frzS_un, DL.s_getO, DL.s_getO_own, DL.s_getO_cell, DL.s_getO_dat, DL.s_putO, DL.s_putO_own, DL.s_putO_cell, DL.s_app,
  DL.s_appS, DL.s_app1, DL.s_appO, DL.s_sx, DL.s_sx1, DL.s_sxG, DL.s_sx2, DL.s_sxO, DL.s_sxP, DL.s_for, DL.s_for1, DL.s_tgN, DL.s_tgT, DL.s_tgAll_nil, DL.s_tgAll_cons, DL.s_tgA1,
  DL.s_unp, DL.s_unp1, DL.s_while, DL.s_items, DL.s_items_l, DL.s_items_t, DL.s_items_s, DL.s_r1, DL.s_r11, DL.s_r2, DL.s_r21, DL.s_r3, DL.s_r31, DL.s_en, DL.s_en1, DL.s_zip,
  DL.s_zip1, DL.s_lc, DL.s_lc1, DL.s_lc2, DL.s_yes, DL.s_lenS, DL.s_lenO, DL.s_ixS, DL.s_ixSP, DL.s_ixS1, DL.s_ixSO, DL.s_pin, DL.s_pinO, DL.s_unpin_nx, DL.s_unpin_bk, DL.s_unpin_ct,
  DL.s_unpin_dat, DL.s_unpin_new, DL.s_runB, DL.s_runO, DL.s_run_nx, DL.s_run_dat, DL.s_run_new, DL.s_run_cell, DL.s_run_scr, DL.s_run_exc, DL.s_sv_nil, DL.s_sv_cons, DL.s_svC,
  DL.s_svO_dat, DL.s_svO_cell, DL.s_svO_scr, DL.s_gSub, DL.s_gLt, DL.s_gLe, DL.s_gGt, DL.s_gGe, DL.s_gAdd, DL.s_gMul, DL.s_gFdiv, DL.s_gMod, DL.s_gPow, DL.s_gNeg, DL.s_gAddL,
  DL.s_gAddS, DL.s_gEq, DL.s_gNe, DL.s_eq_int, DL.s_eq_bl, DL.s_eq_str, DL.s_eq_nn, DL.s_eq_ni, DL.s_eq_in, DL.s_eq_ns, DL.s_eq_sn, DL.s_eq_si, DL.s_eq_is, DL.s_gIsN_non,
  DL.s_gIsN_int, DL.s_gIsN_bl, DL.s_gIsN_str, DL.s_gIsN_lst, DL.s_gIsN_tup, DL.s_gIsN_dct, DL.s_gNotN_non, DL.s_gNotN_int, DL.s_gNotN_bl, DL.s_gNotN_str, DL.s_gNotN_lst,
  DL.s_gNotN_tup, DL.s_gNotN_dct, DL.s_gIx_l, DL.s_gIx_t, DL.s_gIx_s, DL.s_gLen_l, DL.s_gLen_t, DL.s_gLen_s, DL.s_gMax, DL.s_gMin, DL.s_gAbs, DL.s_gInt, DL.s_gIntB, DL.s_gList_l,
  DL.s_gList_t, DL.s_gRepr, DL.s_tr_non, DL.s_tr_bl, DL.s_tr_int, DL.s_tr_lst, DL.s_tr_tup, DL.s_tr_str, DL.arr, DL.atI0, DL.atI1, DL.atI2, DL.atI3, DL.atI4, DL.atI5, DL.ixN_4_0,
  DL.ixN_4_3, DL.mulB_l, DL.mulB_r, List.getElem?_cons_zero, List.getElem?_cons_succ, List.set_cons_zero, List.set_cons_succ, List.length_cons, List.length_nil, List.cons_append,
  List.nil_append, List.append_nil, List.replicate_succ, List.replicate_zero, List.length_set, Option.map_some, Option.map_none, Option.bind_some, List.map_cons, List.map_nil,
  List.isEmpty_cons, List.isEmpty_nil, DL.killS, List.take_succ_cons, List.take_zero, List.drop_succ_cons, List.drop_zero, List.drop_nil, List.take_nil, ite_true, ite_false,
  Bool.true_and, Bool.and_true, Bool.true_or, Bool.or_true, Bool.false_or, Bool.or_false, Bool.false_and, Bool.and_false, Bool.not_true, Bool.not_false, Bool.false_eq_true, eq_self,
  decide_true, decide_false, Nat.lt_add_one, Nat.zero_lt_succ, Nat.reduceAdd, Nat.reduceLT, Nat.reduceLeDiff, Int.reduceLT, Int.reduceLE, Int.reducePow, Int.reduceToNat,
  Int.reduceNeg, Int.reduceAbs, Int.reduceMul, Int.reduceAdd, Int.reduceSub, Int.reduceGT, and_self, true_and, and_true, *])
/-! DLo: the laws' own helpers. -/
namespace DL
open PySem L2
/-! the law's own helpers, with their numbers left open -/
def mTake (k1 k2 k3 : Int) : FS :=
  dSeq (dIfS (toT (dOp gGt (dOp gIx (dVar 0) (dCon (.int 0))) (dCon (.int 0))))
    (dSeq (dAsg 4 (dOp gMod (dOp gIx (dVar 0) (dCon (.int 0))) (dVar 1)))
    (dSeq (dSetIx 0 (dOp gFdiv (dOp gIx (dVar 0) (dCon (.int 0))) (dVar 1)) (dCon (.int 0)))
    (dRetV 4)))
    dNx)
    (dSeq (dSetIx 0 (dOp gAdd (dOp gIx (dVar 0) (dCon (.int 3))) (dCon (.int 1))) (dCon (.int 3)))
    (dSeq (dAsg 2 (dOp gIx (dVar 0) (dCon (.int 3))))
    (dSeq (dAsg 3 (dOp gMod (dOp gPow (dOp gAdd (dOp gAdd (dOp gMul (dOp gIx (dVar 0) (dCon (.int 1))) (dOp gAdd (dOp gMul (dCon (.int 2)) (dVar 2)) (dCon (.int 3)))) (dOp gMul (dOp gMul (dCon (.int k1)) (dVar 2)) (dVar 2))) (dCon (.int k2))) (dCon (.int 5))) (dCon (.int 2147483647))))
    (dRet (dOp gMod (dOp gFdiv (dOp gMod (dOp gPow (dOp gAdd (dOp gAdd (dVar 3) (dOp gMul (dOp gIx (dVar 0) (dCon (.int 2))) (dVar 2))) (dCon (.int k3))) (dCon (.int 3))) (dCon (.int 2147483579))) (dCon (.int 16))) (dVar 1))))))
def pTake (k1 k2 k3 : Int) : Phi := runB 3 (mTake k1 k2 k3)
theorem take_ok {k1 k2 k3 : Int} (hk : 0 ≤ k1 ∧ k1 < 8192 ∧ 0 ≤ k2 ∧ k2 < 1000 ∧ 0 ≤ k3 ∧ k3 < 1000) {cs : List CO} {n m : Int} (h : Bx cs n) (hn : n < 1048576) (hm0 : 0 < m) (hm1 : m < 1073741824) :
    ∃ d cs', pTake k1 k2 k3 [.cell 0, .dat (.int m)] cs = .ok (.dat (.int d), cs') ∧ 0 ≤ d ∧ d < m ∧ Bx cs' (n + 1) := by
  obtain ⟨x0, x1, x2, t, rfl, p0, p1, p2, p3, p4, p5, p6⟩ := h.ex
  obtain ⟨k1a, k1b, k2a, k2b, k3a, k3b⟩ := hk
  by_cases hx : 0 < x0
  · refine ⟨x0 % m, [.lst [.int (x0 / m), .int x1, .int x2, .int t]], ?_, Int.emod_nonneg _ (by omega), Int.emod_lt_of_pos _ hm0, ⟨_, _, _, _, rfl, Int.ediv_nonneg p0 (by omega), p1, p2, p3, p4, p5, by omega⟩⟩
    unfold pTake mTake
    walk_at "dl"
  · have e1 := draw_small (x := x1) (t := t + 1) (c := k1) (k := k2) p1 (by omega) (by omega) (by omega) k1a k1b k2a k2b
    have q1 := Int.emod_nonneg ((x1 * (2 * (t + 1) + 3) + k1 * (t + 1) * (t + 1) + k2) ^ 5) (show (2147483647 : Int) ≠ 0 by decide)
    have q2 := Int.emod_lt_of_pos ((x1 * (2 * (t + 1) + 3) + k1 * (t + 1) * (t + 1) + k2) ^ 5) (show (0 : Int) < 2147483647 by decide)
    have e2 := draw_small2 (y := (x1 * (2 * (t + 1) + 3) + k1 * (t + 1) * (t + 1) + k2) ^ 5 % 2147483647) (x := x2) (t := t + 1) (k := k3) q1 (by omega) p3 (by omega) (by omega) (by omega) k3a k3b
    have z1 : mulB x1 (2 * (t + 1) + 3) = true := mulB_l (by omega) (by omega)
    have z2 : mulB k1 (t + 1) = true := mulB_l (by omega) (by omega)
    have z3 : mulB (k1 * (t + 1)) (t + 1) = true := mulB_r (by omega) (by omega)
    have z4 : mulB x2 (t + 1) = true := mulB_l (by omega) (by omega)
    have z5 : mulB 2 (t + 1) = true := mulB_l (by omega) (by omega)
    obtain ⟨e1, -⟩ := e1
    obtain ⟨e2, -⟩ := e2
    refine ⟨((x1 * (2 * (t + 1) + 3) + k1 * (t + 1) * (t + 1) + k2) ^ 5 % 2147483647 + x2 * (t + 1) + k3) ^ 3 % 2147483579 / 16 % m, [.lst [.int x0, .int x1, .int x2, .int (t + 1)]], ?_, Int.emod_nonneg _ (by omega), Int.emod_lt_of_pos _ hm0, ⟨_, _, _, _, rfl, p0, p1, p2, p3, p4, by omega, by omega⟩⟩
    clear q1 q2 p1 p2 p3 p4 p5 p6 k1a k1b k2a k2b k3a k3b
    unfold pTake mTake
    walk_at "dl"
def mCell (k1 k2 : Int) : FS :=
    (dSeq (dIfS (toT (dOp gLt (dVar 1) (dLenS 0)))
    (dRet (dIxS 0 (dVar 1)))
    dNx)
    (dRet (dOp gAdd (dOp gMul (dCon (.int k1)) (dVar 1)) (dCon (.int k2)))))
def pCell (k1 k2 : Int) : Phi := runB 0 (mCell k1 k2)
theorem cell_ok {k1 k2 : Int} (hk : 0 ≤ k1 ∧ k1 < 8192) {ns : List Int} {i : Nat} {cs : List CO} : ∃ c, pCell k1 k2 [.scr ns, .dat (.int i)] cs = .ok (.dat (.int c), cs) := by
  by_cases h : (i : Int) < ns.length
  · obtain ⟨x, -, e⟩ := atI_some (xs := ns) (i := (i : Int)) (by omega) h
    refine ⟨x, ?_⟩
    unfold pCell mCell
    walk_at "dl"
  · have z := mulB_l (i := k1) (j := i) (by omega) (by omega)
    refine ⟨k1 * i + k2, ?_⟩
    unfold pCell mCell
    walk_at "dl"
def mBox : FS :=
    (dRet (dLst (dCons (dCB gMax (dConsV (dCon (.int 0)) (dConsV (dOp gSub (dVar 0) (dOp gPow (dCon (.int 10)) (dCon (.int 18)))) dNil))) (dCons (dOp gMod (dVar 0) (dCon (.int 2147483629))) (dCons (dOp gMod (dVar 0) (dCon (.int 2147483587))) (dCons (dCon (.int 0)) dNil))))))
def pBox : Phi := runB 0 mBox
theorem box_ok (c : Int) (cs : List CO) : ∃ b, pBox [.dat (.int c)] cs = .ok (.new b, cs) ∧ Bx [b] 0 := by
  have hb : Bx [CO.lst [.int (if c - 1000000000000000000 > 0 then c - 1000000000000000000 else 0), .int (c % 2147483629), .int (c % 2147483587), .int 0]] 0 := by
    refine ⟨if c - 1000000000000000000 > 0 then c - 1000000000000000000 else 0, c % 2147483629, c % 2147483587, 0, rfl, ?_, Int.emod_nonneg _ (by decide), Int.emod_lt_of_pos _ (by decide), Int.emod_nonneg _ (by decide), Int.emod_lt_of_pos _ (by decide), by decide, by decide⟩
    split <;> omega
  refine ⟨_, ?_, hb⟩
  · have e : decide ((10 : Int).natAbs < 2 ^ 64) = true := by decide
    unfold pBox mBox
    walk_at "dl"
end DL

/-! DLp: small data: equal to itself, shown. -/
namespace DL
open PySem L2
mutual
/-- ints below 10 ^ 12, texts of letters, lists and tuples of such -/
def D.sm : D → Bool
  | .non => true
  | .bl _ => true
  | .int i => decide (i.natAbs < 1000000000000)
  | .str x => x.cps.all (· < 0x110000)
  | .lst xs => smAll xs
  | .tup xs => smAll xs
  | .dct _ => false
  | .obj _ _ => false
def smAll : List D → Bool
  | [] => true
  | x :: xs => D.sm x && smAll xs
end
mutual
def D.wt : D → Nat
  | .int _ => 40
  | .str x => x.cps.size
  | .lst xs => wtAll xs
  | .tup xs => wtAll xs
  | _ => 0
def wtAll : List D → Nat
  | [] => 0
  | x :: xs => D.wt x + 1 + wtAll xs
end
mutual
def D.dep : D → Nat
  | .lst xs => depAll xs + 1
  | .tup xs => depAll xs + 1
  | _ => 0
def depAll : List D → Nat
  | [] => 0
  | x :: xs => max (D.dep x) (depAll xs)
end
theorem log2_small {n : Nat} (h : n < 1000000000000) : n.log2 < 40 := by
  by_cases h0 : n = 0
  · subst h0; decide
  · exact (Nat.log2_lt h0).mpr (by omega)
structure SmF (d : D) : Prop where
  plain : d.plain = true
  lay : d.py.canLay0 = true
  show_ : PyData.showable d.py = true
  short : PyData.leavesShort 13 d.py = true
  wt : PyData.weight d.py ≤ d.wt
  dep : PyData.depth d.py = d.dep
structure SmFs (d : List D) : Prop where
  plain : plainAll d = true
  lay : PyData.canLayAll0 (pyAll d) = true
  show_ : PyData.showableAll (pyAll d) = true
  short : PyData.leavesShortAll 13 (pyAll d) = true
  wt : PyData.weightAll (pyAll d) ≤ wtAll d
  dep : PyData.depthAll (pyAll d) = depAll d
mutual
theorem D.smF : ∀ d : D, d.sm = true → SmF d
  | .non, _ => ⟨rfl, rfl, rfl, rfl, Nat.le_refl _, rfl⟩
  | .bl b, _ => ⟨rfl, rfl, rfl, rfl, Nat.le_refl _, rfl⟩
  | .int i, h => by
    have h1 : i.natAbs < 1000000000000 := of_decide_eq_true h
    refine ⟨rfl, rfl, ?_, ?_, ?_, rfl⟩
    · exact decide_eq_true (Nat.lt_of_lt_of_le (log2_small h1) (by decide))
    · exact decide_eq_true (PyData.shown_int_le h1)
    · show (if i == 0 then 0 else i.natAbs.log2 + 1) ≤ 40
      have := log2_small h1
      split <;> omega
  | .str x, h => by
    have h1 : x.cps.all (· < 0x110000) = true := h
    refine ⟨rfl, h1, rfl, ?_, Nat.le_refl _, rfl⟩
    show (x.cps.toList.all fun c => decide (c < 16 ^ 8)) = true
    simp only [List.all_eq_true, decide_eq_true_eq]
    intro c hc
    have h2 := (Array.all_eq_true_iff_forall_mem.mp h1) c (Array.mem_toList_iff.mp hc)
    have h3 : c < 0x110000 := by simpa using h2
    have e : (16 : Nat) ^ 8 = 4294967296 := by decide
    omega
  | .lst xs, h => by
    obtain ⟨a, b, c, d, e, f⟩ := smFs xs h
    exact ⟨a, b, c, d, e, congrArg (· + 1) f⟩
  | .tup xs, h => by
    obtain ⟨a, b, c, d, e, f⟩ := smFs xs h
    exact ⟨a, b, c, d, e, congrArg (· + 1) f⟩
  | .dct _, h => nomatch h
  | .obj _ _, h => nomatch h
theorem smFs : ∀ ds : List D, smAll ds = true → SmFs ds
  | [], _ => ⟨rfl, rfl, rfl, rfl, Nat.le_refl _, rfl⟩
  | d :: ds, h => by
    have q := Bool.and_eq_true_iff.mp (show (D.sm d && smAll ds) = true from h)
    obtain ⟨a, b, c, k, e, f⟩ := D.smF d q.1
    obtain ⟨a', b', c', k', e', f'⟩ := smFs ds q.2
    refine ⟨?_, ?_, ?_, ?_, ?_, ?_⟩
    · show (D.plain d && plainAll ds) = true; rw [a, a']; rfl
    · show (PyData.canLay0 d.py && PyData.canLayAll0 (pyAll ds)) = true; rw [b, b']; rfl
    · show (PyData.showable d.py && PyData.showableAll (pyAll ds)) = true; rw [c, c']; rfl
    · show (PyData.leavesShort 13 d.py && PyData.leavesShortAll 13 (pyAll ds)) = true; rw [k, k']; rfl
    · show PyData.weight d.py + 1 + PyData.weightAll (pyAll ds) ≤ D.wt d + 1 + wtAll ds; omega
    · show max (PyData.depth d.py) (PyData.depthAll (pyAll ds)) = max (D.dep d) (depAll ds); rw [f, f']
end
/-- small data of little depth can be shown -/
theorem reprOk_of {d : D} (h : d.sm = true) (hd : d.dep ≤ 60) (hw : d.wt ≤ 1048576) : reprOk d = true := by
  obtain ⟨a, b, c, k, e, f⟩ := D.smF d h
  have h1 := PyData.shown_fits (B := 13) (by decide) (by decide) k (by omega)
  unfold reprOk
  rw [a, c, decide_eq_true (show PyData.depth d.py ≤ 60 by omega), decide_eq_true h1]
  rfl
theorem shaped_of {d : D} (h : d.sm = true) (hd : d.dep ≤ 60) : SeqAt.shaped d.py = true := by
  obtain ⟨a, b, c, k, e, f⟩ := D.smF d h
  show (d.py.canLay0 && decide (d.py.depth ≤ 64)) = true
  rw [b, decide_eq_true (show PyData.depth d.py ≤ 64 by omega)]
  rfl
theorem scalD_refl (d : D) (k : Bool) (h : scalD d d = some k) : k = true := by
  cases d <;> simp [scalD] at h <;> simp [← h]
theorem eqB_refl {d : D} (h : d.sm = true) (hd : d.dep ≤ 60) : eqB d d = some true := by
  have s := shaped_of h hd
  obtain ⟨a, b, c, k, e, f⟩ := D.smF d h
  unfold eqB
  cases q : scalD d d with
  | some k => exact congrArg some (scalD_refl d k q)
  | none =>
    show (if eqOk d d = true then some (eqD d d) else none) = some true
    unfold eqOk eqD
    rw [a, s]
    exact (if_pos rfl).trans (congrArg some (SeqAt.eqv_refl d.py b))
/-- the items of a list one by one: those of which P holds -/
theorem atI_all {α : Type} {P : α → Prop} {xs : List α} {i : Int} (h : ∀ x ∈ xs, P x) (h0 : 0 ≤ i) (h1 : i < xs.length) : ∃ x, atI xs i = some x ∧ P x := by
  obtain ⟨x, a, b⟩ := atI_some h0 h1
  exact ⟨x, b, h x a⟩
/-- a loop with what holds before each turn -/
theorem loop_inv {t : FG} {body : FS} (Inv : Nat → List SV → List CO → Prop) : ∀ (ds : List D) (k : Nat) (sl : List SV) (cs : List CO),
    (∀ i d sl cs, k ≤ i → ds[i - k]? = some d → Inv i sl cs → ∃ s1, t d sl = some s1 ∧ ∃ s2 c2, (body s1 cs = .nx s2 c2 ∨ body s1 cs = .ct s2 c2) ∧ Inv (i + 1) s2 c2) →
    Inv k sl cs → ∃ s2 c2, loopF t body ds sl cs = .nx s2 c2 ∧ Inv (k + ds.length) s2 c2
  | [], k, sl, cs, _, h => ⟨sl, cs, rfl, h⟩
  | d :: ds, k, sl, cs, step, h => by
    obtain ⟨s1, e1, s2, c2, e2, h2⟩ := step k d sl cs (Nat.le_refl _) (by simp) h
    obtain ⟨s3, c3, e3, h3⟩ := loop_inv Inv ds (k + 1) s2 c2 (fun i d sl cs hi e hh => step i d sl cs (by omega) (by rw [show i - k = (i - (k + 1)) + 1 by omega]; exact e) hh) h2
    refine ⟨s3, c3, ?_, by rw [List.length_cons, show k + (ds.length + 1) = k + 1 + ds.length by omega]; exact h3⟩
    rcases e2 with e2 | e2 <;> (unfold loopF; rw [e1]; dsimp only; rw [e2]; exact e3)
theorem loopF_nil {t : FG} {body : FS} {sl : List SV} {cs : List CO} : loopF t body [] sl cs = .nx sl cs := rfl
theorem loopF_nx {t : FG} {body : FS} {d : D} {ds : List D} {sl s1 s2 : List SV} {cs c2 : List CO} (e1 : t d sl = some s1) (e2 : body s1 cs = .nx s2 c2) : loopF t body (d :: ds) sl cs = loopF t body ds s2 c2 := by
  rw [loopF, e1]; dsimp only; rw [e2]
theorem whileF_go {t : FT} {body : FS} {n : Nat} {sl s2 : List SV} {cs c1 c2 : List CO} (e1 : t sl cs = .ok (true, c1)) (e2 : body sl c1 = .nx s2 c2) : whileF t body (n + 1) sl cs = whileF t body n s2 c2 := by
  simp only [whileF, e1, Res.toF, if_true, e2]
theorem whileF_end {t : FT} {body : FS} {n : Nat} {sl : List SV} {cs c1 : List CO} (e1 : t sl cs = .ok (false, c1)) : whileF t body (n + 1) sl cs = .nx sl c1 := by
  simp only [whileF, e1, Res.toF, Bool.false_eq_true, if_false]
theorem rngL_get {lo : Int} {n i : Nat} {d : D} (h : (rngL lo n)[i]? = some d) : i < n ∧ d = .int (lo + i) := by
  unfold rngL at h
  rw [List.getElem?_map] at h
  by_cases hi : i < n
  · rw [List.getElem?_range hi] at h; cases h; exact ⟨hi, rfl⟩
  · rw [List.getElem?_eq_none (by simp; omega)] at h; cases h
theorem rngL_length (lo : Int) (n : Nat) : (rngL lo n).length = n := by unfold rngL; simp
end DL

namespace DL.L52
open PySem L2
/-! _law_box -/
def m__law_box : FS :=
    (dRet (dLst (dCons (dCB gMax (dConsV (dCon (.int 0)) (dConsV (dOp gSub (dVar 0) (dOp gPow (dCon (.int 10)) (dCon (.int 18)))) dNil))) (dCons (dOp gMod (dVar 0) (dCon (.int 2147483629))) (dCons (dOp gMod (dVar 0) (dCon (.int 2147483587))) (dCons (dCon (.int 0)) dNil))))))
def p__law_box : Phi := runB 0 m__law_box
/-! _law_cell -/
def m__law_cell : FS :=
    (dSeq (dIfS (toT (dOp gLt (dVar 1) (dLenS 0)))
    (dRet (dIxS 0 (dVar 1)))
    dNx)
    (dRet (dOp gAdd (dOp gMul (dCon (.int 7927)) (dVar 1)) (dCon (.int 52)))))
def p__law_cell : Phi := runB 0 m__law_cell
/-! _law_least -/
abbrev bd__law_least_1 : FS :=
    (dPar 2 3 (dCons (dVar 3) (dCons (dOp gMod (dCB gInt (dConsV (dVar 2) dNil)) (dVar 3)) dNil)))
def m__law_least : FS :=
    (dSeq (dPar 2 3 (dCons (dVar 0) (dCons (dVar 1) dNil)))
    (dSeq (dWhile 10000 (toT (dOp gGt (dVar 3) (dCon (.int 0))))
    bd__law_least_1)
    (dRet (dTup (dCons (dOp gFdiv (dVar 0) (dCB gMax (dConsV (dCon (.int 1)) (dConsV (dVar 2) dNil)))) (dCons (dOp gFdiv (dVar 1) (dCB gMax (dConsV (dCon (.int 1)) (dConsV (dVar 2) dNil)))) dNil))))))
def p__law_least : Phi := runB 2 m__law_least
/-! _law_nearest -/
abbrev bd__law_nearest_1 : FS :=
    (dIfS (toT (dOp gEq (dOp gMod (dCB gInt (dConsV (dVar 5) dNil)) (dCB gMax (dConsV (dCon (.int 1)) (dConsV (dVar 3) dNil)))) (dVar 4)))
    (dSeq (dAsg 8 (dOp gSub (dOp gMul (dVar 5) (dVar 2)) (dOp gMul (dVar 0) (dVar 1))))
    (dSeq (dAsg 8 (dIf (toT (dOp gGe (dVar 8) (dCon (.int 0)))) (dVar 8) (dOp gSub (dCon (.int 0)) (dVar 8))))
    (dIfS (tOr' (toT (dOp gLt (dVar 6) (dCon (.int 0)))) (toT (dOp gLt (dVar 8) (dVar 6))))
    (dPar 6 7 (dCons (dVar 8) (dCons (dVar 5) dNil)))
    dNx)))
    dNx)
def m__law_nearest : FS :=
    (dSeq (dUnp (tgT [6, 7]) (dTup (dCons (dUn gNeg (dCon (.int 1))) (dCons (dCon .non) dNil))))
    (dSeq (dFor (rng1 (dConsV (dCon (.int 601)) dNil)) (tgN 5)
    bd__law_nearest_1)
    (dRetV 7)))
def p__law_nearest : Phi := runB 4 m__law_nearest
/-! _law_take -/
def m__law_take : FS :=
    (dSeq (dIfS (toT (dOp gGt (dOp gIx (dVar 0) (dCon (.int 0))) (dCon (.int 0))))
    (dSeq (dAsg 4 (dOp gMod (dOp gIx (dVar 0) (dCon (.int 0))) (dVar 1)))
    (dSeq (dSetIx 0 (dOp gFdiv (dOp gIx (dVar 0) (dCon (.int 0))) (dVar 1)) (dCon (.int 0)))
    (dRetV 4)))
    dNx)
    (dSeq (dSetIx 0 (dOp gAdd (dOp gIx (dVar 0) (dCon (.int 3))) (dCon (.int 1))) (dCon (.int 3)))
    (dSeq (dAsg 2 (dOp gIx (dVar 0) (dCon (.int 3))))
    (dSeq (dAsg 3 (dOp gMod (dOp gPow (dOp gAdd (dOp gAdd (dOp gMul (dOp gIx (dVar 0) (dCon (.int 1))) (dOp gAdd (dOp gMul (dCon (.int 2)) (dVar 2)) (dCon (.int 3)))) (dOp gMul (dOp gMul (dCon (.int 6053)) (dVar 2)) (dVar 2))) (dCon (.int 52))) (dCon (.int 5))) (dCon (.int 2147483647))))
    (dRet (dOp gMod (dOp gFdiv (dOp gMod (dOp gPow (dOp gAdd (dOp gAdd (dVar 3) (dOp gMul (dOp gIx (dVar 0) (dCon (.int 2))) (dVar 2))) (dCon (.int 74))) (dCon (.int 3))) (dCon (.int 2147483579))) (dCon (.int 16))) (dVar 1)))))))
def p__law_take : Phi := runB 3 m__law_take
/-! _law_size -/
def m__law_size : FS :=
    (dRet (dOp gIx (dLst (dCons (dCon (.int 1)) (dCons (dCon (.int 9999)) (dCons (dCon (.int 10)) (dCons (dCon (.int 22)) (dCons (dOp gAdd (dCon (.int 1)) (dCall 2 p__law_take [] (dCons (dVar 0) (dCons (dCon (.int 40)) dNil)))) (dCons (dOp gAdd (dCon (.int 1)) (dCall 2 p__law_take [] (dCons (dVar 0) (dCons (dCon (.int 9999)) dNil)))) dNil))))))) (dCall 2 p__law_take [] (dCons (dVar 0) (dCons (dCon (.int 6)) dNil)))))
def p__law_size : Phi := runB 0 m__law_size
/-! is_whole -/
def m_is_whole : FS :=
    (dRet (dAnd (dIsi "int" (dVar 0)) (dAnd (dNot (dIsi "bool" (dVar 0))) (dChain gLe gLe (dVar 1) (dVar 0) (dVar 2)))))
def p_is_whole : Phi := runB 0 m_is_whole
/-! need_size -/
def m_need_size : FS :=
    (dIfS (tNot' (toTru (dCall 3 p_is_whole [] (dCons (dVar 0) (dCons (dVar 1) (dCons (dCon (.int 9999)) dNil))))))
    dBad
    dNx)
def p_need_size : Phi := runB 0 m_need_size
/-! is_count -/
def m_is_count : FS :=
    (dRet (dCall 3 p_is_whole [] (dCons (dVar 0) (dCons (dCon (.int 0)) (dCons (dCon (.int 600)) dNil)))))
def p_is_count : Phi := runB 0 m_is_count
/-! width_of -/
abbrev bd_width_of_1 : FS :=
    (dPar 5 6 (dCons (dVar 6) (dCons (dOp gMod (dVar 5) (dVar 6)) dNil)))
def m_width_of : FS :=
    (dSeq (dIfS (tNot' (toTru (dCall 1 p_is_count [] (dCons (dVar 0) dNil))))
    dBad
    dNx)
    (dSeq (dDrop (dCall 2 p_need_size [] (dCons (dVar 1) (dCons (dCon (.int 1)) dNil))))
    (dSeq (dDrop (dCall 2 p_need_size [] (dCons (dVar 2) (dCons (dCon (.int 1)) dNil))))
    (dSeq (dPar 3 4 (dCons (dOp gMul (dVar 0) (dVar 2)) (dCons (dVar 1) dNil)))
    (dSeq (dPar 5 6 (dCons (dVar 3) (dCons (dVar 4) dNil)))
    (dSeq (dWhile 10000 (toT (dOp gGt (dVar 6) (dCon (.int 0))))
    bd_width_of_1)
    (dRet (dTup (dCons (dOp gFdiv (dVar 3) (dVar 5)) (dCons (dOp gFdiv (dVar 4) (dVar 5)) dNil))))))))))
def p_width_of : Phi := runB 4 m_width_of
/-! cast_on -/
abbrev bd_cast_on_1 : FS :=
    (dSeq (dAsg 7 (dCB gAbs (dConsV (dOp gSub (dOp gMul (dVar 6) (dVar 2)) (dOp gMul (dVar 0) (dVar 1))) dNil)))
    (dIfS (tOr' (toT (dOp gIsN (dVar 5) (dCon .non))) (toT (dOp gLt (dVar 7) (dOp gIx (dVar 5) (dCon (.int 0))))))
    (dAsg 5 (dTup (dCons (dVar 7) (dCons (dVar 6) dNil))))
    dNx))
def m_cast_on : FS :=
    (dSeq (dDrop (dCall 2 p_need_size [] (dCons (dVar 0) (dCons (dCon (.int 0)) dNil))))
    (dSeq (dDrop (dCall 2 p_need_size [] (dCons (dVar 1) (dCons (dCon (.int 1)) dNil))))
    (dSeq (dDrop (dCall 2 p_need_size [] (dCons (dVar 2) (dCons (dCon (.int 1)) dNil))))
    (dSeq (dDrop (dCall 2 p_need_size [] (dCons (dVar 3) (dCons (dCon (.int 1)) dNil))))
    (dSeq (dIfS (tNot' (toTru (dCall 3 p_is_whole [] (dCons (dVar 4) (dCons (dCon (.int 0)) (dCons (dOp gSub (dVar 3) (dCon (.int 1))) dNil))))))
    dBad
    dNx)
    (dSeq (dAsg 5 (dCon .non))
    (dSeq (dFor (rng3 (dConsV (dVar 4) (dConsV (dCon (.int 601)) (dConsV (dVar 3) dNil)))) (tgN 6)
    bd_cast_on_1)
    (dRet (dIf (toT (dOp gIsN (dVar 5) (dCon .non))) (dCon .non) (dOp gIx (dVar 5) (dCon (.int 1))))))))))))
def p_cast_on : Phi := runB 3 m_cast_on
/-! law -/
abbrev bd_law_1 : FS :=
    (dSeq (dPar 10 11 (dCons (dCall 1 p__law_size [] (dCons (dVar 2) dNil)) (dCons (dCall 1 p__law_size [] (dCons (dVar 2) dNil)) dNil)))
    (dSeq (dAsg 4 (dOp gIx (dLst (dCons (dCon (.int 0)) (dCons (dCon (.int 600)) (dCons (dCall 2 p__law_take [] (dCons (dVar 2) (dCons (dCon (.int 601)) dNil))) dNil)))) (dCall 2 p__law_take [] (dCons (dVar 2) (dCons (dCon (.int 3)) dNil)))))
    (dSeq (dAsg 5 (dCall 2 p__law_least [] (dCons (dOp gMul (dVar 4) (dVar 11)) (dCons (dVar 10) dNil))))
    (dSeq (dAsg 6 (dLst (dCons (dCall 3 p_width_of [] (dCons (dVar 4) (dCons (dVar 10) (dCons (dVar 11) dNil)))) (dCons (dCallK 0 3 p_width_of (fun rs qs => arr [.kw 1, .kw 2, .kw 0] rs [] qs) dNil (dCons (dVar 11) (dCons (dVar 4) (dCons (dVar 10) dNil)))) dNil))))
    (dSeq (dIfS (tOr' (toT (dOp gNe (dVar 6) (dLst (dCons (dVar 5) (dCons (dVar 5) dNil))))) (toT (dOp gNe (dCB gRepr (dConsV (dVar 6) dNil)) (dCB gRepr (dConsV (dLst (dCons (dVar 5) (dCons (dVar 5) dNil))) dNil)))))
    (dRet (dCon (.bl false)))
    dNx)
    (dSeq (dAsg 7 (dOp gIx (dLst (dCons (dCon (.int 0)) (dCons (dCon (.int 9999)) (dCons (dOp gFdiv (dOp gMul (dVar 4) (dVar 11)) (dVar 10)) (dCons (dOp gFdiv (dOp gMul (dOp gAdd (dOp gMul (dCon (.int 2)) (dVar 4)) (dCon (.int 1))) (dVar 11)) (dOp gMul (dCon (.int 2)) (dVar 10))) (dCons (dCall 2 p__law_take [] (dCons (dVar 2) (dCons (dCon (.int 10000)) dNil))) dNil)))))) (dCall 2 p__law_take [] (dCons (dVar 2) (dCons (dCon (.int 5)) dNil)))))
    (dSeq (dAsg 7 (dCB gMin (dConsV (dCon (.int 9999)) (dConsV (dVar 7) dNil))))
    (dSeq (dAsg 8 (dOp gIx (dLst (dCons (dCon (.int 1)) (dCons (dCon (.int 2)) (dCons (dCon (.int 8)) (dCons (dCon (.int 9999)) (dCons (dCon (.int 601)) (dCons (dOp gAdd (dCon (.int 1)) (dCall 2 p__law_take [] (dCons (dVar 2) (dCons (dCon (.int 30)) dNil)))) dNil))))))) (dCall 2 p__law_take [] (dCons (dVar 2) (dCons (dCon (.int 6)) dNil)))))
    (dSeq (dAsg 9 (dOp gIx (dLst (dCons (dCon (.int 0)) (dCons (dOp gSub (dVar 8) (dCon (.int 1))) (dCons (dCall 2 p__law_take [] (dCons (dVar 2) (dCons (dVar 8) dNil))) dNil)))) (dCall 2 p__law_take [] (dCons (dVar 2) (dCons (dCon (.int 3)) dNil)))))
    (dSeq (dAsg 5 (dCall 5 p__law_nearest [] (dCons (dVar 7) (dCons (dVar 10) (dCons (dVar 11) (dCons (dVar 8) (dCons (dVar 9) dNil)))))))
    (dSeq (dAsg 6 (dLst (dCons (dCallK 3 2 p_cast_on (fun rs qs => arr [.pos 0, .pos 1, .pos 2, .kw 0, .kw 1] rs [] qs) (dCons (dVar 7) (dCons (dVar 10) (dCons (dVar 11) dNil))) (dCons (dVar 8) (dCons (dVar 9) dNil))) dNil)))
    (dSeq (dApp 6 (dCons (dCallK 0 5 p_cast_on (fun rs qs => arr [.kw 3, .kw 1, .kw 4, .kw 2, .kw 0] rs [] qs) dNil (dCons (dVar 9) (dCons (dVar 10) (dCons (dVar 8) (dCons (dVar 7) (dCons (dVar 11) dNil)))))) dNil))
    (dSeq (dIfS (tOr' (toT (dOp gNe (dVar 6) (dLst (dCons (dVar 5) (dCons (dVar 5) dNil))))) (toT (dOp gNe (dCB gRepr (dConsV (dVar 6) dNil)) (dCB gRepr (dConsV (dLst (dCons (dVar 5) (dCons (dVar 5) dNil))) dNil)))))
    (dRet (dCon (.bl false)))
    dNx)
    (dSeq (dAsg 5 (dCall 5 p__law_nearest [] (dCons (dVar 7) (dCons (dVar 10) (dCons (dVar 11) (dCons (dCon (.int 1)) (dCons (dCon (.int 0)) dNil)))))))
    (dSeq (dIfS (toT (dOp gNe (dCB gRepr (dConsV (dCall 5 p_cast_on [.dat (.int 1), .dat (.int 0)] (dCons (dVar 7) (dCons (dVar 10) (dCons (dVar 11) dNil)))) dNil)) (dCB gRepr (dConsV (dVar 5) dNil))))
    (dRet (dCon (.bl false)))
    dNx)
    (dSeq (dAsg 5 (dCall 5 p__law_nearest [] (dCons (dVar 7) (dCons (dVar 10) (dCons (dVar 11) (dCons (dVar 8) (dCons (dCon (.int 0)) dNil)))))))
    (dIfS (toT (dOp gNe (dCB gRepr (dConsV (dCallK 3 1 p_cast_on (fun rs qs => arr [.pos 0, .pos 1, .pos 2, .kw 0, .df 0] rs [.dat (.int 0)] qs) (dCons (dVar 7) (dCons (dVar 10) (dCons (dVar 11) dNil))) (dCons (dVar 8) dNil)) dNil)) (dCB gRepr (dConsV (dVar 5) dNil))))
    (dRet (dCon (.bl false)))
    dNx)))))))))))))))))
abbrev bd_law_2 : FS :=
    (dSeq (dAsg 2 (dCall 1 p__law_box [] (dCons (dCall 2 p__law_cell [] (dCons (dVar 0) (dCons (dVar 1) dNil))) dNil)))
    (dPin 2
    (dFor (rng1 (dConsV (dCon (.int 3)) dNil)) (tgN 3)
    bd_law_1)))
def m_law : FS :=
    (dSeq (dFor (rng1 (dConsV (dCB gMax (dConsV (dCon (.int 2)) (dConsV (dCB gMin (dConsV (dCon (.int 8)) (dConsV (dLenS 0) dNil))) dNil))) dNil)) (tgN 1)
    bd_law_2)
    (dRet (dCon (.bl true))))
def p_law : Phi := runB 11 m_law
end DL.L52

namespace DL.L52
open PySem L2
def top (i : Nat) : Stmt := PySem.Challenge.pw_knitrows_k52_widths_and_cast_ons.main.body.getD i (.Pass ⟨0, 0, 0, 0⟩)
abbrev s__law_box : Stmt := top 15
abbrev N__law_box : List Str := ["cell"]
theorem sc__law_box : FnScope N__law_box ["cell"] (defScope s__law_box) := ⟨rfl, rfl, rfl, by decide +kernel, rfl, by decide +kernel, by decide +kernel⟩
abbrev s__law_cell : Stmt := top 14
abbrev N__law_cell : List Str := ["script", "k"]
theorem sc__law_cell : FnScope N__law_cell ["script", "k"] (defScope s__law_cell) := ⟨rfl, rfl, rfl, by decide +kernel, rfl, by decide +kernel, by decide +kernel⟩
abbrev s__law_least : Stmt := top 18
abbrev N__law_least : List Str := ["top", "base", "one", "other"]
theorem sc__law_least : FnScope N__law_least ["top", "base"] (defScope s__law_least) := ⟨rfl, rfl, rfl, by decide +kernel, rfl, by decide +kernel, by decide +kernel⟩
abbrev s__law_nearest : Stmt := top 19
abbrev N__law_nearest : List Str := ["width", "gauge", "length", "multiple", "rest", "count", "best", "found", "far"]
theorem sc__law_nearest : FnScope N__law_nearest ["width", "gauge", "length", "multiple", "rest"] (defScope s__law_nearest) := ⟨rfl, rfl, rfl, by decide +kernel, rfl, by decide +kernel, by decide +kernel⟩
abbrev s__law_take : Stmt := top 16
abbrev N__law_take : List Str := ["box", "many", "turn", "one", "digit"]
theorem sc__law_take : FnScope N__law_take ["box", "many"] (defScope s__law_take) := ⟨rfl, rfl, rfl, by decide +kernel, rfl, by decide +kernel, by decide +kernel⟩
abbrev s__law_size : Stmt := top 17
abbrev N__law_size : List Str := ["box"]
theorem sc__law_size : FnScope N__law_size ["box"] (defScope s__law_size) := ⟨rfl, rfl, rfl, by decide +kernel, rfl, by decide +kernel, by decide +kernel⟩
abbrev s_is_whole : Stmt := top 6
abbrev N_is_whole : List Str := ["value", "low", "high"]
theorem sc_is_whole : FnScope N_is_whole ["value", "low", "high"] (defScope s_is_whole) := ⟨rfl, rfl, rfl, by decide +kernel, rfl, by decide +kernel, by decide +kernel⟩
abbrev s_need_size : Stmt := top 10
abbrev N_need_size : List Str := ["value", "low"]
theorem sc_need_size : FnScope N_need_size ["value", "low"] (defScope s_need_size) := ⟨rfl, rfl, rfl, by decide +kernel, rfl, by decide +kernel, by decide +kernel⟩
abbrev s_is_count : Stmt := top 7
abbrev N_is_count : List Str := ["value"]
theorem sc_is_count : FnScope N_is_count ["value"] (defScope s_is_count) := ⟨rfl, rfl, rfl, by decide +kernel, rfl, by decide +kernel, by decide +kernel⟩
abbrev s_width_of : Stmt := top 11
abbrev N_width_of : List Str := ["count", "gauge", "length", "top", "base", "one", "other"]
theorem sc_width_of : FnScope N_width_of ["count", "gauge", "length"] (defScope s_width_of) := ⟨rfl, rfl, rfl, by decide +kernel, rfl, by decide +kernel, by decide +kernel⟩
abbrev s_cast_on : Stmt := top 12
abbrev N_cast_on : List Str := ["width", "gauge", "length", "multiple", "rest", "best", "count", "far"]
theorem sc_cast_on : FnScope N_cast_on ["width", "gauge", "length", "multiple", "rest"] (defScope s_cast_on) := ⟨rfl, rfl, rfl, by decide +kernel, rfl, by decide +kernel, by decide +kernel⟩
abbrev s_law : Stmt := top 20
abbrev N_law : List Str := ["script", "k", "box", "turn", "count", "due", "found", "width", "multiple", "rest", "gauge", "length"]
theorem sc_law : FnScope N_law ["script"] (defScope s_law) := ⟨rfl, rfl, rfl, by decide +kernel, rfl, by decide +kernel, by decide +kernel⟩
section
variable {P : Program} {w : World} {K : PySem.W.Frag} {mg : Str → Option Value} {base : Heap}
theorem ok__law_box {fd : FuncData} (FF : FnD K "_law_box" s__law_box [] fd) (hm : mg "_law_box" = some (.ref (He.ga K "_law_box"))) (hf_max : mg "max" = none) : DefOk P w K mg base 1 "_law_box" s__law_box ["cell"] [] p__law_box fd := by
  refine ⟨FF, FnG.mk' FF sc__law_box (fun cdv A outer s H vs Q E vl gd hr h => ⟨_, ?_, body_run (by rw [vl]; rfl) h⟩), hm⟩
  exact (dss_one (ds_ret (ps_ret (de_lst (da_cons (de_callB (c_max rfl) rfl hf_max bt_max (daV_cons de_int (daV_cons (de_op o_sub (de_var (pv 0)) (de_op o_pow de_int de_int)) da_nil))) (da_cons (de_op o_mod (de_var (pv 0)) de_int) (da_cons (de_op o_mod (de_var (pv 0)) de_int) (da_cons de_int da_nil))))))))
theorem ok__law_cell {fd : FuncData} (FF : FnD K "_law_cell" s__law_cell [] fd) (hm : mg "_law_cell" = some (.ref (He.ga K "_law_cell"))) (hf_len : mg "len" = none) : DefOk P w K mg base 1 "_law_cell" s__law_cell ["script", "k"] [] p__law_cell fd := by
  refine ⟨FF, FnG.mk' FF sc__law_cell (fun cdv A outer s H vs Q E vl gd hr h => ⟨_, ?_, body_run (by rw [vl]; rfl) h⟩), hm⟩
  exact (dss_cons (ds_if (ps_if (dt_cmp o_lt (de_var (pv 1)) (de_lenS (pe_callB call_len rfl hf_len bt_len (pa_cons (pv 0) pa_nil))) (nomark _))
    (dss_one (ds_ret (ps_ret (de_ixS (pe_ix ix_list (pv 0) (de_var (pv 1)) fun _ _ => rfl)))))
    dss_nil))
    (dss_one (ds_ret (ps_ret (de_op o_add (de_op o_mul de_int (de_var (pv 1))) de_int)))))
theorem ok__law_least {fd : FuncData} (FF : FnD K "_law_least" s__law_least [] fd) (hm : mg "_law_least" = some (.ref (He.ga K "_law_least"))) (hf_int : mg "int" = none) (hf_max : mg "max" = none) : DefOk P w K mg base 1 "_law_least" s__law_least ["top", "base"] [] p__law_least fd := by
  refine ⟨FF, FnG.mk' FF sc__law_least (fun cdv A outer s H vs Q E vl gd hr h => ⟨_, ?_, body_run (by rw [vl]; rfl) h⟩), hm⟩
  exact (dss_cons (ds_par (ps_par (i := 2) (j := 3) rfl sc__law_least.nd rfl rfl (by decide) rfl rfl (da_cons (de_var (pv 0)) (da_cons (de_var (pv 1)) da_nil)) rfl))
    (dss_cons (ds_while 10000 (ps_while (passes_of rfl) (dt_cmp o_gt (de_var (pv 3)) de_int (nomark _))
    (dss_one (ds_par (ps_par (i := 2) (j := 3) rfl sc__law_least.nd rfl rfl (by decide) rfl rfl (da_cons (de_var (pv 3)) (da_cons (de_op o_mod (de_callTy c_int rfl hf_int bt_int (daV_cons (de_var (pv 2)) da_nil)) (de_var (pv 3))) da_nil)) rfl)))))
    (dss_one (ds_ret (ps_ret (de_tup (da_cons (de_op o_fdiv (de_var (pv 0)) (de_callB (c_max rfl) rfl hf_max bt_max (daV_cons de_int (daV_cons (de_var (pv 2)) da_nil)))) (da_cons (de_op o_fdiv (de_var (pv 1)) (de_callB (c_max rfl) rfl hf_max bt_max (daV_cons de_int (daV_cons (de_var (pv 2)) da_nil)))) da_nil))))))))
theorem ok__law_nearest {fd : FuncData} (FF : FnD K "_law_nearest" s__law_nearest [] fd) (hm : mg "_law_nearest" = some (.ref (He.ga K "_law_nearest"))) (hf_int : mg "int" = none) (hf_max : mg "max" = none) (hf_range : mg "range" = none) : DefOk P w K mg base 1 "_law_nearest" s__law_nearest ["width", "gauge", "length", "multiple", "rest"] [] p__law_nearest fd := by
  refine ⟨FF, FnG.mk' FF sc__law_nearest (fun cdv A outer s H vs Q E vl gd hr h => ⟨_, ?_, body_run (by rw [vl]; rfl) h⟩), hm⟩
  exact (dss_cons (ds_unp (ps_asg (de_frz (de_tup (da_cons (de_un o_neg de_int) (da_cons de_non da_nil)))) (dg_tup (pg_tup rfl (pgs_cons (pg_name (i := 6) sc__law_nearest.nd rfl (by first | exact Or.inl rfl | exact Or.inr rfl)) (pgs_cons (pg_name (i := 7) sc__law_nearest.nd rfl (by first | exact Or.inl rfl | exact Or.inr rfl)) pgs_nil))))))
    (dss_cons (ds_for (ps_for (passes_of rfl) rfl (di_range1 rfl hf_range (daV_cons de_int da_nil)) (dg_name (pg_name (i := 5) sc__law_nearest.nd rfl (by first | exact Or.inl rfl | exact Or.inr rfl)))
    (dss_one (ds_if (ps_if (dt_cmp (o_eq hr.units) (de_op o_mod (de_callTy c_int rfl hf_int bt_int (daV_cons (de_var (pv 5)) da_nil)) (de_callB (c_max rfl) rfl hf_max bt_max (daV_cons de_int (daV_cons (de_var (pv 3)) da_nil)))) (de_var (pv 4)) (nomark _))
    (dss_cons (ds_asg (ps_set (i := 8) sc__law_nearest.nd rfl (by first | exact Or.inl rfl | exact Or.inr rfl) (de_op o_sub (de_op o_mul (de_var (pv 5)) (de_var (pv 2))) (de_op o_mul (de_var (pv 0)) (de_var (pv 1))))))
    (dss_cons (ds_asg (ps_set (i := 8) sc__law_nearest.nd rfl (by first | exact Or.inl rfl | exact Or.inr rfl) (de_if (dt_cmp o_ge (de_var (pv 8)) de_int (nomark _)) (de_var (pv 8)) (de_op o_sub de_int (de_var (pv 8))))))
    (dss_one (ds_if (ps_if (PW.pt (dw_or (dt_cmp o_lt (de_var (pv 6)) de_int (nomark _)) (dw_or1 (dt_cmp o_lt (de_var (pv 8)) (de_var (pv 6)) (nomark _)))))
    (dss_one (ds_par (ps_par (i := 6) (j := 7) rfl sc__law_nearest.nd rfl rfl (by decide) rfl rfl (da_cons (de_var (pv 8)) (da_cons (de_var (pv 5)) da_nil)) rfl)))
    dss_nil)))))
    dss_nil)))))
    (dss_one (ds_retV (ps_ret (pv 7))))))
theorem ok__law_take {fd : FuncData} (FF : FnD K "_law_take" s__law_take [] fd) (hm : mg "_law_take" = some (.ref (He.ga K "_law_take")))  : DefOk P w K mg base 1 "_law_take" s__law_take ["box", "many"] [] p__law_take fd := by
  refine ⟨FF, FnG.mk' FF sc__law_take (fun cdv A outer s H vs Q E vl gd hr h => ⟨_, ?_, body_run (by rw [vl]; rfl) h⟩), hm⟩
  exact (dss_cons (ds_if (ps_if (dt_cmp o_gt (de_ix (de_var (pv 0)) de_int fun _ _ => rfl) de_int (nomark _))
    (dss_cons (ds_asg (ps_set (i := 4) sc__law_take.nd rfl (by first | exact Or.inl rfl | exact Or.inr rfl) (de_op o_mod (de_ix (de_var (pv 0)) de_int fun _ _ => rfl) (de_var (pv 1)))))
    (dss_cons (ds_setix (ps_asg (de_frz (de_op o_fdiv (de_ix (de_var (pv 0)) de_int fun _ _ => rfl) (de_var (pv 1)))) (pg_sub (pv 0) de_int set_list)))
    (dss_one (ds_retV (ps_ret (pv 4))))))
    dss_nil))
    (dss_cons (ds_setix (ps_asg (de_frz (de_op o_add (de_ix (de_var (pv 0)) de_int fun _ _ => rfl) de_int)) (pg_sub (pv 0) de_int set_list)))
    (dss_cons (ds_asg (ps_set (i := 2) sc__law_take.nd rfl (by first | exact Or.inl rfl | exact Or.inr rfl) (de_ix (de_var (pv 0)) de_int fun _ _ => rfl)))
    (dss_cons (ds_asg (ps_set (i := 3) sc__law_take.nd rfl (by first | exact Or.inl rfl | exact Or.inr rfl) (de_op o_mod (de_op o_pow (de_op o_add (de_op o_add (de_op o_mul (de_ix (de_var (pv 0)) de_int fun _ _ => rfl) (de_op o_add (de_op o_mul de_int (de_var (pv 2))) de_int)) (de_op o_mul (de_op o_mul de_int (de_var (pv 2))) (de_var (pv 2)))) de_int) de_int) de_int)))
    (dss_one (ds_ret (ps_ret (de_op o_mod (de_op o_fdiv (de_op o_mod (de_op o_pow (de_op o_add (de_op o_add (de_var (pv 3)) (de_op o_mul (de_ix (de_var (pv 0)) de_int fun _ _ => rfl) (de_var (pv 2)))) de_int) de_int) de_int) de_int) (de_var (pv 1))))))))))
theorem ok__law_size {fd : FuncData} (FF : FnD K "_law_size" s__law_size [] fd) (hm : mg "_law_size" = some (.ref (He.ga K "_law_size"))) {fd__law_take : FuncData} (D__law_take : DefOk P w K mg base 1 "_law_take" s__law_take ["box", "many"] [] p__law_take fd__law_take) : DefOk P w K mg base 2 "_law_size" s__law_size ["box"] [] p__law_size fd := by
  have b__law_take : Binds K fd__law_take ["box", "many"] [] := D__law_take.F.bindsN fun _ _ _ _ _ _ us hl => match us, hl with | [_, _], _ => rfl
  refine ⟨FF, FnG.mk' FF sc__law_size (fun cdv A outer s H vs Q E vl gd hr h => ⟨_, ?_, body_run (by rw [vl]; rfl) h⟩), hm⟩
  exact (dss_one (ds_ret (ps_ret (de_ix (de_lst (da_cons de_int (da_cons de_int (da_cons de_int (da_cons de_int (da_cons (de_op o_add de_int (de_call D__law_take.G (hr.mono (by decide)) gd rfl D__law_take.m D__law_take.F.kp b__law_take .nil flat_nil rfl (passes_call (takes_of rfl rfl rfl rfl) fun _ _ _ _ z => z) (da_cons (de_var (pv 0)) (da_cons de_int da_nil)))) (da_cons (de_op o_add de_int (de_call D__law_take.G (hr.mono (by decide)) gd rfl D__law_take.m D__law_take.F.kp b__law_take .nil flat_nil rfl (passes_call (takes_of rfl rfl rfl rfl) fun _ _ _ _ z => z) (da_cons (de_var (pv 0)) (da_cons de_int da_nil)))) da_nil))))))) (de_call D__law_take.G (hr.mono (by decide)) gd rfl D__law_take.m D__law_take.F.kp b__law_take .nil flat_nil rfl (passes_call (takes_of rfl rfl rfl rfl) fun _ _ _ _ z => z) (da_cons (de_var (pv 0)) (da_cons de_int da_nil))) fun _ _ => rfl))))
theorem ok_is_whole {fd : FuncData} (FF : FnD K "is_whole" s_is_whole [] fd) (hm : mg "is_whole" = some (.ref (He.ga K "is_whole"))) (hf_bool : mg "bool" = none) (hf_int : mg "int" = none) (hf_isinstance : mg "isinstance" = none) : DefOk P w K mg base 1 "is_whole" s_is_whole ["value", "low", "high"] [] p_is_whole fd := by
  refine ⟨FF, FnG.mk' FF sc_is_whole (fun cdv A outer s H vs Q E vl gd hr h => ⟨_, ?_, body_run (by rw [vl]; rfl) h⟩), hm⟩
  exact (dss_one (ds_ret (ps_ret (de_and (de_isi (de_var (pv 0)) rfl hf_isinstance rfl hf_int bt_int) (de_and (de_not (de_isi (de_var (pv 0)) rfl hf_isinstance rfl hf_bool bt_bool)) (de_one (de_chain o_le o_le (de_var (pv 1)) (de_var (pv 0)) (de_var (pv 2)))))))))
theorem ok_need_size {fd : FuncData} (FF : FnD K "need_size" s_need_size [] fd) (hm : mg "need_size" = some (.ref (He.ga K "need_size"))) (ht_MOST_SIZE : ∃ t, mg "MOST_SIZE" = some (.int 9999 t)) {fd_is_whole : FuncData} (D_is_whole : DefOk P w K mg base 1 "is_whole" s_is_whole ["value", "low", "high"] [] p_is_whole fd_is_whole) : DefOk P w K mg base 2 "need_size" s_need_size ["value", "low"] [] p_need_size fd := by
  obtain ⟨t_MOST_SIZE, hc_MOST_SIZE⟩ := ht_MOST_SIZE
  have b_is_whole : Binds K fd_is_whole ["value", "low", "high"] [] := D_is_whole.F.bindsN fun _ _ _ _ _ _ us hl => match us, hl with | [_, _, _], _ => rfl
  refine ⟨FF, FnG.mk' FF sc_need_size (fun cdv A outer s H vs Q E vl gd hr h => ⟨_, ?_, body_run (by rw [vl]; rfl) h⟩), hm⟩
  exact (dss_one (ds_if (ps_if (dt_not (dt_tru (de_call D_is_whole.G (hr.mono (by decide)) gd rfl D_is_whole.m D_is_whole.F.kp b_is_whole .nil flat_nil rfl (passes_call (takes_of rfl rfl rfl rfl) fun _ _ _ _ z => z) (da_cons (de_var (pv 0)) (da_cons (de_var (pv 1)) (da_cons (de_glob (v := .int 9999) rfl hc_MOST_SIZE ⟨_, rfl⟩ fun _ => .int _) da_nil))))))
    (dss_one ds_never)
    dss_nil)))
theorem ok_is_count {fd : FuncData} (FF : FnD K "is_count" s_is_count [] fd) (hm : mg "is_count" = some (.ref (He.ga K "is_count"))) (ht_MOST_COUNT : ∃ t, mg "MOST_COUNT" = some (.int 600 t)) {fd_is_whole : FuncData} (D_is_whole : DefOk P w K mg base 1 "is_whole" s_is_whole ["value", "low", "high"] [] p_is_whole fd_is_whole) : DefOk P w K mg base 2 "is_count" s_is_count ["value"] [] p_is_count fd := by
  obtain ⟨t_MOST_COUNT, hc_MOST_COUNT⟩ := ht_MOST_COUNT
  have b_is_whole : Binds K fd_is_whole ["value", "low", "high"] [] := D_is_whole.F.bindsN fun _ _ _ _ _ _ us hl => match us, hl with | [_, _, _], _ => rfl
  refine ⟨FF, FnG.mk' FF sc_is_count (fun cdv A outer s H vs Q E vl gd hr h => ⟨_, ?_, body_run (by rw [vl]; rfl) h⟩), hm⟩
  exact (dss_one (ds_ret (ps_ret (de_call D_is_whole.G (hr.mono (by decide)) gd rfl D_is_whole.m D_is_whole.F.kp b_is_whole .nil flat_nil rfl (passes_call (takes_of rfl rfl rfl rfl) fun _ _ _ _ z => z) (da_cons (de_var (pv 0)) (da_cons de_int (da_cons (de_glob (v := .int 600) rfl hc_MOST_COUNT ⟨_, rfl⟩ fun _ => .int _) da_nil)))))))
theorem ok_width_of {fd : FuncData} (FF : FnD K "width_of" s_width_of [] fd) (hm : mg "width_of" = some (.ref (He.ga K "width_of"))) {fd_is_count : FuncData} (D_is_count : DefOk P w K mg base 2 "is_count" s_is_count ["value"] [] p_is_count fd_is_count) {fd_need_size : FuncData} (D_need_size : DefOk P w K mg base 2 "need_size" s_need_size ["value", "low"] [] p_need_size fd_need_size) : DefOk P w K mg base 3 "width_of" s_width_of ["count", "gauge", "length"] [] p_width_of fd := by
  have b_is_count : Binds K fd_is_count ["value"] [] := D_is_count.F.bindsN fun _ _ _ _ _ _ us hl => match us, hl with | [_], _ => rfl
  have b_need_size : Binds K fd_need_size ["value", "low"] [] := D_need_size.F.bindsN fun _ _ _ _ _ _ us hl => match us, hl with | [_, _], _ => rfl
  refine ⟨FF, FnG.mk' FF sc_width_of (fun cdv A outer s H vs Q E vl gd hr h => ⟨_, ?_, body_run (by rw [vl]; rfl) h⟩), hm⟩
  exact (dss_cons (ds_if (ps_if (dt_not (dt_tru (de_call D_is_count.G (hr.mono (by decide)) gd rfl D_is_count.m D_is_count.F.kp b_is_count .nil flat_nil rfl (passes_call (takes_of rfl rfl rfl rfl) fun _ _ _ _ z => z) (da_cons (de_var (pv 0)) da_nil))))
    (dss_one ds_never)
    dss_nil))
    (dss_cons (ds_drop (ps_expr (de_call D_need_size.G (hr.mono (by decide)) gd rfl D_need_size.m D_need_size.F.kp b_need_size .nil flat_nil rfl (passes_call (takes_of rfl rfl rfl rfl) fun _ _ _ _ z => z) (da_cons (de_var (pv 1)) (da_cons de_int da_nil)))))
    (dss_cons (ds_drop (ps_expr (de_call D_need_size.G (hr.mono (by decide)) gd rfl D_need_size.m D_need_size.F.kp b_need_size .nil flat_nil rfl (passes_call (takes_of rfl rfl rfl rfl) fun _ _ _ _ z => z) (da_cons (de_var (pv 2)) (da_cons de_int da_nil)))))
    (dss_cons (ds_par (ps_par (i := 3) (j := 4) rfl sc_width_of.nd rfl rfl (by decide) rfl rfl (da_cons (de_op o_mul (de_var (pv 0)) (de_var (pv 2))) (da_cons (de_var (pv 1)) da_nil)) rfl))
    (dss_cons (ds_par (ps_par (i := 5) (j := 6) rfl sc_width_of.nd rfl rfl (by decide) rfl rfl (da_cons (de_var (pv 3)) (da_cons (de_var (pv 4)) da_nil)) rfl))
    (dss_cons (ds_while 10000 (ps_while (passes_of rfl) (dt_cmp o_gt (de_var (pv 6)) de_int (nomark _))
    (dss_one (ds_par (ps_par (i := 5) (j := 6) rfl sc_width_of.nd rfl rfl (by decide) rfl rfl (da_cons (de_var (pv 6)) (da_cons (de_op o_mod (de_var (pv 5)) (de_var (pv 6))) da_nil)) rfl)))))
    (dss_one (ds_ret (ps_ret (de_tup (da_cons (de_op o_fdiv (de_var (pv 3)) (de_var (pv 5))) (da_cons (de_op o_fdiv (de_var (pv 4)) (de_var (pv 5))) da_nil))))))))))))
theorem ok_cast_on {fd : FuncData} (FF : FnD K "cast_on" s_cast_on [("multiple", .int 1), ("rest", .int 0)] fd) (hm : mg "cast_on" = some (.ref (He.ga K "cast_on"))) (hf_abs : mg "abs" = none) (hf_range : mg "range" = none) {fd_is_whole : FuncData} (D_is_whole : DefOk P w K mg base 1 "is_whole" s_is_whole ["value", "low", "high"] [] p_is_whole fd_is_whole) {fd_need_size : FuncData} (D_need_size : DefOk P w K mg base 2 "need_size" s_need_size ["value", "low"] [] p_need_size fd_need_size) : DefOk P w K mg base 3 "cast_on" s_cast_on ["width", "gauge", "length", "multiple", "rest"] [("multiple", .int 1), ("rest", .int 0)] p_cast_on fd := by
  have b_is_whole : Binds K fd_is_whole ["value", "low", "high"] [] := D_is_whole.F.bindsN fun _ _ _ _ _ _ us hl => match us, hl with | [_, _, _], _ => rfl
  have b_need_size : Binds K fd_need_size ["value", "low"] [] := D_need_size.F.bindsN fun _ _ _ _ _ _ us hl => match us, hl with | [_, _], _ => rfl
  refine ⟨FF, FnG.mk' FF sc_cast_on (fun cdv A outer s H vs Q E vl gd hr h => ⟨_, ?_, body_run (by rw [vl]; rfl) h⟩), hm⟩
  exact (dss_cons (ds_drop (ps_expr (de_call D_need_size.G (hr.mono (by decide)) gd rfl D_need_size.m D_need_size.F.kp b_need_size .nil flat_nil rfl (passes_call (takes_of rfl rfl rfl rfl) fun _ _ _ _ z => z) (da_cons (de_var (pv 0)) (da_cons de_int da_nil)))))
    (dss_cons (ds_drop (ps_expr (de_call D_need_size.G (hr.mono (by decide)) gd rfl D_need_size.m D_need_size.F.kp b_need_size .nil flat_nil rfl (passes_call (takes_of rfl rfl rfl rfl) fun _ _ _ _ z => z) (da_cons (de_var (pv 1)) (da_cons de_int da_nil)))))
    (dss_cons (ds_drop (ps_expr (de_call D_need_size.G (hr.mono (by decide)) gd rfl D_need_size.m D_need_size.F.kp b_need_size .nil flat_nil rfl (passes_call (takes_of rfl rfl rfl rfl) fun _ _ _ _ z => z) (da_cons (de_var (pv 2)) (da_cons de_int da_nil)))))
    (dss_cons (ds_drop (ps_expr (de_call D_need_size.G (hr.mono (by decide)) gd rfl D_need_size.m D_need_size.F.kp b_need_size .nil flat_nil rfl (passes_call (takes_of rfl rfl rfl rfl) fun _ _ _ _ z => z) (da_cons (de_var (pv 3)) (da_cons de_int da_nil)))))
    (dss_cons (ds_if (ps_if (dt_not (dt_tru (de_call D_is_whole.G (hr.mono (by decide)) gd rfl D_is_whole.m D_is_whole.F.kp b_is_whole .nil flat_nil rfl (passes_call (takes_of rfl rfl rfl rfl) fun _ _ _ _ z => z) (da_cons (de_var (pv 4)) (da_cons de_int (da_cons (de_op o_sub (de_var (pv 3)) de_int) da_nil))))))
    (dss_one ds_never)
    dss_nil))
    (dss_cons (ds_asg (ps_set (i := 5) sc_cast_on.nd rfl (by first | exact Or.inl rfl | exact Or.inr rfl) de_non))
    (dss_cons (ds_for (ps_for (passes_of rfl) rfl (di_range3 rfl hf_range (daV_cons (de_var (pv 4)) (daV_cons de_int (daV_cons (de_var (pv 3)) da_nil)))) (dg_name (pg_name (i := 6) sc_cast_on.nd rfl (by first | exact Or.inl rfl | exact Or.inr rfl)))
    (dss_cons (ds_asg (ps_set (i := 7) sc_cast_on.nd rfl (by first | exact Or.inl rfl | exact Or.inr rfl) (de_callB c_abs rfl hf_abs bt_abs (daV_cons (de_op o_sub (de_op o_mul (de_var (pv 6)) (de_var (pv 2))) (de_op o_mul (de_var (pv 0)) (de_var (pv 1)))) da_nil))))
    (dss_one (ds_if (ps_if (PW.pt (dw_or (dt_cmp o_isN (de_var (pv 5)) de_non (nomark _)) (dw_or1 (dt_cmp o_lt (de_var (pv 7)) (de_ix (de_var (pv 5)) de_int fun _ _ => rfl) (nomark _)))))
    (dss_one (ds_asg (ps_set (i := 5) sc_cast_on.nd rfl (by first | exact Or.inl rfl | exact Or.inr rfl) (de_tup (da_cons (de_var (pv 7)) (da_cons (de_var (pv 6)) da_nil))))))
    dss_nil))))))
    (dss_one (ds_ret (ps_ret (de_if (dt_cmp o_isN (de_var (pv 5)) de_non (nomark _)) de_non (de_ix (de_var (pv 5)) de_int fun _ _ => rfl))))))))))))
theorem ok_law {fd : FuncData} (FF : FnD K "law" s_law [] fd) (hm : mg "law" = some (.ref (He.ga K "law"))) (hf_len : mg "len" = none) (hf_max : mg "max" = none) (hf_min : mg "min" = none) (hf_range : mg "range" = none) (hf_repr : mg "repr" = none) {fd__law_box : FuncData} (D__law_box : DefOk P w K mg base 1 "_law_box" s__law_box ["cell"] [] p__law_box fd__law_box) {fd__law_cell : FuncData} (D__law_cell : DefOk P w K mg base 1 "_law_cell" s__law_cell ["script", "k"] [] p__law_cell fd__law_cell) {fd__law_least : FuncData} (D__law_least : DefOk P w K mg base 1 "_law_least" s__law_least ["top", "base"] [] p__law_least fd__law_least) {fd__law_nearest : FuncData} (D__law_nearest : DefOk P w K mg base 1 "_law_nearest" s__law_nearest ["width", "gauge", "length", "multiple", "rest"] [] p__law_nearest fd__law_nearest) {fd__law_size : FuncData} (D__law_size : DefOk P w K mg base 2 "_law_size" s__law_size ["box"] [] p__law_size fd__law_size) {fd__law_take : FuncData} (D__law_take : DefOk P w K mg base 1 "_law_take" s__law_take ["box", "many"] [] p__law_take fd__law_take) {fd_cast_on : FuncData} (D_cast_on : DefOk P w K mg base 3 "cast_on" s_cast_on ["width", "gauge", "length", "multiple", "rest"] [("multiple", .int 1), ("rest", .int 0)] p_cast_on fd_cast_on) {fd_width_of : FuncData} (D_width_of : DefOk P w K mg base 3 "width_of" s_width_of ["count", "gauge", "length"] [] p_width_of fd_width_of) : DefOk P w K mg base 4 "law" s_law ["script"] [] p_law fd := by
  have b__law_box : Binds K fd__law_box ["cell"] [] := D__law_box.F.bindsN fun _ _ _ _ _ _ us hl => match us, hl with | [_], _ => rfl
  have b__law_cell : Binds K fd__law_cell ["script", "k"] [] := D__law_cell.F.bindsN fun _ _ _ _ _ _ us hl => match us, hl with | [_, _], _ => rfl
  have b__law_least : Binds K fd__law_least ["top", "base"] [] := D__law_least.F.bindsN fun _ _ _ _ _ _ us hl => match us, hl with | [_, _], _ => rfl
  have b__law_nearest : Binds K fd__law_nearest ["width", "gauge", "length", "multiple", "rest"] [] := D__law_nearest.F.bindsN fun _ _ _ _ _ _ us hl => match us, hl with | [_, _, _, _, _], _ => rfl
  have b__law_size : Binds K fd__law_size ["box"] [] := D__law_size.F.bindsN fun _ _ _ _ _ _ us hl => match us, hl with | [_], _ => rfl
  have b__law_take : Binds K fd__law_take ["box", "many"] [] := D__law_take.F.bindsN fun _ _ _ _ _ _ us hl => match us, hl with | [_, _], _ => rfl
  obtain ⟨ds_cast_on, vd_cast_on, bd_cast_on⟩ : ∃ ds, Vals (([("multiple", .int 1), ("rest", .int 0)] : List (Str × V)).map (·.2)) ds ∧ Binds K fd_cast_on ["width", "gauge", "length", "multiple", "rest"] ds := D_cast_on.F.binds0 3 (by decide) rfl fun _ _ _ _ _ _ us ks l1 l2 => match us, l1, ks, l2 with | [_, _, _], _, [_, _], _ => (by refine ⟨_, _, _, _, _, _, rfl, rfl, ?_⟩; refine ⟨_, _, _, _, _, _, rfl, rfl, ?_⟩; show _ = _; rfl)
  have fl_cast_on : Flat (([("multiple", .int 1), ("rest", .int 0)] : List (Str × V)).map (·.2)) [.dat (.int 1), .dat (.int 0)] := (flat_cons (fun _ => .int _) (flat_cons (fun _ => .int _) flat_nil))
  have b_width_of : Binds K fd_width_of ["count", "gauge", "length"] [] := D_width_of.F.bindsN fun _ _ _ _ _ _ us hl => match us, hl with | [_, _, _], _ => rfl
  have kb0_width_of : KB K fd_width_of ["count", "gauge", "length"] 0 ["length", "count", "gauge"] (fun rs qs => arr [.kw 1, .kw 2, .kw 0] rs [] qs) := kb_plain D_width_of.F 0 ["length", "count", "gauge"] [.kw 1, .kw 2, .kw 0] (by decide) rfl fun _ _ _ _ _ _ us ws l1 l2 => match us, l1, ws, l2 with | [], _, [_, _, _], _ => rfl
  have kb0_cast_on : KB K fd_cast_on ["width", "gauge", "length", "multiple", "rest"] 3 ["multiple", "rest"] (fun rs qs => arr [.pos 0, .pos 1, .pos 2, .kw 0, .kw 1] rs [] qs) := kb_kw D_cast_on.F 3 ["multiple", "rest"] [.pos 0, .pos 1, .pos 2, .kw 0, .kw 1] [] [] (by decide) (by decide) flat_nil rfl (by decide) rfl fun _ _ _ _ _ _ us mv ws l1 l2 l3 => match us, l1, mv, l2, ws, l3 with | [_, _, _], _, [], _, [_, _], _ => (by show _ = _; rfl)
  have kb1_cast_on : KB K fd_cast_on ["width", "gauge", "length", "multiple", "rest"] 0 ["rest", "gauge", "multiple", "width", "length"] (fun rs qs => arr [.kw 3, .kw 1, .kw 4, .kw 2, .kw 0] rs [] qs) := kb_kw D_cast_on.F 0 ["rest", "gauge", "multiple", "width", "length"] [.kw 3, .kw 1, .kw 4, .kw 2, .kw 0] [] [] (by decide) (by decide) flat_nil rfl (by decide) rfl fun _ _ _ _ _ _ us mv ws l1 l2 l3 => match us, l1, mv, l2, ws, l3 with | [], _, [], _, [_, _, _, _, _], _ => (by show _ = _; rfl)
  have kb2_cast_on : KB K fd_cast_on ["width", "gauge", "length", "multiple", "rest"] 3 ["multiple"] (fun rs qs => arr [.pos 0, .pos 1, .pos 2, .kw 0, .df 0] rs [.dat (.int 0)] qs) := kb_kw D_cast_on.F 3 ["multiple"] [.pos 0, .pos 1, .pos 2, .kw 0, .df 0] [("rest", .int 0)] [.dat (.int 0)] (by decide) (by decide) (flat_cons (fun _ => .int _) flat_nil) rfl (by decide) rfl fun _ _ _ _ _ _ us mv ws l1 l2 l3 => match us, l1, mv, l2, ws, l3 with | [_, _, _], _, [_], _, [_], _ => (by refine ⟨_, _, _, _, _, _, rfl, rfl, ?_⟩; show _ = _; rfl)
  refine ⟨FF, FnG.mk' FF sc_law (fun cdv A outer s H vs Q E vl gd hr h => ⟨_, ?_, body_run (by rw [vl]; rfl) h⟩), hm⟩
  exact (dss_cons (ds_for (ps_for (passes_of rfl) rfl (di_range1 rfl hf_range (daV_cons (de_callB (c_max rfl) rfl hf_max bt_max (daV_cons de_int (daV_cons (de_callB (c_min rfl) rfl hf_min bt_min (daV_cons de_int (daV_cons (de_lenS (pe_callB call_len rfl hf_len bt_len (pa_cons (pv 0) pa_nil))) da_nil))) da_nil))) da_nil)) (dg_name (pg_name (i := 1) sc_law.nd rfl (by first | exact Or.inl rfl | exact Or.inr rfl)))
    (dss_cons (ds_asg (ps_set (i := 2) sc_law.nd rfl (by first | exact Or.inl rfl | exact Or.inr rfl) (de_call D__law_box.G (hr.mono (by decide)) gd rfl D__law_box.m D__law_box.F.kp b__law_box .nil flat_nil rfl (passes_call (takes_of rfl rfl rfl rfl) fun _ _ _ _ z => z) (da_cons (de_call D__law_cell.G (hr.mono (by decide)) gd rfl D__law_cell.m D__law_cell.F.kp b__law_cell .nil flat_nil rfl (passes_call (takes_of rfl rfl rfl rfl) fun _ _ _ _ z => z) (da_cons (de_var (pv 0)) (da_cons (de_var (pv 1)) da_nil))) da_nil))))
    (dss_pin 2
    (dss_one (ds_for (ps_for (passes_of rfl) rfl (di_range1 rfl hf_range (daV_cons de_int da_nil)) (dg_name (pg_name (i := 3) sc_law.nd rfl (by first | exact Or.inl rfl | exact Or.inr rfl)))
    (dss_cons (ds_par (ps_par (i := 10) (j := 11) rfl sc_law.nd rfl rfl (by decide) rfl rfl (da_cons (de_call D__law_size.G (hr.mono (by decide)) gd rfl D__law_size.m D__law_size.F.kp b__law_size .nil flat_nil rfl (passes_call (takes_of rfl rfl rfl rfl) fun _ _ _ _ z => z) (da_cons (de_var (pv 2)) da_nil)) (da_cons (de_call D__law_size.G (hr.mono (by decide)) gd rfl D__law_size.m D__law_size.F.kp b__law_size .nil flat_nil rfl (passes_call (takes_of rfl rfl rfl rfl) fun _ _ _ _ z => z) (da_cons (de_var (pv 2)) da_nil)) da_nil)) rfl))
    (dss_cons (ds_asg (ps_set (i := 4) sc_law.nd rfl (by first | exact Or.inl rfl | exact Or.inr rfl) (de_ix (de_lst (da_cons de_int (da_cons de_int (da_cons (de_call D__law_take.G (hr.mono (by decide)) gd rfl D__law_take.m D__law_take.F.kp b__law_take .nil flat_nil rfl (passes_call (takes_of rfl rfl rfl rfl) fun _ _ _ _ z => z) (da_cons (de_var (pv 2)) (da_cons de_int da_nil))) da_nil)))) (de_call D__law_take.G (hr.mono (by decide)) gd rfl D__law_take.m D__law_take.F.kp b__law_take .nil flat_nil rfl (passes_call (takes_of rfl rfl rfl rfl) fun _ _ _ _ z => z) (da_cons (de_var (pv 2)) (da_cons de_int da_nil))) fun _ _ => rfl)))
    (dss_cons (ds_asg (ps_set (i := 5) sc_law.nd rfl (by first | exact Or.inl rfl | exact Or.inr rfl) (de_call D__law_least.G (hr.mono (by decide)) gd rfl D__law_least.m D__law_least.F.kp b__law_least .nil flat_nil rfl (passes_call (takes_of rfl rfl rfl rfl) fun _ _ _ _ z => z) (da_cons (de_op o_mul (de_var (pv 4)) (de_var (pv 11))) (da_cons (de_var (pv 10)) da_nil)))))
    (dss_cons (ds_asg (ps_set (i := 6) sc_law.nd rfl (by first | exact Or.inl rfl | exact Or.inr rfl) (de_lst (da_cons (de_call D_width_of.G (hr.mono (by decide)) gd rfl D_width_of.m D_width_of.F.kp b_width_of .nil flat_nil rfl (passes_call (takes_of rfl rfl rfl rfl) fun _ _ _ _ z => z) (da_cons (de_var (pv 4)) (da_cons (de_var (pv 10)) (da_cons (de_var (pv 11)) da_nil)))) (da_cons (de_callK0 D_width_of.G (hr.mono (by decide)) gd rfl D_width_of.m D_width_of.F.kp kb0_width_of rfl (passes_call (takes_of rfl rfl rfl rfl) fun _ _ _ _ z => z) (dk_cons (de_var (pv 11)) (dk_cons (de_var (pv 4)) (dk_cons (de_var (pv 10)) dk_nil)))) da_nil)))))
    (dss_cons (ds_if (ps_if (PW.pt (dw_or (dt_cmp (o_ne hr.units) (de_var (pv 6)) (de_lst (da_cons (de_var (pv 5)) (da_cons (de_var (pv 5)) da_nil))) (nomark _)) (dw_or1 (dt_cmp (o_ne hr.units) (de_callB (c_repr hr.units gd) rfl hf_repr bt_repr (daV_cons (de_var (pv 6)) da_nil)) (de_callB (c_repr hr.units gd) rfl hf_repr bt_repr (daV_cons (de_lst (da_cons (de_var (pv 5)) (da_cons (de_var (pv 5)) da_nil))) da_nil)) (nomark _)))))
    (dss_one (ds_ret (ps_ret de_bl)))
    dss_nil))
    (dss_cons (ds_asg (ps_set (i := 7) sc_law.nd rfl (by first | exact Or.inl rfl | exact Or.inr rfl) (de_ix (de_lst (da_cons de_int (da_cons de_int (da_cons (de_op o_fdiv (de_op o_mul (de_var (pv 4)) (de_var (pv 11))) (de_var (pv 10))) (da_cons (de_op o_fdiv (de_op o_mul (de_op o_add (de_op o_mul de_int (de_var (pv 4))) de_int) (de_var (pv 11))) (de_op o_mul de_int (de_var (pv 10)))) (da_cons (de_call D__law_take.G (hr.mono (by decide)) gd rfl D__law_take.m D__law_take.F.kp b__law_take .nil flat_nil rfl (passes_call (takes_of rfl rfl rfl rfl) fun _ _ _ _ z => z) (da_cons (de_var (pv 2)) (da_cons de_int da_nil))) da_nil)))))) (de_call D__law_take.G (hr.mono (by decide)) gd rfl D__law_take.m D__law_take.F.kp b__law_take .nil flat_nil rfl (passes_call (takes_of rfl rfl rfl rfl) fun _ _ _ _ z => z) (da_cons (de_var (pv 2)) (da_cons de_int da_nil))) fun _ _ => rfl)))
    (dss_cons (ds_asg (ps_set (i := 7) sc_law.nd rfl (by first | exact Or.inl rfl | exact Or.inr rfl) (de_callB (c_min rfl) rfl hf_min bt_min (daV_cons de_int (daV_cons (de_var (pv 7)) da_nil)))))
    (dss_cons (ds_asg (ps_set (i := 8) sc_law.nd rfl (by first | exact Or.inl rfl | exact Or.inr rfl) (de_ix (de_lst (da_cons de_int (da_cons de_int (da_cons de_int (da_cons de_int (da_cons de_int (da_cons (de_op o_add de_int (de_call D__law_take.G (hr.mono (by decide)) gd rfl D__law_take.m D__law_take.F.kp b__law_take .nil flat_nil rfl (passes_call (takes_of rfl rfl rfl rfl) fun _ _ _ _ z => z) (da_cons (de_var (pv 2)) (da_cons de_int da_nil)))) da_nil))))))) (de_call D__law_take.G (hr.mono (by decide)) gd rfl D__law_take.m D__law_take.F.kp b__law_take .nil flat_nil rfl (passes_call (takes_of rfl rfl rfl rfl) fun _ _ _ _ z => z) (da_cons (de_var (pv 2)) (da_cons de_int da_nil))) fun _ _ => rfl)))
    (dss_cons (ds_asg (ps_set (i := 9) sc_law.nd rfl (by first | exact Or.inl rfl | exact Or.inr rfl) (de_ix (de_lst (da_cons de_int (da_cons (de_op o_sub (de_var (pv 8)) de_int) (da_cons (de_call D__law_take.G (hr.mono (by decide)) gd rfl D__law_take.m D__law_take.F.kp b__law_take .nil flat_nil rfl (passes_call (takes_of rfl rfl rfl rfl) fun _ _ _ _ z => z) (da_cons (de_var (pv 2)) (da_cons (de_var (pv 8)) da_nil))) da_nil)))) (de_call D__law_take.G (hr.mono (by decide)) gd rfl D__law_take.m D__law_take.F.kp b__law_take .nil flat_nil rfl (passes_call (takes_of rfl rfl rfl rfl) fun _ _ _ _ z => z) (da_cons (de_var (pv 2)) (da_cons de_int da_nil))) fun _ _ => rfl)))
    (dss_cons (ds_asg (ps_set (i := 5) sc_law.nd rfl (by first | exact Or.inl rfl | exact Or.inr rfl) (de_call D__law_nearest.G (hr.mono (by decide)) gd rfl D__law_nearest.m D__law_nearest.F.kp b__law_nearest .nil flat_nil rfl (passes_call (takes_of rfl rfl rfl rfl) fun _ _ _ _ z => z) (da_cons (de_var (pv 7)) (da_cons (de_var (pv 10)) (da_cons (de_var (pv 11)) (da_cons (de_var (pv 8)) (da_cons (de_var (pv 9)) da_nil))))))))
    (dss_cons (ds_asg (ps_set (i := 6) sc_law.nd rfl (by first | exact Or.inl rfl | exact Or.inr rfl) (de_lst (da_cons (de_callK D_cast_on.G (hr.mono (by decide)) gd rfl D_cast_on.m D_cast_on.F.kp kb0_cast_on rfl (passes_call (takes_of rfl rfl rfl rfl) fun _ _ _ _ z => z) (da_cons (de_var (pv 7)) (da_cons (de_var (pv 10)) (da_cons (de_var (pv 11)) da_nil))) (dk_cons (de_var (pv 8)) (dk_cons (de_var (pv 9)) dk_nil))) da_nil))))
    (dss_cons (ds_app (ps_expr (pe_bm PySem.F.plainAttrs_list PySem.F.slot_list_append PySem.F.type_list_append mt_append (pv 6) (da_cons (de_callK0 D_cast_on.G (hr.mono (by decide)) gd rfl D_cast_on.m D_cast_on.F.kp kb1_cast_on rfl (passes_call (takes_of rfl rfl rfl rfl) fun _ _ _ _ z => z) (dk_cons (de_var (pv 9)) (dk_cons (de_var (pv 10)) (dk_cons (de_var (pv 8)) (dk_cons (de_var (pv 7)) (dk_cons (de_var (pv 11)) dk_nil)))))) da_nil))))
    (dss_cons (ds_if (ps_if (PW.pt (dw_or (dt_cmp (o_ne hr.units) (de_var (pv 6)) (de_lst (da_cons (de_var (pv 5)) (da_cons (de_var (pv 5)) da_nil))) (nomark _)) (dw_or1 (dt_cmp (o_ne hr.units) (de_callB (c_repr hr.units gd) rfl hf_repr bt_repr (daV_cons (de_var (pv 6)) da_nil)) (de_callB (c_repr hr.units gd) rfl hf_repr bt_repr (daV_cons (de_lst (da_cons (de_var (pv 5)) (da_cons (de_var (pv 5)) da_nil))) da_nil)) (nomark _)))))
    (dss_one (ds_ret (ps_ret de_bl)))
    dss_nil))
    (dss_cons (ds_asg (ps_set (i := 5) sc_law.nd rfl (by first | exact Or.inl rfl | exact Or.inr rfl) (de_call D__law_nearest.G (hr.mono (by decide)) gd rfl D__law_nearest.m D__law_nearest.F.kp b__law_nearest .nil flat_nil rfl (passes_call (takes_of rfl rfl rfl rfl) fun _ _ _ _ z => z) (da_cons (de_var (pv 7)) (da_cons (de_var (pv 10)) (da_cons (de_var (pv 11)) (da_cons de_int (da_cons de_int da_nil))))))))
    (dss_cons (ds_if (ps_if (dt_cmp (o_ne hr.units) (de_callB (c_repr hr.units gd) rfl hf_repr bt_repr (daV_cons (de_call D_cast_on.G (hr.mono (by decide)) gd rfl D_cast_on.m D_cast_on.F.kp bd_cast_on vd_cast_on fl_cast_on rfl (passes_call (takes_of rfl rfl rfl rfl) fun _ _ _ _ z => z) (da_cons (de_var (pv 7)) (da_cons (de_var (pv 10)) (da_cons (de_var (pv 11)) da_nil)))) da_nil)) (de_callB (c_repr hr.units gd) rfl hf_repr bt_repr (daV_cons (de_var (pv 5)) da_nil)) (nomark _))
    (dss_one (ds_ret (ps_ret de_bl)))
    dss_nil))
    (dss_cons (ds_asg (ps_set (i := 5) sc_law.nd rfl (by first | exact Or.inl rfl | exact Or.inr rfl) (de_call D__law_nearest.G (hr.mono (by decide)) gd rfl D__law_nearest.m D__law_nearest.F.kp b__law_nearest .nil flat_nil rfl (passes_call (takes_of rfl rfl rfl rfl) fun _ _ _ _ z => z) (da_cons (de_var (pv 7)) (da_cons (de_var (pv 10)) (da_cons (de_var (pv 11)) (da_cons (de_var (pv 8)) (da_cons de_int da_nil))))))))
    (dss_one (ds_if (ps_if (dt_cmp (o_ne hr.units) (de_callB (c_repr hr.units gd) rfl hf_repr bt_repr (daV_cons (de_callK D_cast_on.G (hr.mono (by decide)) gd rfl D_cast_on.m D_cast_on.F.kp kb2_cast_on rfl (passes_call (takes_of rfl rfl rfl rfl) fun _ _ _ _ z => z) (da_cons (de_var (pv 7)) (da_cons (de_var (pv 10)) (da_cons (de_var (pv 11)) da_nil))) (dk_cons (de_var (pv 8)) dk_nil)) da_nil)) (de_callB (c_repr hr.units gd) rfl hf_repr bt_repr (daV_cons (de_var (pv 5)) da_nil)) (nomark _))
    (dss_one (ds_ret (ps_ret de_bl)))
    dss_nil))))))))))))))))))))))))))
    (dss_one (ds_ret (ps_ret de_bl))))
end
def d__law_box : He.DefD := ⟨("_law_box", none), "_law_box", "_law_box", defArgs s__law_box, defBody s__law_box, defScope s__law_box, [], []⟩
def d__law_cell : He.DefD := ⟨("_law_cell", none), "_law_cell", "_law_cell", defArgs s__law_cell, defBody s__law_cell, defScope s__law_cell, [], []⟩
def d__law_least : He.DefD := ⟨("_law_least", none), "_law_least", "_law_least", defArgs s__law_least, defBody s__law_least, defScope s__law_least, [], []⟩
def d__law_nearest : He.DefD := ⟨("_law_nearest", none), "_law_nearest", "_law_nearest", defArgs s__law_nearest, defBody s__law_nearest, defScope s__law_nearest, [], []⟩
def d__law_take : He.DefD := ⟨("_law_take", none), "_law_take", "_law_take", defArgs s__law_take, defBody s__law_take, defScope s__law_take, [], []⟩
def d__law_size : He.DefD := ⟨("_law_size", none), "_law_size", "_law_size", defArgs s__law_size, defBody s__law_size, defScope s__law_size, [], []⟩
def d_is_whole : He.DefD := ⟨("is_whole", none), "is_whole", "is_whole", defArgs s_is_whole, defBody s_is_whole, defScope s_is_whole, [], []⟩
def d_need_size : He.DefD := ⟨("need_size", none), "need_size", "need_size", defArgs s_need_size, defBody s_need_size, defScope s_need_size, [], []⟩
def d_is_count : He.DefD := ⟨("is_count", none), "is_count", "is_count", defArgs s_is_count, defBody s_is_count, defScope s_is_count, [], []⟩
def d_width_of : He.DefD := ⟨("width_of", none), "width_of", "width_of", defArgs s_width_of, defBody s_width_of, defScope s_width_of, [], []⟩
def d_cast_on : He.DefD := ⟨("cast_on", none), "cast_on", "cast_on", defArgs s_cast_on, defBody s_cast_on, defScope s_cast_on, [], [("multiple", .int 1), ("rest", .int 0)]⟩
def d_law : He.DefD := ⟨("law", none), "law", "law", defArgs s_law, defBody s_law, defScope s_law, [], []⟩
def fn : List He.DefD := [d__law_box, d__law_cell, d__law_least, d__law_nearest, d__law_take, d__law_size, d_is_whole, d_need_size, d_is_count, d_width_of, d_cast_on, d_law]
def fa : List He.Fa := [.glo "_law_box", .glo "_law_cell", .glo "_law_least", .glo "_law_nearest", .glo "_law_take", .glo "_law_size", .glo "is_whole", .glo "need_size", .glo "is_count", .glo "width_of", .glo "cast_on", .glo "law", .free "abs", .free "bool", .free "int", .free "isinstance", .free "len", .free "max", .free "min", .free "range", .free "repr", .int "MOST_COUNT" 600, .int "MOST_SIZE" 9999]
abbrev R : PySem.W.OpenRow := PySem.W.OpenLaw.row PySem.Challenge.rw_knitrows_k52_widths_and_cast_ons
abbrev hk : PySem.W.Hook := He.hookD 5 fa fn
def ob (s : PySem.W.SharedT) : He.AlD := He.obsDG 5 fa fn (HandSHeadRun.getT s)
theorem ob_eq (s : PySem.W.SharedT) : ob s = hk.obs s.abs := He.obsDG_eq (HandSHeadRun.getT_eq s)
def loose : List Str := ["KnitError", "NoCount", "NoSize", "MOST_COUNT", "is_whole", "is_count", "MOST_SIZE", "need_size", "width_of", "cast_on", "_law_cell", "_law_box", "_law_take", "_law_size", "_law_least", "_law_nearest"]
theorem run (w : World) : HandSHeadRun.RunEq R (PySem.W.view R.prog [20]) hk ob 100000 loose w := by
  intro os
  kernel_rfl
theorem facts {P : Program} {w : World} {K : PySem.W.Frag} {h : Heap} {mg : Str → Option Value} {f : Addr} (X : K.In h) (G : h.Ns mainGlobals mg) (hfa : mg ("law" : Str) = some (.ref f)) (c : He.SaysD fa fn K) :
    ∃ fd : FuncData, (∀ (s : Shared) (v : Value), BindsTo s fd ⟨[v], []⟩ [("script", v)]) ∧ ∀ base : Heap, K.In base → base.Ns mainGlobals mg → FnG P w K mg base 4 f fd ["script"] (spF K p_law) := by
  obtain ⟨fd__law_box, F__law_box⟩ := c.def_ 0 (d := d__law_box) rfl
  obtain ⟨fd__law_cell, F__law_cell⟩ := c.def_ 1 (d := d__law_cell) rfl
  obtain ⟨fd__law_least, F__law_least⟩ := c.def_ 2 (d := d__law_least) rfl
  obtain ⟨fd__law_nearest, F__law_nearest⟩ := c.def_ 3 (d := d__law_nearest) rfl
  obtain ⟨fd__law_take, F__law_take⟩ := c.def_ 4 (d := d__law_take) rfl
  obtain ⟨fd__law_size, F__law_size⟩ := c.def_ 5 (d := d__law_size) rfl
  obtain ⟨fd_is_whole, F_is_whole⟩ := c.def_ 6 (d := d_is_whole) rfl
  obtain ⟨fd_need_size, F_need_size⟩ := c.def_ 7 (d := d_need_size) rfl
  obtain ⟨fd_is_count, F_is_count⟩ := c.def_ 8 (d := d_is_count) rfl
  obtain ⟨fd_width_of, F_width_of⟩ := c.def_ 9 (d := d_width_of) rfl
  obtain ⟨fd_cast_on, F_cast_on⟩ := c.def_ 10 (d := d_cast_on) rfl
  obtain ⟨fd_law, F_law⟩ := c.def_ 11 (d := d_law) rfl
  have g__law_box : mg "_law_box" = some (.ref (He.ga K "_law_box")) := He.glo_ok X G (c.fact 0 (f := .glo "_law_box") rfl)
  have g__law_cell : mg "_law_cell" = some (.ref (He.ga K "_law_cell")) := He.glo_ok X G (c.fact 1 (f := .glo "_law_cell") rfl)
  have g__law_least : mg "_law_least" = some (.ref (He.ga K "_law_least")) := He.glo_ok X G (c.fact 2 (f := .glo "_law_least") rfl)
  have g__law_nearest : mg "_law_nearest" = some (.ref (He.ga K "_law_nearest")) := He.glo_ok X G (c.fact 3 (f := .glo "_law_nearest") rfl)
  have g__law_take : mg "_law_take" = some (.ref (He.ga K "_law_take")) := He.glo_ok X G (c.fact 4 (f := .glo "_law_take") rfl)
  have g__law_size : mg "_law_size" = some (.ref (He.ga K "_law_size")) := He.glo_ok X G (c.fact 5 (f := .glo "_law_size") rfl)
  have g_is_whole : mg "is_whole" = some (.ref (He.ga K "is_whole")) := He.glo_ok X G (c.fact 6 (f := .glo "is_whole") rfl)
  have g_need_size : mg "need_size" = some (.ref (He.ga K "need_size")) := He.glo_ok X G (c.fact 7 (f := .glo "need_size") rfl)
  have g_is_count : mg "is_count" = some (.ref (He.ga K "is_count")) := He.glo_ok X G (c.fact 8 (f := .glo "is_count") rfl)
  have g_width_of : mg "width_of" = some (.ref (He.ga K "width_of")) := He.glo_ok X G (c.fact 9 (f := .glo "width_of") rfl)
  have g_cast_on : mg "cast_on" = some (.ref (He.ga K "cast_on")) := He.glo_ok X G (c.fact 10 (f := .glo "cast_on") rfl)
  have g_law : mg "law" = some (.ref (He.ga K "law")) := He.glo_ok X G (c.fact 11 (f := .glo "law") rfl)
  have hf_abs : mg "abs" = none := He.free_ok X G (c.fact 12 (f := .free "abs") rfl)
  have hf_bool : mg "bool" = none := He.free_ok X G (c.fact 13 (f := .free "bool") rfl)
  have hf_int : mg "int" = none := He.free_ok X G (c.fact 14 (f := .free "int") rfl)
  have hf_isinstance : mg "isinstance" = none := He.free_ok X G (c.fact 15 (f := .free "isinstance") rfl)
  have hf_len : mg "len" = none := He.free_ok X G (c.fact 16 (f := .free "len") rfl)
  have hf_max : mg "max" = none := He.free_ok X G (c.fact 17 (f := .free "max") rfl)
  have hf_min : mg "min" = none := He.free_ok X G (c.fact 18 (f := .free "min") rfl)
  have hf_range : mg "range" = none := He.free_ok X G (c.fact 19 (f := .free "range") rfl)
  have hf_repr : mg "repr" = none := He.free_ok X G (c.fact 20 (f := .free "repr") rfl)
  have ht_MOST_COUNT : ∃ t, mg "MOST_COUNT" = some (.int 600 t) := He.int_ok X G (c.fact 21 (f := .int "MOST_COUNT" 600) rfl)
  have ht_MOST_SIZE : ∃ t, mg "MOST_SIZE" = some (.int 9999 t) := He.int_ok X G (c.fact 22 (f := .int "MOST_SIZE" 9999) rfl)
  have e := hfa.symm.trans g_law
  cases e
  have b := FunD.bindsA (ps := ["script"]) F_law fun _ _ _ _ _ _ us hl => match us, hl with | [_], _ => rfl
  refine ⟨fd_law, fun s v => b s [v] rfl, fun base _ _ => ?_⟩
  have D__law_box := ok__law_box (P := P) (w := w) (base := base) F__law_box g__law_box hf_max
  have D__law_cell := ok__law_cell (P := P) (w := w) (base := base) F__law_cell g__law_cell hf_len
  have D__law_least := ok__law_least (P := P) (w := w) (base := base) F__law_least g__law_least hf_int hf_max
  have D__law_nearest := ok__law_nearest (P := P) (w := w) (base := base) F__law_nearest g__law_nearest hf_int hf_max hf_range
  have D__law_take := ok__law_take (P := P) (w := w) (base := base) F__law_take g__law_take 
  have D__law_size := ok__law_size (P := P) (w := w) (base := base) F__law_size g__law_size D__law_take
  have D_is_whole := ok_is_whole (P := P) (w := w) (base := base) F_is_whole g_is_whole hf_bool hf_int hf_isinstance
  have D_need_size := ok_need_size (P := P) (w := w) (base := base) F_need_size g_need_size ht_MOST_SIZE D_is_whole
  have D_is_count := ok_is_count (P := P) (w := w) (base := base) F_is_count g_is_count ht_MOST_COUNT D_is_whole
  have D_width_of := ok_width_of (P := P) (w := w) (base := base) F_width_of g_width_of D_is_count D_need_size
  have D_cast_on := ok_cast_on (P := P) (w := w) (base := base) F_cast_on g_cast_on hf_abs hf_range D_is_whole D_need_size
  have D_law := ok_law (P := P) (w := w) (base := base) F_law g_law hf_len hf_max hf_min hf_range hf_repr D__law_box D__law_cell D__law_least D__law_nearest D__law_size D__law_take D_cast_on D_width_of
  exact D_law.G
end DL.L52
open PySem PySem.W PySem.Calls PyProof.Rows
/-- the law, from what its mirror tells -/
theorem DL.L52.holds (told : ∀ ns : List Int, ns.length ≤ 63 → ∃ cs, DL.L52.p_law [.scr ns] [] = .ok (.dat (.bl true), cs)) : PySem.Challenge.rw_knitrows_k52_widths_and_cast_ons.Holds := by
  w_on; o_law
  refine HandSHeadRun.head_any (r := OpenLaw.row PySem.Challenge.rw_knitrows_k52_widths_and_cast_ons) (q := view (OpenLaw.row PySem.Challenge.rw_knitrows_k52_widths_and_cast_ons).prog [20]) (H := DL.L52.hk) (ob := DL.L52.ob) (M := 100000) (loose := DL.L52.loose) (d := HandSHeadRun.topDef (OpenLaw.row PySem.Challenge.rw_knitrows_k52_widths_and_cast_ons).prog 20) (kwd := []) DL.L52.ob_eq
    (by kernel_rfl) (fun s => by kernel_rfl) DL.L52.run (by kernel_rfl) (by kernel_rfl) (by kernel_rfl) (by rfl) (by first | assumption | decide +kernel) (by decide +kernel) ⟨rfl, rfl, rfl, rfl, rfl, by decide +kernel⟩ ?hw ?hc
  case hw => w_witness2
  case hc =>
    refine DL.walk_G (l := PySem.Challenge.rw_knitrows_k52_widths_and_cast_ons) (n := 63) (k := 4) (x := "script") rfl (by decide) (by kernel_rfl) ⟨rfl, by decide, by decide⟩ ?F
    intro w mg fa h Y G hmg0
    obtain ⟨K, KX, c⟩ := Y
    have hmg : mg ("law" : PySem.Str) = some (.ref fa) := by
      have e : (HandSHeadRun.topDef (OpenLaw.row PySem.Challenge.rw_knitrows_k52_widths_and_cast_ons).prog 20).name = ("law" : PySem.Str) := by kernel_rfl
      rw [← e]
      exact hmg0
    obtain ⟨fd, hb, hF⟩ := DL.L52.facts (P := (PySem.Challenge.rw_knitrows_k52_widths_and_cast_ons).prog) (w := w) KX G hmg c
    exact ⟨K, fd, DL.L52.p_law, KX, hb, told, hF⟩

/-! K52: what the mirrors of k52 tell. -/
namespace DL.L52
open PySem L2
theorem tk {cs : List CO} {n m : Int} (h : Bx cs n) (hn : n < 1000000) (hm0 : 0 < m) (hm1 : m < 1073741824) :
    ∃ d cs', p__law_take [.cell 0, .dat (.int m)] cs = .ok (.dat (.int d), cs') ∧ 0 ≤ d ∧ d < m ∧ Bx cs' (n + 1) := take_ok (k1 := 6053) (k2 := 52) (k3 := 74) (by decide) h (by omega) hm0 hm1
theorem size_ok {cs : List CO} {n : Int} (h : Bx cs n) (hn : n < 900000) : ∃ s cs', p__law_size [.cell 0] cs = .ok (.dat (.int s), cs') ∧ 1 ≤ s ∧ s ≤ 9999 ∧ Bx cs' (n + 3) := by
  obtain ⟨d1, c1, e1, l1, u1, b1⟩ := tk (m := 40) h (by omega) (by decide) (by decide)
  obtain ⟨d2, c2, e2, l2, u2, b2⟩ := tk (m := 9999) b1 (by omega) (by decide) (by decide)
  obtain ⟨d3, c3, e3, l3, u3, b3⟩ := tk (m := 6) b2 (by omega) (by decide) (by decide)
  obtain ⟨x, q, s, rfl, lo, hi⟩ := atI_all (P := fun x => ∃ s, x = D.int s ∧ 1 ≤ s ∧ s ≤ 9999) (xs := [.int 1, .int 9999, .int 10, .int 22, .int (1 + d1), .int (1 + d2)]) (i := d3) (by
    simp only [List.mem_cons, List.not_mem_nil, or_false, forall_eq_or_imp, forall_eq]
    refine ⟨⟨_, rfl, by omega, by omega⟩, ⟨_, rfl, by omega, by omega⟩, ⟨_, rfl, by omega, by omega⟩, ⟨_, rfl, by omega, by omega⟩, ⟨_, rfl, by omega, by omega⟩, ⟨_, rfl, by omega, by omega⟩⟩) l3 u3
  refine ⟨s, c3, ?_, lo, hi, b3.mono (by omega)⟩
  clear h b1 b2 b3
  unfold p__law_size m__law_size
  walk_at "dl"
theorem whole_ok {v lo hi : Int} {cs : List CO} (h1 : lo ≤ v) (h2 : v ≤ hi) : p_is_whole [.dat (.int v), .dat (.int lo), .dat (.int hi)] cs = .ok (.dat (.bl true), cs) := by
  have e1 := decide_eq_true h1
  have e2 := decide_eq_true h2
  unfold p_is_whole m_is_whole
  walk_at "dl"
theorem need_ok {v lo : Int} {cs : List CO} (h1 : lo ≤ v) (h2 : v ≤ 9999) : p_need_size [.dat (.int v), .dat (.int lo)] cs = .ok (.dat .non, cs) := by
  have e1 := whole_ok (cs := cs) h1 h2
  unfold p_need_size m_need_size
  walk_at "dl"
theorem count_ok {v : Int} {cs : List CO} (h1 : 0 ≤ v) (h2 : v ≤ 600) : p_is_count [.dat (.int v)] cs = .ok (.dat (.bl true), cs) := by
  have e1 := whole_ok (cs := cs) h1 h2
  unfold p_is_count m_is_count
  walk_at "dl"
/-- Euclid's steps -/
def eu : Nat → Int → Int → Int
  | 0, a, _ => a
  | n + 1, a, b => if 0 < b then eu n b (a % b) else a
theorem eu_in : ∀ (n : Nat) (a b : Int), 1 ≤ b → 0 ≤ a → 1 ≤ eu (n + 1) a b ∧ eu (n + 1) a b ≤ b
  | 0, a, b, h, _ => by unfold eu; rw [if_pos (by omega)]; unfold eu; omega
  | n + 1, a, b, h, h0 => by
    have e : eu (n + 1 + 1) a b = eu (n + 1) b (a % b) := by rw [eu, if_pos (by omega)]
    rw [e]
    have l := Int.emod_nonneg a (show b ≠ 0 by omega)
    have u := Int.emod_lt_of_pos a (show 0 < b by omega)
    by_cases z : 1 ≤ a % b
    · have := eu_in n b (a % b) z (by omega)
      omega
    · have z' : a % b = 0 := by omega
      rw [z']
      have : eu (n + 1) b 0 = b := by rw [eu, if_neg (by decide)]
      omega
theorem eu_pos {n : Nat} {a b : Int} (hn : 0 < n) (h : 1 ≤ b) (h0 : 0 ≤ a) : 1 ≤ eu n a b ∧ eu n a b ≤ b := by
  obtain ⟨k, rfl⟩ : ∃ k, n = k + 1 := ⟨n - 1, by omega⟩
  exact eu_in k a b h h0
theorem eu_w (x0 x1 x2 x3 x4 : SV) (cs : List CO) : ∀ (n : Nat) (a b : Int), 0 ≤ b → b < n →
    ∃ z, whileF (toT (dOp gGt (dVar 6) (dCon (.int 0)))) (dPar 5 6 (dCons (dVar 6) (dCons (dOp gMod (dVar 5) (dVar 6)) dNil))) n [x0, x1, x2, x3, x4, .dat (.int a), .dat (.int b)] cs = .nx [x0, x1, x2, x3, x4, .dat (.int (eu n a b)), .dat (.int z)] cs
  | 0, a, b, h0, h => by omega
  | n + 1, a, b, h0, h => by
    by_cases hb : 0 < b
    · have l := Int.emod_nonneg a (show b ≠ 0 by omega)
      have u := Int.emod_lt_of_pos a hb
      obtain ⟨z, e⟩ := eu_w x0 x1 x2 x3 x4 cs n b (a % b) l (by omega)
      refine ⟨z, ?_⟩
      have eb := decide_eq_true hb
      rw [eu, if_pos hb, ← e]
      clear e
      refine whileF_go (c1 := cs) ?_ ?_ <;> walk_at "dl"
    · refine ⟨b, ?_⟩
      have eb := decide_eq_false hb
      rw [eu, if_neg hb]
      refine whileF_end ?_
      walk_at "dl"
theorem eu_l (x0 x1 : SV) (cs : List CO) : ∀ (n : Nat) (a b : Int), 0 ≤ b → b < n →
    ∃ z, whileF (toT (dOp gGt (dVar 3) (dCon (.int 0)))) (dPar 2 3 (dCons (dVar 3) (dCons (dOp gMod (dCB gInt (dConsV (dVar 2) dNil)) (dVar 3)) dNil))) n [x0, x1, .dat (.int a), .dat (.int b)] cs = .nx [x0, x1, .dat (.int (eu n a b)), .dat (.int z)] cs
  | 0, a, b, h0, h => by omega
  | n + 1, a, b, h0, h => by
    by_cases hb : 0 < b
    · have l := Int.emod_nonneg a (show b ≠ 0 by omega)
      have u := Int.emod_lt_of_pos a hb
      obtain ⟨z, e⟩ := eu_l x0 x1 cs n b (a % b) l (by omega)
      refine ⟨z, ?_⟩
      have eb := decide_eq_true hb
      rw [eu, if_pos hb, ← e]
      clear e
      refine whileF_go (c1 := cs) ?_ ?_ <;> walk_at "dl"
    · refine ⟨b, ?_⟩
      have eb := decide_eq_false hb
      rw [eu, if_neg hb]
      refine whileF_end ?_
      walk_at "dl"
theorem width_ok {c a b : Int} {cs : List CO} (c0 : 0 ≤ c) (c1 : c ≤ 600) (a0 : 1 ≤ a) (a1 : a ≤ 9999) (b0 : 1 ≤ b) (b1 : b ≤ 9999) :
    p_width_of [.dat (.int c), .dat (.int a), .dat (.int b)] cs = .ok (.dat (.tup [.int (c * b / eu 10000 (c * b) a), .int (a / eu 10000 (c * b) a)]), cs) := by
  have e1 := count_ok (cs := cs) c0 c1
  have e2 := need_ok (cs := cs) a0 a1
  have e3 := need_ok (cs := cs) b0 b1
  have m1 := mulB_l (i := c) (j := b) (by omega) (by omega)
  have n1 : 0 ≤ c * b := Int.mul_nonneg c0 (by omega)
  obtain ⟨g0, g1⟩ := eu_pos (n := 10000) (a := c * b) (b := a) (by decide) a0 n1
  have g2 : 0 < eu 10000 (c * b) a := by omega
  have g3 : eu 10000 (c * b) a < 1073741824 := by omega
  obtain ⟨z, w⟩ := eu_w (.dat (.int c)) (.dat (.int a)) (.dat (.int b)) (.dat (.int (c * b))) (.dat (.int a)) cs 10000 (c * b) a (by omega) (by omega)
  clear g0 g1 n1 a0 a1 b0 b1 c0 c1
  unfold p_width_of m_width_of
  walk_at "dl"
theorem least_ok {t a : Int} {cs : List CO} (t0 : 0 ≤ t) (a0 : 1 ≤ a) (a1 : a ≤ 9999) :
    p__law_least [.dat (.int t), .dat (.int a)] cs = .ok (.dat (.tup [.int (t / eu 10000 t a), .int (a / eu 10000 t a)]), cs) := by
  obtain ⟨g0, g1⟩ := eu_pos (n := 10000) (a := t) (b := a) (by decide) a0 t0
  have g2 : 0 < eu 10000 t a := by omega
  have g3 : eu 10000 t a < 1073741824 := by omega
  have g4 : (if eu 10000 t a > 1 then eu 10000 t a else 1) = eu 10000 t a := by split <;> omega
  obtain ⟨z, w⟩ := eu_l (.dat (.int t)) (.dat (.int a)) cs 10000 t a (by omega) (by omega)
  clear g0 g1 a0 a1 t0
  unfold p__law_least m__law_least
  walk_at "dl"
/-- the nearest so far -/
def bst (c wb : Int) : Option (Int × Int) → Int → Option (Int × Int)
  | none, i => some (if i * c - wb < 0 then -(i * c - wb) else i * c - wb, i)
  | some p, i => if (if i * c - wb < 0 then -(i * c - wb) else i * c - wb) < p.1 then some (if i * c - wb < 0 then -(i * c - wb) else i * c - wb, i) else some p
def b6 : Option (Int × Int) → D
  | none => .int (-1)
  | some p => .int p.1
def b7 : Option (Int × Int) → D
  | none => .non
  | some p => .int p.2
def b5 : Option (Int × Int) → D
  | none => .non
  | some p => .tup [.int p.1, .int p.2]
abbrev nearB : FS := bd__law_nearest_1
abbrev castB : FS := bd_cast_on_1
theorem near_one {w b c m r i : Int} {acc : Option (Int × Int)} {x5 x8 : SV} {cs : List CO} (m0 : 1 ≤ m) (i0 : 0 ≤ i) (i1 : i ≤ 600) (w0 : 0 ≤ w) (w1 : w ≤ 9999) (ha : ∀ p, acc = some p → 0 ≤ p.1) :
    ∃ y8, nearB [.dat (.int w), .dat (.int b), .dat (.int c), .dat (.int m), .dat (.int r), .dat (.int i), .dat (b6 acc), .dat (b7 acc), x8] cs
      = .nx [.dat (.int w), .dat (.int b), .dat (.int c), .dat (.int m), .dat (.int r), .dat (.int i), .dat (b6 (if i % m = r then bst c (w * b) acc i else acc)), .dat (b7 (if i % m = r then bst c (w * b) acc i else acc)), y8] cs := by
  have g1 : (if m > 1 then m else 1) = m := by split <;> omega
  have g2 : 0 < m := by omega
  have m1 := mulB_l (i := i) (j := c) (by omega) (by omega)
  have m2 := mulB_l (i := w) (j := b) (by omega) (by omega)
  clear i0 i1 w0 w1 m0
  unfold nearB bd__law_nearest_1
  by_cases hr : i % m = r
  · have er := decide_eq_true hr
    rw [if_pos hr]
    have key : ∀ g : Int, 0 ≤ g → decide (i * c - w * b ≥ 0) = true → i * c - w * b = g → True := fun _ _ _ _ => trivial
    by_cases hg : 0 ≤ i * c - w * b
    · have eg := decide_eq_true hg
      have el : ¬ (i * c - w * b < 0) := by omega
      cases acc with
      | none =>
        refine ⟨.dat (.int (i * c - w * b)), ?_⟩
        unfold b6 b7 bst
        simp only [if_neg el]
        clear hr
        walk_at "dl"
      | some p =>
        have p0 := ha p rfl
        have pl := decide_eq_false (show ¬ p.1 < 0 by omega)
        unfold b6 b7 bst
        simp only [if_neg el]
        refine ⟨.dat (.int (i * c - w * b)), ?_⟩
        by_cases hb : i * c - w * b < p.1
        · have eb := decide_eq_true hb
          rw [if_pos hb]
          clear hr
          walk_at "dl"
        · have eb := decide_eq_false hb
          rw [if_neg hb]
          clear hr
          walk_at "dl"
    · have eg := decide_eq_false hg
      have el : i * c - w * b < 0 := by omega
      have en : (0 : Int) - (i * c - w * b) = -(i * c - w * b) := Int.zero_sub _
      cases acc with
      | none =>
        refine ⟨.dat (.int (-(i * c - w * b))), ?_⟩
        unfold b6 b7 bst
        simp only [if_pos el]
        clear hr
        walk_at "dl"
      | some p =>
        have p0 := ha p rfl
        have pl := decide_eq_false (show ¬ p.1 < 0 by omega)
        unfold b6 b7 bst
        simp only [if_pos el]
        refine ⟨.dat (.int (-(i * c - w * b))), ?_⟩
        by_cases hb : -(i * c - w * b) < p.1
        · have eb := decide_eq_true hb
          rw [if_pos hb]
          clear hr
          walk_at "dl"
        · have eb := decide_eq_false hb
          rw [if_neg hb]
          clear hr
          walk_at "dl"
  · have er := decide_eq_false hr
    rw [if_neg hr]
    refine ⟨x8, ?_⟩
    clear ha
    walk_at "dl"
theorem cast_one {w b c i : Int} {acc : Option (Int × Int)} {x3 x4 x7 : SV} {cs : List CO} (i0 : 0 ≤ i) (i1 : i ≤ 600) (w0 : 0 ≤ w) (w1 : w ≤ 9999) :
    ∃ y7, castB [.dat (.int w), .dat (.int b), .dat (.int c), x3, x4, .dat (b5 acc), .dat (.int i), x7] cs
      = .nx [.dat (.int w), .dat (.int b), .dat (.int c), x3, x4, .dat (b5 (bst c (w * b) acc i)), .dat (.int i), y7] cs := by
  have m1 := mulB_l (i := i) (j := c) (by omega) (by omega)
  have m2 := mulB_l (i := w) (j := b) (by omega) (by omega)
  clear i0 i1 w0 w1
  unfold castB bd_cast_on_1
  refine ⟨.dat (.int (if i * c - w * b < 0 then -(i * c - w * b) else i * c - w * b)), ?_⟩
  cases acc with
  | none =>
    simp only [b5, bst]
    walk_at "dl"
  | some p =>
    by_cases hb : (if i * c - w * b < 0 then -(i * c - w * b) else i * c - w * b) < p.1
    · have eb := decide_eq_true hb
      simp only [b5, bst, if_pos hb]
      walk_at "dl"
    · have eb := decide_eq_false hb
      simp only [b5, bst, if_neg hb]
      walk_at "dl"
theorem bst_pos {c wb i : Int} {acc : Option (Int × Int)} (ha : ∀ p, acc = some p → 0 ≤ p.1) : ∀ p, bst c wb acc i = some p → 0 ≤ p.1 := by
  intro p e
  cases acc with
  | none =>
    simp only [bst, Option.some.injEq] at e
    subst e
    show 0 ≤ (if i * c - wb < 0 then -(i * c - wb) else i * c - wb)
    split <;> omega
  | some q =>
    simp only [bst] at e
    by_cases hb : (if i * c - wb < 0 then -(i * c - wb) else i * c - wb) < q.1
    · rw [if_pos hb] at e
      cases e
      show 0 ≤ (if i * c - wb < 0 then -(i * c - wb) else i * c - wb)
      split <;> omega
    · rw [if_neg hb] at e
      exact ha _ e
theorem near_loop {w b c m r : Int} {cs : List CO} (m0 : 1 ≤ m) (w0 : 0 ≤ w) (w1 : w ≤ 9999) : ∀ (L : List Int), (∀ i ∈ L, 0 ≤ i ∧ i ≤ 600) → ∀ (acc : Option (Int × Int)) (x5 x8 : SV), (∀ p, acc = some p → 0 ≤ p.1) →
    ∃ y5 y8, loopF (tgN 5) nearB (L.map D.int) [.dat (.int w), .dat (.int b), .dat (.int c), .dat (.int m), .dat (.int r), x5, .dat (b6 acc), .dat (b7 acc), x8] cs
      = .nx [.dat (.int w), .dat (.int b), .dat (.int c), .dat (.int m), .dat (.int r), y5, .dat (b6 ((L.filter fun i => i % m == r).foldl (bst c (w * b)) acc)), .dat (b7 ((L.filter fun i => i % m == r).foldl (bst c (w * b)) acc)), y8] cs
  | [], _, acc, x5, x8, _ => ⟨x5, x8, rfl⟩
  | i :: L, hL, acc, x5, x8, ha => by
    obtain ⟨i0, i1⟩ := hL i List.mem_cons_self
    obtain ⟨y8, e⟩ := near_one (b := b) (c := c) (r := r) (x5 := x5) (x8 := x8) (cs := cs) m0 i0 i1 w0 w1 ha
    have ha' : ∀ p, (if i % m = r then bst c (w * b) acc i else acc) = some p → 0 ≤ p.1 := by
      split
      · exact bst_pos ha
      · exact ha
    obtain ⟨z5, z8, e2⟩ := near_loop (b := b) (c := c) (r := r) (cs := cs) m0 w0 w1 L (fun i h => hL i (List.mem_cons_of_mem _ h)) _ (.dat (.int i)) y8 ha'
    refine ⟨z5, z8, ?_⟩
    rw [List.map_cons]
    refine (loopF_nx (s1 := [.dat (.int w), .dat (.int b), .dat (.int c), .dat (.int m), .dat (.int r), .dat (.int i), .dat (b6 acc), .dat (b7 acc), x8]) rfl e).trans (e2.trans ?_)
    by_cases hr : i % m = r
    · rw [if_pos hr, List.filter_cons_of_pos (by simpa using hr), List.foldl_cons]
    · rw [if_neg hr, List.filter_cons_of_neg (by simpa using hr)]
theorem cast_loop {w b c : Int} {x3 x4 : SV} {cs : List CO} (w0 : 0 ≤ w) (w1 : w ≤ 9999) : ∀ (L : List Int), (∀ i ∈ L, 0 ≤ i ∧ i ≤ 600) → ∀ (acc : Option (Int × Int)) (x6 x7 : SV),
    ∃ y6 y7, loopF (tgN 6) castB (L.map D.int) [.dat (.int w), .dat (.int b), .dat (.int c), x3, x4, .dat (b5 acc), x6, x7] cs
      = .nx [.dat (.int w), .dat (.int b), .dat (.int c), x3, x4, .dat (b5 (L.foldl (bst c (w * b)) acc)), y6, y7] cs
  | [], _, acc, x6, x7 => ⟨x6, x7, rfl⟩
  | i :: L, hL, acc, x6, x7 => by
    obtain ⟨i0, i1⟩ := hL i List.mem_cons_self
    obtain ⟨y7, e⟩ := cast_one (b := b) (c := c) (x3 := x3) (x4 := x4) (x7 := x7) (acc := acc) (cs := cs) i0 i1 w0 w1
    obtain ⟨z6, z7, e2⟩ := cast_loop (b := b) (c := c) (x3 := x3) (x4 := x4) (cs := cs) w0 w1 L (fun i h => hL i (List.mem_cons_of_mem _ h)) (bst c (w * b) acc i) (.dat (.int i)) y7
    refine ⟨z6, z7, ?_⟩
    rw [List.map_cons]
    exact (loopF_nx (s1 := [.dat (.int w), .dat (.int b), .dat (.int c), x3, x4, .dat (b5 acc), .dat (.int i), x7]) rfl e).trans e2
/-- the counts that are rest more than a multiple, one by one -/
theorem multiples (r m : Nat) (hm : r < m) : ∀ N, ((List.range N).map fun i : Nat => (i : Int)).filter (fun i => i % (m : Int) == (r : Int)) = (List.range ((N + m - 1 - r) / m)).map fun i : Nat => (r : Int) + (i : Nat) * (m : Int)
  | 0 => by
    rw [Nat.div_eq_of_lt (by omega)]; rfl
  | N + 1 => by
    rw [List.range_succ, List.map_append, List.filter_append, multiples r m hm N]
    by_cases hN : N % m = r
    · have e1 : N = m * (N / m) + r := by have := Nat.div_add_mod N m; omega
      have e2 : (N + m - 1 - r) / m = N / m := by
        refine Nat.div_eq_of_lt_le ?_ ?_
        · rw [Nat.mul_comm]; omega
        · rw [Nat.succ_mul, Nat.mul_comm]; omega
      have e3 : (N + 1 + m - 1 - r) / m = N / m + 1 := by
        refine Nat.div_eq_of_lt_le ?_ ?_
        · rw [Nat.succ_mul, Nat.mul_comm]; omega
        · rw [Nat.succ_mul, Nat.succ_mul, Nat.mul_comm]; omega
      rw [e2, e3, List.range_succ, List.map_append]
      congr 1
      rw [List.map_cons, List.map_nil, List.map_cons, List.map_nil, List.filter_cons_of_pos]
      · congr 1
        have : ((m * (N / m) + r : Nat) : Int) = (r : Int) + ((N / m : Nat) : Int) * (m : Int) := by
          push_cast
          rw [Int.mul_comm]; omega
        rw [← this]; omega
      · have : ((N % m : Nat) : Int) = (r : Int) := by rw [hN]
        rw [Int.natCast_emod] at this
        simpa using this
    · have h0 := Nat.div_add_mod N m
      have h1 := Nat.mod_lt N (show 0 < m by omega)
      have e3 : (N + 1 + m - 1 - r) / m = (N + m - 1 - r) / m := by
        by_cases hlt : N % m < r
        · have a1 : (N + m - 1 - r) / m = N / m := by
            refine Nat.div_eq_of_lt_le ?_ ?_
            · rw [Nat.mul_comm]; omega
            · rw [Nat.succ_mul, Nat.mul_comm]; omega
          have a2 : (N + 1 + m - 1 - r) / m = N / m := by
            refine Nat.div_eq_of_lt_le ?_ ?_
            · rw [Nat.mul_comm]; omega
            · rw [Nat.succ_mul, Nat.mul_comm]; omega
          rw [a1, a2]
        · have a1 : (N + m - 1 - r) / m = N / m + 1 := by
            refine Nat.div_eq_of_lt_le ?_ ?_
            · rw [Nat.succ_mul, Nat.mul_comm]; omega
            · rw [Nat.succ_mul, Nat.succ_mul, Nat.mul_comm]; omega
          have a2 : (N + 1 + m - 1 - r) / m = N / m + 1 := by
            refine Nat.div_eq_of_lt_le ?_ ?_
            · rw [Nat.succ_mul, Nat.mul_comm]; omega
            · rw [Nat.succ_mul, Nat.succ_mul, Nat.mul_comm]; omega
          rw [a1, a2]
      rw [e3, List.map_cons, List.map_nil, List.filter_cons_of_neg, List.filter_nil, List.append_nil]
      intro hh
      apply hN
      have h2 : (N : Int) % (m : Int) = (r : Int) := by simpa using hh
      rw [← Int.natCast_emod] at h2
      exact_mod_cast h2
/-- the best of the counts that fit -/
def best (w b c m r : Int) : Option (Int × Int) := ((((List.range 601).map fun i : Nat => (i : Int)).filter fun i => i % m == r).foldl (bst c (w * b)) none)
theorem rng_ints (n : Nat) : rngL 0 n = ((List.range n).map fun i : Nat => (i : Int)).map D.int := by
  unfold rngL
  rw [List.map_map]
  refine List.map_congr_left fun i _ => ?_
  show D.int (0 + (i : Int)) = D.int i
  rw [Int.zero_add]
theorem near_ok {w b c m r : Int} {cs : List CO} (m0 : 1 ≤ m) (w0 : 0 ≤ w) (w1 : w ≤ 9999) :
    p__law_nearest [.dat (.int w), .dat (.int b), .dat (.int c), .dat (.int m), .dat (.int r)] cs = .ok (.dat (b7 (best w b c m r)), cs) := by
  obtain ⟨y5, y8, e⟩ := near_loop (b := b) (c := c) (r := r) (cs := cs) m0 w0 w1 ((List.range 601).map fun i : Nat => (i : Int)) (fun i hi => by
    obtain ⟨j, hj, rfl⟩ := List.mem_map.mp hi
    have := List.mem_range.mp hj
    omega) none .un .un (fun p h => by cases h)
  rw [← rng_ints] at e
  have e' : loopF (tgN 5) nearB (rngL 0 601) [.dat (.int w), .dat (.int b), .dat (.int c), .dat (.int m), .dat (.int r), .un, .dat (.int (-1)), .dat .non, .un] cs = _ := e
  clear e
  clear w0 w1 m0
  unfold p__law_nearest m__law_nearest
  walk_at "dl"
  rfl
theorem cast_ok {w b c m r : Int} {cs : List CO} (w0 : 0 ≤ w) (w1 : w ≤ 9999) (b0 : 1 ≤ b) (b1 : b ≤ 9999) (c0 : 1 ≤ c) (c1 : c ≤ 9999) (m0 : 1 ≤ m) (m1 : m ≤ 9999) (r0 : 0 ≤ r) (r1 : r < m) :
    p_cast_on [.dat (.int w), .dat (.int b), .dat (.int c), .dat (.int m), .dat (.int r)] cs = .ok (.dat (b7 (best w b c m r)), cs) := by
  have n1 := need_ok (cs := cs) w0 w1
  have n2 := need_ok (cs := cs) b0 b1
  have n3 := need_ok (cs := cs) c0 c1
  have n4 := need_ok (cs := cs) m0 m1
  have n5 := whole_ok (cs := cs) (lo := 0) (hi := m - 1) r0 (by omega)
  obtain ⟨mn, rfl⟩ := Int.eq_ofNat_of_zero_le (show 0 ≤ m by omega)
  obtain ⟨rn, rfl⟩ := Int.eq_ofNat_of_zero_le r0
  have hrm : rn < mn := by omega
  have hs : Builtin.Range.rangeSize rn 601 mn = (((601 + mn - 1 - rn) / mn : Nat) : Int) := by
    unfold Builtin.Range.rangeSize
    rw [if_pos (by omega)]
    by_cases hr : rn < 601
    · rw [if_pos (by omega)]
      have e : 601 + mn - 1 - rn = (601 - rn - 1) + mn := by omega
      rw [e, Nat.add_div_right _ (by omega)]
      rw [Int.natCast_add, Int.natCast_ediv]
      have : ((601 - rn - 1 : Nat) : Int) = 601 - (rn : Int) - 1 := by omega
      rw [this]; rfl
    · rw [if_neg (by omega), Nat.div_eq_of_lt (by omega)]; rfl
  have q1 : ((mn : Int)) ≠ 0 := by omega
  have q2 : ((mn : Int)).natAbs < 1073741824 := by omega
  have q3 : Builtin.Range.small rn 601 mn = true := by
    unfold Builtin.Range.small
    rw [hs]
    simp only [Builtin.Range.rangeFitsLong, Bool.and_eq_true, Bool.or_eq_true, decide_eq_true_eq, beq_iff_eq]
    have hK : (601 + mn - 1 - rn) / mn ≤ 601 + mn - 1 - rn := Nat.div_le_self _ _
    have hK2 : 601 + mn - 1 - rn ≤ 11000 := by omega
    generalize (601 + mn - 1 - rn) / mn = K at hK ⊢
    rw [if_pos (show (mn : Int) > 0 by omega)]
    simp only [Bool.and_eq_true, decide_eq_true_eq]
    omega
  have q4 : 0 ≤ Builtin.Range.rangeSize rn 601 mn := by rw [hs]; exact Int.natCast_nonneg _
  have q5 : r3ok rn 601 mn = true := decide_eq_true ⟨q1, q2, q3, q4⟩
  have hl : rngC rn mn (Builtin.Range.rangeSize rn 601 mn).toNat = (((List.range 601).map fun i : Nat => (i : Int)).filter fun i => i % (mn : Int) == (rn : Int)).map D.int := by
    rw [hs, multiples rn mn hrm 601]
    unfold rngC
    rw [List.map_map]; rfl
  obtain ⟨y6, y7, e⟩ := cast_loop (b := b) (c := c) (x3 := .dat (.int mn)) (x4 := .dat (.int rn)) (cs := cs) w0 w1 (((List.range 601).map fun i : Nat => (i : Int)).filter fun i => i % (mn : Int) == (rn : Int)) (fun i hi => by
    obtain ⟨j, hj, rfl⟩ := List.mem_map.mp (List.mem_filter.mp hi).1
    have := List.mem_range.mp hj
    omega) none .un .un
  rw [← hl] at e
  have e' : loopF (tgN 6) castB (rngC rn mn (Builtin.Range.rangeSize rn 601 mn).toNat) [.dat (.int w), .dat (.int b), .dat (.int c), .dat (.int mn), .dat (.int rn), .dat .non, .un, .un] cs = .nx [.dat (.int w), .dat (.int b), .dat (.int c), .dat (.int mn), .dat (.int rn), .dat (b5 (best w b c mn rn)), y6, y7] cs := e
  clear e hl hs w0 w1 b0 b1 c0 c1 m0 m1 r0 r1 hrm
  unfold p_cast_on m_cast_on
  cases hb : best w b c mn rn with
  | none =>
    rw [hb] at e'
    simp only [b5] at e'
    simp only [b7]
    clear hb
    walk_at "dl"
  | some p =>
    rw [hb] at e'
    simp only [b5] at e'
    simp only [b7]
    clear hb
    walk_at "dl"
theorem bst_in {c wb i : Int} {acc : Option (Int × Int)} (i0 : 0 ≤ i) (i1 : i ≤ 600) (ha : ∀ p, acc = some p → 0 ≤ p.2 ∧ p.2 ≤ 600) : ∀ p, bst c wb acc i = some p → 0 ≤ p.2 ∧ p.2 ≤ 600 := by
  intro p e
  cases acc with
  | none => simp only [bst, Option.some.injEq] at e; subst e; exact ⟨i0, i1⟩
  | some q =>
    simp only [bst] at e
    by_cases hb : (if i * c - wb < 0 then -(i * c - wb) else i * c - wb) < q.1
    · rw [if_pos hb] at e; cases e; exact ⟨i0, i1⟩
    · rw [if_neg hb] at e; exact ha _ e
theorem fold_in {c wb : Int} : ∀ (L : List Int), (∀ i ∈ L, 0 ≤ i ∧ i ≤ 600) → ∀ acc : Option (Int × Int), (∀ p, acc = some p → 0 ≤ p.2 ∧ p.2 ≤ 600) → ∀ p, L.foldl (bst c wb) acc = some p → 0 ≤ p.2 ∧ p.2 ≤ 600
  | [], _, acc, ha => ha
  | i :: L, hL, acc, ha => by
    rw [List.foldl_cons]
    exact fold_in L (fun i h => hL i (List.mem_cons_of_mem _ h)) _ (bst_in (hL i List.mem_cons_self).1 (hL i List.mem_cons_self).2 ha)
theorem best_sm (w b c m r : Int) : (b7 (best w b c m r)).sm = true ∧ (b7 (best w b c m r)).dep = 0 ∧ (b7 (best w b c m r)).wt ≤ 40 := by
  have h : ∀ p, best w b c m r = some p → 0 ≤ p.2 ∧ p.2 ≤ 600 := fold_in _ (fun i hi => by
    obtain ⟨j, hj, rfl⟩ := List.mem_map.mp (List.mem_filter.mp hi).1
    have := List.mem_range.mp hj
    omega) none (fun p e => by cases e)
  cases hb : best w b c m r with
  | none => exact ⟨rfl, rfl, by decide⟩
  | some p =>
    have := h p hb
    refine ⟨decide_eq_true (show p.2.natAbs < 1000000000000 by omega), rfl, Nat.le_refl _⟩
/-- data small enough to be compared and shown, and a list of two of it -/
structure Few (d : D) : Prop where
  r : reprOk d = true
  r2 : reprOk (.lst [d, d]) = true
  e2 : eqB (.lst [d, d]) (.lst [d, d]) = some true
theorem few {d : D} (h : d.sm = true) (hd : d.dep ≤ 5) (hw : d.wt ≤ 1000) : Few d := by
  have s2 : (D.lst [d, d]).sm = true := by
    show (d.sm && (d.sm && true)) = true
    rw [h]; rfl
  have d2 : (D.lst [d, d]).dep ≤ 60 := by
    show max d.dep (max d.dep 0) + 1 ≤ 60
    omega
  have w2 : (D.lst [d, d]).wt ≤ 1048576 := by
    show d.wt + 1 + (d.wt + 1 + 0) ≤ 1048576
    omega
  exact ⟨reprOk_of h (by omega) (by omega), reprOk_of s2 d2 w2, eqB_refl s2 d2⟩
theorem inner_ok {ns : List Int} {k : Int} {cs : List CO} {n : Int} {x3 x4 x5 x6 x7 x8 x9 x10 x11 : SV} (h : Bx cs n) (hn : n < 800000) :
    ∃ y4 y5 y6 y7 y8 y9 y10 y11 cs', bd_law_1 [.scr ns, .dat (.int k), .cell 0, x3, x4, x5, x6, x7, x8, x9, x10, x11] cs = .nx [.scr ns, .dat (.int k), .cell 0, x3, y4, y5, y6, y7, y8, y9, y10, y11] cs' ∧ Bx cs' (n + 40) := by
  obtain ⟨a, c1, ea, a0, a1, b1⟩ := size_ok h (by omega)
  obtain ⟨b, c2, eb, b0, b1', b2⟩ := size_ok b1 (by omega)
  obtain ⟨d1, c3, e1, l1, u1, b3⟩ := tk (m := 601) b2 (by omega) (by decide) (by decide)
  obtain ⟨d2, c4, e2, l2, u2, b4⟩ := tk (m := 3) b3 (by omega) (by decide) (by decide)
  obtain ⟨_, q2, c, rfl, k0, k1⟩ := atI_all (P := fun x => ∃ s, x = D.int s ∧ 0 ≤ s ∧ s ≤ 600) (xs := [.int 0, .int 600, .int d1]) (i := d2) (by
    simp only [List.mem_cons, List.not_mem_nil, or_false, forall_eq_or_imp, forall_eq]
    refine ⟨⟨_, rfl, by omega, by omega⟩, ⟨_, rfl, by omega, by omega⟩, ⟨_, rfl, by omega, by omega⟩⟩) l2 u2
  have t0 : 0 ≤ c * b := Int.mul_nonneg k0 (by omega)
  have f1 := fun cs => least_ok (cs := cs) t0 a0 a1
  have f2 := fun cs => width_ok (cs := cs) k0 k1 a0 a1 b0 b1'
  have m1 := mulB_l (i := c) (j := b) (by omega) (by omega)
  have m2 := mulB_r (i := 2 * c + 1) (j := b) (by omega) (by omega)
  obtain ⟨d3, c5, e3, l3, u3, b5⟩ := tk (m := 10000) b4 (by omega) (by decide) (by decide)
  obtain ⟨d4, c6, e4, l4, u4, b6⟩ := tk (m := 5) b5 (by omega) (by decide) (by decide)
  have z1 : 0 ≤ c * b / a := Int.ediv_nonneg t0 (by omega)
  have z2 : 0 ≤ (2 * c + 1) * b / (2 * a) := Int.ediv_nonneg (Int.mul_nonneg (by omega) (by omega)) (by omega)
  obtain ⟨_, q4, w', rfl, w0'⟩ := atI_all (P := fun x => ∃ s, x = D.int s ∧ 0 ≤ s) (xs := [.int 0, .int 9999, .int (c * b / a), .int ((2 * c + 1) * b / (2 * a)), .int d3]) (i := d4) (by
    simp only [List.mem_cons, List.not_mem_nil, or_false, forall_eq_or_imp, forall_eq]
    refine ⟨⟨_, rfl, by omega⟩, ⟨_, rfl, by omega⟩, ⟨_, rfl, z1⟩, ⟨_, rfl, z2⟩, ⟨_, rfl, by omega⟩⟩) l4 u4
  obtain ⟨w, hw, w0, w1⟩ : ∃ w, (if w' < 9999 then w' else 9999) = w ∧ 0 ≤ w ∧ w ≤ 9999 := ⟨_, rfl, by split <;> omega, by split <;> omega⟩
  obtain ⟨d5, c7, e5, l5, u5, b7'⟩ := tk (m := 30) b6 (by omega) (by decide) (by decide)
  obtain ⟨d6, c8, e6, l6, u6, b8⟩ := tk (m := 6) b7' (by omega) (by decide) (by decide)
  obtain ⟨_, q6, m, rfl, m0, m9⟩ := atI_all (P := fun x => ∃ s, x = D.int s ∧ 1 ≤ s ∧ s ≤ 9999) (xs := [.int 1, .int 2, .int 8, .int 9999, .int 601, .int (1 + d5)]) (i := d6) (by
    simp only [List.mem_cons, List.not_mem_nil, or_false, forall_eq_or_imp, forall_eq]
    refine ⟨⟨_, rfl, by omega, by omega⟩, ⟨_, rfl, by omega, by omega⟩, ⟨_, rfl, by omega, by omega⟩, ⟨_, rfl, by omega, by omega⟩, ⟨_, rfl, by omega, by omega⟩, ⟨_, rfl, by omega, by omega⟩⟩) l6 u6
  obtain ⟨d7, c9, e7, l7, u7, b9⟩ := tk (m := m) b8 (by omega) (by omega) (by omega)
  obtain ⟨d8, c10, e8, l8, u8, b10⟩ := tk (m := 3) b9 (by omega) (by decide) (by decide)
  obtain ⟨_, q8, r, rfl, r0, r1⟩ := atI_all (P := fun x => ∃ s, x = D.int s ∧ 0 ≤ s ∧ s < m) (xs := [.int 0, .int (m - 1), .int d7]) (i := d8) (by
    simp only [List.mem_cons, List.not_mem_nil, or_false, forall_eq_or_imp, forall_eq]
    refine ⟨⟨_, rfl, by omega, by omega⟩, ⟨_, rfl, by omega, by omega⟩, ⟨_, rfl, by omega, by omega⟩⟩) l8 u8
  have v1 := fun cs => near_ok (b := a) (c := b) (r := r) (cs := cs) m0 w0 w1
  have v2 := fun cs => near_ok (b := a) (c := b) (r := 0) (cs := cs) m0 w0 w1
  have v3 := fun cs => near_ok (b := a) (c := b) (m := 1) (r := 0) (cs := cs) (by decide) w0 w1
  have o1 := fun cs => cast_ok (cs := cs) w0 w1 a0 a1 b0 b1' m0 m9 r0 r1
  have o2 := fun cs => cast_ok (r := 0) (cs := cs) w0 w1 a0 a1 b0 b1' m0 m9 (by omega) (by omega)
  have o3 := fun cs => cast_ok (m := 1) (r := 0) (cs := cs) w0 w1 a0 a1 b0 b1' (by decide) (by decide) (by decide) (by decide)
  obtain ⟨s1, s2, s3⟩ := few (best_sm w a b m r).1 (by rw [(best_sm w a b m r).2.1]; decide) (Nat.le_trans (best_sm w a b m r).2.2 (by decide))
  obtain ⟨s4, s5, s6⟩ := few (best_sm w a b m 0).1 (by rw [(best_sm w a b m 0).2.1]; decide) (Nat.le_trans (best_sm w a b m 0).2.2 (by decide))
  obtain ⟨s7, s8, s9⟩ := few (best_sm w a b 1 0).1 (by rw [(best_sm w a b 1 0).2.1]; decide) (Nat.le_trans (best_sm w a b 1 0).2.2 (by decide))
  generalize b7 (best w a b m r) = t1 at *
  generalize b7 (best w a b m 0) = t2 at *
  generalize b7 (best w a b 1 0) = t3 at *
  have g0 := (eu_pos (n := 10000) (a := c * b) (b := a) (by decide) a0 t0).1
  have g1 := (eu_pos (n := 10000) (a := c * b) (b := a) (by decide) a0 t0).2
  generalize eu 10000 (c * b) a = e at *
  have i1 : (c * b / e).natAbs < 1000000000000 := by
    have h1 : c * b / e ≤ c * b := Int.ediv_le_self _ t0
    have h2 : 0 ≤ c * b / e := Int.ediv_nonneg t0 (by omega)
    have h3 : c * b ≤ 600 * b := Int.mul_le_mul_of_nonneg_right k1 (by omega)
    omega
  have i2 : (a / e).natAbs < 1000000000000 := by
    have h1 : a / e ≤ a := Int.ediv_le_self _ (by omega)
    have h2 : 0 ≤ a / e := Int.ediv_nonneg (by omega) (by omega)
    omega
  obtain ⟨p1, p2, p3⟩ := few (d := .tup [.int (c * b / e), .int (a / e)]) (by
    show (decide ((c * b / e).natAbs < 1000000000000) && (decide ((a / e).natAbs < 1000000000000) && true)) = true
    rw [decide_eq_true i1, decide_eq_true i2]; rfl) (by show 0 + 1 ≤ 5; decide) (by show 40 + 1 + (40 + 1 + 0) ≤ 1000; decide)
  have y1 : 0 < a := by omega
  have y2 : a < 1073741824 := by omega
  have y3 : 0 < 2 * a := by omega
  have y4 : 2 * a < 1073741824 := by omega
  have B : Bx c10 (n + 40) := b10.mono (by omega)
  clear h b1 b2 b3 b4 b5 b6 b7' b8 b9 b10 l1 u1 l2 u2 l3 u3 l4 u4 l5 u5 l6 u6 l7 u7 l8 u8 z1 z2 w0 w1 m0 m9 r0 r1 k0 k1 t0 a0 a1 b0 b1' g0 g1 i1 i2 w0' hn
  iterate 9 apply Exists.intro
  refine And.intro ?_ B
  unfold bd_law_1
  walk_at "dl"
  try rfl
theorem outer_ok {ns : List Int} {k : Nat} {x1 x2 x3 x4 x5 x6 x7 x8 x9 x10 x11 : SV} :
    ∃ y2 y3 y4 y5 y6 y7 y8 y9 y10 y11, bd_law_2 [.scr ns, .dat (.int k), x2, x3, x4, x5, x6, x7, x8, x9, x10, x11] [] = .nx [.scr ns, .dat (.int k), y2, y3, y4, y5, y6, y7, y8, y9, y10, y11] [] := by
  obtain ⟨c, e1⟩ := cell_ok (k1 := 7927) (k2 := 52) (by decide) (ns := ns) (i := k) (cs := [])
  obtain ⟨b, e2, hb⟩ := box_ok c []
  have e1' : p__law_cell [.scr ns, .dat (.int k)] [] = .ok (.dat (.int c), []) := e1
  have e2' : p__law_box [.dat (.int c)] [] = .ok (.new b, []) := e2
  clear e1 e2
  obtain ⟨z4, z5, z6, z7, z8, z9, z10, z11, c1, q1, h1⟩ := inner_ok (ns := ns) (k := k) (x3 := .dat (.int 0)) (x4 := x4) (x5 := x5) (x6 := x6) (x7 := x7) (x8 := x8) (x9 := x9) (x10 := x10) (x11 := x11) hb (by decide)
  obtain ⟨a4, a5, a6, a7, a8, a9, a10, a11, c2, q2, h2⟩ := inner_ok (ns := ns) (k := k) (x3 := .dat (.int 1)) (x4 := z4) (x5 := z5) (x6 := z6) (x7 := z7) (x8 := z8) (x9 := z9) (x10 := z10) (x11 := z11) h1 (by decide)
  obtain ⟨d4, d5, d6, d7, d8, d9, d10, d11, c3, q3, h3⟩ := inner_ok (ns := ns) (k := k) (x3 := .dat (.int 2)) (x4 := a4) (x5 := a5) (x6 := a6) (x7 := a7) (x8 := a8) (x9 := a9) (x10 := a10) (x11 := a11) h2 (by decide)
  have lp : loopF (tgN 3) bd_law_1 (rngL 0 3) [.scr ns, .dat (.int k), .cell 0, x3, x4, x5, x6, x7, x8, x9, x10, x11] [b] = .nx [.scr ns, .dat (.int k), .cell 0, .dat (.int 2), d4, d5, d6, d7, d8, d9, d10, d11] c3 :=
    (loopF_nx (ds := [.int 1, .int 2]) rfl q1).trans ((loopF_nx (ds := [.int 2]) rfl q2).trans ((loopF_nx (ds := []) rfl q3).trans rfl))
  clear hb h1 h2 h3 q1 q2 q3
  iterate 10 apply Exists.intro
  unfold bd_law_2
  walk_at "dl"
  try rfl
theorem told (ns : List Int) (hl : ns.length ≤ 63) : ∃ cs, p_law [.scr ns] [] = .ok (.dat (.bl true), cs) := by
  refine ⟨[], ?_⟩
  obtain ⟨N, hN, hN'⟩ : ∃ N : Int, (if (if (ns.length : Int) < 8 then (ns.length : Int) else 8) > 2 then (if (ns.length : Int) < 8 then (ns.length : Int) else 8) else 2) = N ∧ 2 ≤ N ∧ N ≤ 8 := ⟨_, rfl, by split <;> omega, by split <;> omega⟩
  obtain ⟨n0, n1⟩ := hN'
  have lp := loop_inv (t := tgN 1) (body := bd_law_2) (fun _ sl cs => cs = [] ∧ ∃ x1 x2 x3 x4 x5 x6 x7 x8 x9 x10 x11, sl = [.scr ns, x1, x2, x3, x4, x5, x6, x7, x8, x9, x10, x11]) (rngL 0 N.toNat) 0 [.scr ns, .un, .un, .un, .un, .un, .un, .un, .un, .un, .un, .un] [] (by
    rintro i d sl cs _ hd ⟨rfl, x1, x2, x3, x4, x5, x6, x7, x8, x9, x10, x11, rfl⟩
    obtain ⟨hi, rfl⟩ := rngL_get hd
    obtain ⟨y2, y3, y4, y5, y6, y7, y8, y9, y10, y11, e⟩ := outer_ok (ns := ns) (k := i) (x1 := x1) (x2 := x2) (x3 := x3) (x4 := x4) (x5 := x5) (x6 := x6) (x7 := x7) (x8 := x8) (x9 := x9) (x10 := x10) (x11 := x11)
    refine ⟨_, rfl, _, _, .inl (?_ : _ = Flw.nx [.scr ns, .dat (.int i), y2, y3, y4, y5, y6, y7, y8, y9, y10, y11] []), rfl, _, _, _, _, _, _, _, _, _, _, _, rfl⟩
    rw [show (0 : Int) + ((i - 0 : Nat) : Int) = (i : Int) by omega]
    exact e) ⟨rfl, _, _, _, _, _, _, _, _, _, _, _, rfl⟩
  obtain ⟨s2, c2, e, rfl, -⟩ := lp
  have h0 : -4611686018427387904 ≤ N := by omega
  have h1 : N < 4611686018427387904 := by omega
  clear n0 n1
  unfold p_law m_law
  walk_at "dl"
end DL.L52

theorem PySem.Challenge.cw_knitrows_k52_widths_and_cast_ons_holds : PySem.Challenge.rw_knitrows_k52_widths_and_cast_ons.Holds := by
  exact DL.L52.holds DL.L52.told
